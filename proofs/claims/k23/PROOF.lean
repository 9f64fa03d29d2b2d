import PyProof.Rows.All
import Wide.All
import OpenK.AllK
import Wide.FinOn
import PyProof.ReprReads
import PyProof.Rows.ReprOcc
import KE.SortData
import HandS.ForMost
import HandS.Zip
import HandS.TupAny
import HandS.IsInst
import HandS.Flow
import HandS.Deep
import HandS.DictComp
import HandS.Defaults
import HandS.Style
import HandS.Walk
import KE.GoesEnum
import KE.KStateDown
import HandS.Words
import HandS.Head0
import HandS.Head1
import HandS.Head2
import HandS.HeadEnd
import HandS.HeadHook1
import HandS.HeadHook2
import HandS.HeadHook3
import HandS.HeadHook4
import HandS.Steps
import KE.SortLaws
import HandS.Conv
import HandS.WordsDict
import HandS.TupSets
import HandS.Strs
import PySem.Challenge.RW_allshelves_k23_whole_steps_exchanged
-- text A1
set_option Elab.async false
set_option linter.all false
set_option maxRecDepth 100000
set_option maxHeartbeats 2000000
namespace K23
open PySem PySem.Spec PyProof.Rows L2

/-! ## 1. defs that know that nothing is being shown (guards) -/
/-- what a call promises: arguments, heap, what is wanted behind -/
abbrev Sg := List V → Hp → VK → Prop
structure FnG (P : Program) (w : World) (K : PySem.W.Frag) (mg : Str → Option Value) (base : Heap) (k : Nat) (f : Addr) (fd : FuncData) (ps : List Str) (sg : Sg) : Prop where
  len : ∀ vs H Q, sg vs H Q → vs.length = ps.length
  go : ∀ (A : Around) (fr : List Env) (s : Shared) (H : Hp) (as : Args) (us : List Value) (vs : List V) (Q : VK), A.guards = some [] → Room k A →
    Env0 P w K mg base A fr s H → BindsTo s fd as (ps.zip us) → Vals vs us → sg vs H Q → codeAny (model P w) A (.call (.ref f) as) (CR CX0 fr P w H s Q E0) s
section
variable {P : Program} {w : World} {K : PySem.W.Frag} {mg : Str → Option Value} {base : Heap} {f : Addr} {fd : FuncData} {ps N : List Str} {sg : Sg} {k : Nat}
theorem FnG.up {j : Nat} (F : FnG P w K mg base k f fd ps sg) (h : k ≤ j) : FnG P w K mg base j f fd ps sg :=
  ⟨F.len, fun A fr s H as us vs Q hg hr => F.go A fr s H as us vs Q hg (hr.mono h)⟩
/-- the context of a def's body -/
structure Bod (X : Cx) (P : Program) (w : World) (K : PySem.W.Frag) (mg : Str → Option Value) (base : Heap) (k : Nat) (N : List Str) (sc : Scope) : Prop where
  prog : X.prog = P
  w : X.w = w
  K : X.K = K
  mg : X.mg = mg
  base : X.base = base
  N : X.N = N
  sc : X.env.scope = sc
  calm : X.calm = true
  room : Room k X.A
  gd : X.A.guards = some []
theorem fng_mk {x qual : Str} {pr : Arguments} {body : List Stmt} {scope : Scope} (F : FunD K x qual pr body scope [] [] f fd) (S : FnScope N ps scope) (hl : ∀ vs H Q, sg vs H Q → vs.length = ps.length)
    (hb : ∀ (cdv : Value) (A : Around) (fr : List Env) (s : Shared) (H : Hp) (vs : List V) (Q : VK), (A.deeper (envOfC qual scope s.heap.objs.size f cdv)).guards = some [] → Room k (A.deeper (envOfC qual scope s.heap.objs.size f cdv)) → sg vs H Q →
      ∃ t, PSs (cxOf CX0 P w K mg base N qual scope f cdv A fr s H E0).nox body t ∧ t { nx := fun _ H' => Q .non H', rt := Q } (start N vs) H) : FnG P w K mg base (k + 1) f fd ps sg := by
  obtain ⟨oc, od, dV, kV, doc, pm, an, cdv, ct, osl, rfl, lk, hcd, _, _⟩ := F.ex
  refine ⟨hl, fun A fr s H as us vs Q hg hr e0 hbind r hsg => ?_⟩
  have hlen := hl _ _ _ hsg
  have hold : ∀ b o, base.get? b = some o → s.heap.get? b = some o := fun b o e => (e0.bs b o e).1
  have KX : K.In s.heap := e0.mod.kin.keeps hold
  have hkind : ∀ y ∈ ps.zip us, scope.names.lookup y.1 = some .local ∨
      (scope.names.lookup y.1 = some .cell ∧ ((cellsFrom (s.heap.objs.size + 1) scope.names []).lookup y.1).isSome = true) := by
    rintro ⟨n, v⟩ hy
    exact (S.par n (List.of_mem_zip hy).1).imp id fun q => ⟨q, PySem.W.cellsFrom_some _ _ _ (.inl q)⟩
  refine codeAny_call_function hr.depth (KX _ _ lk) rfl S.co S.gen rfl (PySem.W.codeRec_of KX hcd) (hbind _ _ _ _ (wpAny_newFunctionEnv_cells S.kind hkind ?_))
  intro env he s1 x
  subst he
  refine ⟨(e0.mod.nolimit.keeps hold).keeps x.toInCall.keep, codeAny_func ?_⟩
  obtain ⟨t, ht, hq⟩ := hb cdv A fr s H vs Q hg (hr.deeper _) hsg
  have I : Inv (cxOf CX0 P w K mg base N qual scope f cdv A fr s H E0) [] (start N vs) H s1 :=
    inv_start S hr.hd e0 hlen r x
  refine wpAny_mono (ht.nox.run [] s1 (start N vs) H _ I hq) (fun fl s' hs => ?_) fun e s' hs => hs
  cases fl with
  | ret u => exact let ⟨v, _, H', J, rv, q⟩ := hs; ⟨v, H', J.os, J.bare, J.base, J.hok, rv, q⟩
  | next => exact let ⟨_, H', J, q⟩ := hs; ⟨.non, H', J.os, J.bare, J.base, J.hok, rfl, q⟩
  | brk => exact let ⟨_, _, _, q⟩ := hs; False.elim q
  | cont => exact let ⟨_, _, _, q⟩ := hs; False.elim q
end

section
variable {X : Cx} {k : Nat} {f : Addr} {fd : FuncData} {ps : List Str} {sg : Sg} {pins : List (Addr × Obj)} {σ : L2.St} {H : Hp} {s : Shared} {Q : VK}
/-- the callee runs: positional arguments, then keywords -/
theorem fng_run {as : Args} {us : List Value} {vs : List V} (F : FnG X.prog X.w X.K X.mg X.base k f fd ps sg) (hg : X.A.guards = some []) (hr : Room k X.A) (I : Inv X pins σ H s) (hb : BindsTo s fd as (ps.zip us)) (r : Vals vs us) (h : sg vs H Q) :
    codeAny (model X.prog X.w) X.A (.call (.ref f) as) (fun q s' => ∃ u, q = .ok (.ret u) ∧ EP X pins σ Q u s') s := by
  refine codeAny_mono (F.go X.A X.stack s H as us vs Q hg hr I.env0 hb r h) fun q s' hq => ?_
  match q, hq with
  | .error _, hq => exact hq.elim
  | .ok (.ret u), hq => exact ⟨u, rfl, I.after hq⟩
  | .ok .next, hq => exact hq.elim
  | .ok .brk, hq => exact hq.elim
  | .ok .cont, hq => exact hq.elim
theorem fng_call {us : List Value} {vs : List V} (F : FnG X.prog X.w X.K X.mg X.base k f fd ps sg) (hg : X.A.guards = some []) (hr : Room k X.A) (I : Inv X pins σ H s) (hb : Binds X.K fd ps []) (r : Vals vs us) (h : sg vs H Q) :
    wpAny (model X.prog X.w) X.A (call (.ref f) us) (EP X pins σ Q) X.xe s := by
  have hl : (us ++ ([] : List Value)).length = ps.length := by
    rw [List.append_nil, ← r.length]
    exact F.len _ _ _ h
  have b := hb s us I.kIn hl
  rw [List.append_nil] at b
  refine wpAny_call (codeAny_mono (fng_run F hg hr I b r h) ?_)
  rintro q s' ⟨u, rfl, h'⟩
  exact h'
end
end K23

-- text A2
set_option Elab.async false
set_option linter.all false
set_option maxRecDepth 100000
set_option maxHeartbeats 2000000
namespace K23
open PySem PySem.Spec PyProof.Rows L2

/-! ## 2. deep values as data -/
inductive D where
  | non | bl (b : Bool) | int (i : Int) | str (x : Str) | tup (ds : List D) | ktp (zs : List Str) | lst (ds : List D) | adr (a : Addr)

/-- no list, no bare address within -/
def D.imm : D → Bool
  | .tup ds => imms ds
  | .lst _ | .adr _ => false
  | _ => true
where imms : List D → Bool
  | [] => true
  | d :: ds => D.imm d && imms ds

mutual
/-- v is the datum d in H; S: the addresses that may still change (no list of the datum stands there) -/
inductive Is (K : PySem.W.Frag) (S : Addr → Prop) (H : Hp) : V → D → Prop
  | non : Is K S H .non .non
  | bl (b : Bool) : Is K S H (.bl b) (.bl b)
  | int (i : Int) : Is K S H (.int i) (.int i)
  | str (x : Str) : Is K S H (.str x) (.str x)
  | adr (a : Addr) : Is K S H (.ref a) (.adr a)
  | tup {a : Addr} {xs : List V} {ds : List D} : H a = some (.tup xs) → Iss K S H xs ds → Is K S H (.ref a) (.tup ds)
  | ktp {a : Addr} {zs : List Str} : SqT K H a (zs.map V.str) → Is K S H (.ref a) (.ktp zs)
  | lst {a : Addr} {xs : List V} {ds : List D} : H a = some (.lst xs) → ¬ S a → Iss K S H xs ds → Is K S H (.ref a) (.lst ds)
inductive Iss (K : PySem.W.Frag) (S : Addr → Prop) (H : Hp) : List V → List D → Prop
  | nil : Iss K S H [] []
  | cons {v : V} {vs : List V} {d : D} {ds : List D} : Is K S H v d → Iss K S H vs ds → Iss K S H (v :: vs) (d :: ds)
end

/-- the heap grows; only what stands at B may have changed, tuples and known objects never do -/
structure Ex (B : Addr → Prop) (H H' : Hp) : Prop where
  old : ∀ a o, H a = some o → ¬ B a → H' a = some o
  tup : ∀ a xs, H a = some (.tup xs) → H' a = some (.tup xs)
  frz : ∀ a o u, H a = some (.frz o u) → H' a = some (.frz o u)
  dom : ∀ a, H a ≠ none → H' a ≠ none
abbrev NoA : Addr → Prop := fun _ => False
theorem Ex.refl {B : Addr → Prop} (H : Hp) : Ex B H H := ⟨fun _ _ h _ => h, fun _ _ h => h, fun _ _ _ h => h, fun _ h => h⟩
theorem Ex.trans {B : Addr → Prop} {H H1 H2 : Hp} (a : Ex B H H1) (b : Ex B H1 H2) : Ex B H H2 :=
  ⟨fun x o h n => b.old x o (a.old x o h n) n, fun x xs h => b.tup x xs (a.tup x xs h), fun x o u h => b.frz x o u (a.frz x o u h), fun x h => b.dom x (a.dom x h)⟩
theorem Ex.wide {B C : Addr → Prop} {H H' : Hp} (e : Ex B H H') (h : ∀ a, B a → C a) : Ex C H H' := ⟨fun a o q n => e.old a o q fun z => n (h a z), e.tup, e.frz, e.dom⟩
theorem Ex.pure {B : Addr → Prop} {H H' : Hp} (e : Ex NoA H H') : Ex B H H' := e.wide fun _ z => z.elim
theorem Ex.new {B : Addr → Prop} {H : Hp} {p : Addr} {o : HO} (h : H p = none) : Ex B H (upd H p o) := by
  have k : ∀ a u, H a = some u → upd H p o a = some u := fun a u q => by
    rw [upd_ne (ne_of_none q h)]
    exact q
  refine ⟨fun a u q _ => k a u q, fun a xs q => k a _ q, fun a u z q => k a _ q, fun a q z => ?_⟩
  cases e : H a with
  | none => exact q e
  | some u =>
    rw [k a u e] at z
    cases z
theorem Ex.free {B : Addr → Prop} {H H' : Hp} (e : Ex B H H') {p : Addr} (h : H' p = none) : H p = none := by
  cases q : H p with
  | none => rfl
  | some o => exact absurd h (e.dom p (by rw [q]; exact fun z => nomatch z))
/-- an object at q is changed into another one (no tuple, no known one) -/
theorem Ex.put {B : Addr → Prop} {H : Hp} {q : Addr} {o u : HO} (h : H q = some o) (hb : B q) (ht : ∀ xs, o ≠ .tup xs) (hf : ∀ z w, o ≠ .frz z w) : Ex B H (upd H q u) := by
  refine ⟨fun a z e n => ?_, fun a xs e => ?_, fun a z w e => ?_, fun a e => ?_⟩
  · rw [upd_ne (fun c => n (by rw [c]; exact hb))]; exact e
  · rw [upd_ne (fun c => by subst c; rw [h] at e; exact ht xs (Option.some.inj e))]; exact e
  · rw [upd_ne (fun c => by subst c; rw [h] at e; exact hf z w (Option.some.inj e))]; exact e
  · by_cases c : a = q
    · subst c; rw [upd_same]; exact fun z => nomatch z
    · rw [upd_ne c]; exact e
theorem Ex.rdT {B : Addr → Prop} {H H' : Hp} (e : Ex B H H') {K : PySem.W.Frag} {a : Addr} {xs : List V} (h : SqT K H a xs) : SqT K H' a xs := by
  rcases h with (h | ⟨o, h⟩) | h
  · exact .inl (.inl (e.tup _ _ h))
  · exact .inl (.inr ⟨o, e.frz _ _ _ h⟩)
  · exact .inr h

section
variable {K : PySem.W.Frag} {S S' B : Addr → Prop} {H H' : Hp}
mutual
theorem Is.mono (e : Ex B H H') (hb : ∀ a, B a → S a) : ∀ {d : D} {v : V}, Is K S H v d → Is K S H' v d
  | _, _, .non => .non
  | _, _, .bl b => .bl b
  | _, _, .int i => .int i
  | _, _, .str x => .str x
  | _, _, .adr a => .adr a
  | _, _, .tup h1 h2 => .tup (e.tup _ _ h1) (Iss.mono e hb h2)
  | _, _, .ktp h1 => .ktp (e.rdT h1)
  | _, _, .lst h1 h2 h3 => .lst (e.old _ _ h1 fun z => h2 (hb _ z)) h2 (Iss.mono e hb h3)
theorem Iss.mono (e : Ex B H H') (hb : ∀ a, B a → S a) : ∀ {ds : List D} {vs : List V}, Iss K S H vs ds → Iss K S H' vs ds
  | _, _, .nil => .nil
  | _, _, .cons h t => .cons (Is.mono e hb h) (Iss.mono e hb t)
end
mutual
theorem Is.imm (e : Ex B H H') : ∀ {d : D} {v : V}, d.imm = true → Is K S H v d → Is K S' H' v d
  | _, _, _, .non => .non
  | _, _, _, .bl b => .bl b
  | _, _, _, .int i => .int i
  | _, _, _, .str x => .str x
  | _, _, q, .tup h1 h2 => .tup (e.tup _ _ h1) (Iss.imm e q h2)
  | _, _, _, .ktp h1 => .ktp (e.rdT h1)
theorem Iss.imm (e : Ex B H H') : ∀ {ds : List D} {vs : List V}, D.imm.imms ds = true → Iss K S H vs ds → Iss K S' H' vs ds
  | _, _, _, .nil => .nil
  | _, _, q, .cons h t => .cons (Is.imm e (Bool.and_eq_true_iff.mp q).1 h) (Iss.imm e (Bool.and_eq_true_iff.mp q).2 t)
end
mutual
theorem Is.sub (h : ∀ a o, H a = some o → S' a → S a) : ∀ {d : D} {v : V}, Is K S H v d → Is K S' H v d
  | _, _, .non => .non
  | _, _, .bl b => .bl b
  | _, _, .int i => .int i
  | _, _, .str x => .str x
  | _, _, .adr a => .adr a
  | _, _, .tup h1 h2 => .tup h1 (Iss.sub h h2)
  | _, _, .ktp h1 => .ktp h1
  | _, _, .lst h1 h2 h3 => .lst h1 (fun z => h2 (h _ _ h1 z)) (Iss.sub h h3)
theorem Iss.sub (h : ∀ a o, H a = some o → S' a → S a) : ∀ {ds : List D} {vs : List V}, Iss K S H vs ds → Iss K S' H vs ds
  | _, _, .nil => .nil
  | _, _, .cons q t => .cons (Is.sub h q) (Iss.sub h t)
end
theorem Iss.length : ∀ {vs : List V} {ds : List D}, Iss K S H vs ds → vs.length = ds.length
  | _, _, .nil => rfl
  | _, _, .cons _ t => congrArg (· + 1) (Iss.length t)
theorem Iss.get : ∀ {vs : List V} {ds : List D} {i : Nat} {d : D}, Iss K S H vs ds → ds[i]? = some d → ∃ v, vs[i]? = some v ∧ Is K S H v d
  | _, _, _, _, .nil, e => by simp at e
  | _, _, 0, _, .cons h _, e => by simp at e; subst e; exact ⟨_, rfl, h⟩
  | _, _, i + 1, _, .cons _ t, e => by
    obtain ⟨v, h1, h2⟩ := Iss.get (i := i) t (by simpa using e)
    exact ⟨v, by simpa using h1, h2⟩
theorem Iss.getV : ∀ {vs : List V} {ds : List D} {i : Nat} {v : V}, Iss K S H vs ds → vs[i]? = some v → ∃ d, ds[i]? = some d ∧ Is K S H v d
  | _, _, _, _, .nil, e => by simp at e
  | _, _, 0, _, .cons h _, e => by simp at e; subst e; exact ⟨_, rfl, h⟩
  | _, _, i + 1, _, .cons _ t, e => by
    obtain ⟨v, h1, h2⟩ := Iss.getV (i := i) t (by simpa using e)
    exact ⟨v, by simpa using h1, h2⟩
theorem Iss.append : ∀ {vs ws : List V} {ds es : List D}, Iss K S H vs ds → Iss K S H ws es → Iss K S H (vs ++ ws) (ds ++ es)
  | _, _, _, _, .nil, s => s
  | _, _, _, _, .cons h t, s => .cons h (Iss.append t s)
theorem Iss.take : ∀ {vs : List V} {ds : List D} (n : Nat), Iss K S H vs ds → Iss K S H (vs.take n) (ds.take n)
  | _, _, 0, _ => .nil
  | _, _, _ + 1, .nil => .nil
  | _, _, n + 1, .cons h t => .cons h (Iss.take n t)
theorem Iss.drop : ∀ {vs : List V} {ds : List D} (n : Nat), Iss K S H vs ds → Iss K S H (vs.drop n) (ds.drop n)
  | _, _, 0, r => r
  | _, _, _ + 1, .nil => .nil
  | _, _, n + 1, .cons _ t => Iss.drop n t
theorem Iss.nil_iff {vs : List V} {ds : List D} (h : Iss K S H vs ds) : vs = [] ↔ ds = [] := by
  cases h with
  | nil => exact ⟨fun _ => rfl, fun _ => rfl⟩
  | cons _ _ => exact ⟨(fun z => nomatch z), (fun z => nomatch z)⟩
theorem Iss.rel {vs : List V} {ds : List D} (h : Iss K S H vs ds) : ∀ {i : Nat}, (vs[i]? = none ↔ ds[i]? = none) := by
  intro i
  rw [List.getElem?_eq_none_iff, List.getElem?_eq_none_iff, h.length]
end

/-! ### the slots -/
structure En (K : PySem.W.Frag) (S : Addr → Prop) (H : Hp) (σ : L2.St) (ds : List (Option D)) : Prop where
  len : σ.length = ds.length
  at_ : ∀ (i : Nat) (d : D), ds[i]? = some (some d) → ∃ v, σ[i]? = some (some v) ∧ Is K S H v d
section
variable {K : PySem.W.Frag} {S S' B : Addr → Prop} {H H' : Hp} {σ : L2.St} {ds : List (Option D)}
theorem En.mono (e : Ex B H H') (hb : ∀ a, B a → S a) (h : En K S H σ ds) : En K S H' σ ds := ⟨h.len, fun i d q => let ⟨v, a, b⟩ := h.at_ i d q; ⟨v, a, b.mono e hb⟩⟩
theorem En.sub (g : ∀ a o, H a = some o → S' a → S a) (h : En K S H σ ds) : En K S' H σ ds := ⟨h.len, fun i d q => let ⟨v, a, b⟩ := h.at_ i d q; ⟨v, a, b.sub g⟩⟩
theorem En.set (h : En K S H σ ds) {i : Nat} {v : V} {d : D} (hv : Is K S H v d) : En K S H (σ.set i (some v)) (ds.set i (some d)) := by
  refine ⟨by simpa using h.len, fun j e q => ?_⟩
  by_cases hj : i = j
  · subst hj
    by_cases hi : i < ds.length
    · rw [List.getElem?_set_self hi] at q
      cases q
      exact ⟨v, by rw [List.getElem?_set_self (by rw [h.len]; exact hi)], hv⟩
    · rw [List.getElem?_eq_none_iff.mpr (by simpa using hi)] at q
      cases q
  · rw [List.getElem?_set_ne hj] at q ⊢
    exact h.at_ j e q
theorem En.start {vs : List V} {es : List D} (h : Iss K S H vs es) (N : List Str) (n : Nat) (hn : N.length - vs.length = n) : En K S H (start N vs) (es.map some ++ List.replicate n none) := by
  have hl := h.length
  subst hn
  refine ⟨by simp [L2.start, hl], fun i d q => ?_⟩
  by_cases hi : i < es.length
  · rw [List.getElem?_append_left (by simpa using hi), List.getElem?_map] at q
    cases e : es[i]? with
    | none => rw [e] at q; cases q
    | some z =>
      rw [e] at q
      cases q
      obtain ⟨v, h1, h2⟩ := h.get e
      refine ⟨v, ?_, h2⟩
      unfold L2.start
      rw [List.getElem?_append_left (by simpa [hl] using hi), List.getElem?_map, h1]
      rfl
  · rw [List.getElem?_append_right (by simpa using hi), List.getElem?_replicate] at q
    split at q <;> cases q
/-- forgetting slots -/
def wipeD (ds : List (Option D)) : List Nat → List (Option D)
  | [] => ds
  | v :: vs => (wipeD ds vs).set v none
theorem En.wipe (h : En K S H σ ds) : ∀ (own : List Nat), En K S H (L2.wipe σ own) (wipeD ds own)
  | [] => h
  | i :: own => by
    have g := En.wipe h own
    refine ⟨by simpa [L2.wipe, wipeD] using g.len, fun j d q => ?_⟩
    unfold wipeD at q
    unfold L2.wipe
    by_cases hj : i = j
    · subst hj
      by_cases hi : i < (wipeD ds own).length
      · rw [List.getElem?_set_self hi] at q
        cases q
      · rw [List.getElem?_eq_none_iff.mpr (by simpa using hi)] at q
        cases q
    · rw [List.getElem?_set_ne hj] at q ⊢
      exact g.at_ j d q
end
end K23

-- text A3
set_option Elab.async false
set_option linter.all false
set_option maxRecDepth 100000
set_option maxHeartbeats 2000000
namespace K23
open PySem PySem.Spec PyProof.Rows L2

/-! ## 3. the state around: what may change (S), what is known of it (W), what that leans on (dep) -/
structure Md where
  S : Addr → Prop
  W : Hp → Prop
  dep : Addr → Prop
  sd : ∀ a, S a → dep a
  dom : ∀ H a, W H → dep a → H a ≠ none
  ext : ∀ H H' B, W H → (∀ a, B a → ¬ dep a) → Ex B H H' → W H'
theorem Md.pure {M : Md} {H H' : Hp} (w : M.W H) (e : Ex NoA H H') : M.W H' := M.ext H H' NoA w (fun _ z => z.elim) e
theorem Md.new {M : Md} {H : Hp} {p : Addr} {o : HO} (w : M.W H) (h : H p = none) : M.W (upd H p o) := Md.pure w (Ex.new h)
theorem Md.free {M : Md} {H : Hp} {p : Addr} (w : M.W H) (h : H p = none) : ¬ M.dep p := fun d => M.dom H p w d h
theorem Md.freeS {M : Md} {H : Hp} {p : Addr} (w : M.W H) (h : H p = none) : ¬ M.S p := fun d => M.free w h (M.sd p d)
/-- nothing is known, nothing may change -/
def Md.void : Md := ⟨NoA, fun _ => True, NoA, fun _ z => z, fun _ _ _ z => z.elim, fun _ _ _ _ _ _ => trivial⟩
/-- .. and H0 stands as it was but for S -/
def Md.at (M : Md) (H0 : Hp) : Md where
  S := M.S
  W := fun H => M.W H ∧ Ex M.S H0 H
  dep := fun a => M.dep a ∨ (H0 a ≠ Option.none)
  sd := fun a h => .inl (M.sd a h)
  dom := fun H a w d => d.elim (M.dom H a w.1) fun z => w.2.dom a z
  ext := fun H H' B w hb e => by
    have hn : ∀ a, H0 a ≠ Option.none → ¬ B a := fun a z q => hb a q (.inr z)
    refine ⟨M.ext H H' B w.1 (fun a q d => hb a q (.inl d)) e, fun a o q n => ?_, fun a xs q => e.tup a xs (w.2.tup a xs q), fun a o u q => e.frz a o u (w.2.frz a o u q), fun a q => e.dom a (w.2.dom a q)⟩
    exact e.old a o (w.2.old a o q n) (hn a (by rw [q]; exact fun z => nomatch z))
/-- .. and an object of our own at q, which may change -/
def Md.own (M : Md) (q : Addr) (o : HO) (ht : ∀ xs, o ≠ .tup xs) : Md where
  S := fun a => M.S a ∨ a = q
  W := fun H => M.W H ∧ H q = some o
  dep := fun a => M.dep a ∨ a = q
  sd := fun a h => h.imp (M.sd a) id
  dom := fun H a w d => d.elim (M.dom H a w.1) fun z => by rw [z, w.2]; exact fun z => nomatch z
  ext := fun H H' B w hb e => ⟨M.ext H H' B w.1 (fun a q d => hb a q (.inl d)) e, e.old q o w.2 fun z => hb q z (.inr rfl)⟩
/-- .. and a list of our own at q, of data without lists -/
def Md.push (M : Md) (K : PySem.W.Frag) (q : Addr) (l : List D) (hi : D.imm.imms l = true) : Md where
  S := fun a => M.S a ∨ a = q
  W := fun H => M.W H ∧ ∃ xs, H q = some (.lst xs) ∧ Iss K NoA H xs l
  dep := fun a => M.dep a ∨ a = q
  sd := fun a h => h.imp (M.sd a) id
  dom := fun H a w d => d.elim (M.dom H a w.1) fun z => by
    obtain ⟨xs, e, _⟩ := w.2
    rw [z, e]
    exact fun z => nomatch z
  ext := fun H H' B w hb e => by
    obtain ⟨w1, xs, e1, is⟩ := w
    exact ⟨M.ext H H' B w1 (fun a q d => hb a q (.inl d)) e, xs, e.old q _ e1 fun z => hb q z (.inr rfl), is.imm e hi⟩

/-! ## 4. judgements: an expression gives a datum with P, a test a truth with P -/
def tD (K : PySem.W.Frag) (M : Md) (ds : List (Option D)) (P : D → Prop) : TE := fun σ H Q =>
  En K M.S H σ ds ∧ M.W H ∧ ∀ d v H', P d → Ex M.S H H' → M.W H' → Is K M.S H' v d → Q v H'
def tT (K : PySem.W.Frag) (M : Md) (ds : List (Option D)) (P : Bool → Prop) : TT := fun σ H Q =>
  En K M.S H σ ds ∧ M.W H ∧ ∀ b H', P b → Ex M.S H H' → M.W H' → Q b H'
def tA (K : PySem.W.Frag) (M : Md) (ds : List (Option D)) (P : List D → Prop) : TA := fun σ H Q =>
  En K M.S H σ ds ∧ M.W H ∧ ∀ es vs H', P es → Ex M.S H H' → M.W H' → Iss K M.S H' vs es → Q vs H'
structure BP (X : Cx) (M : Md) (ds : List (Option D)) (e : Expr) (P : D → Prop) : Prop where
  pe : PE X e (tD X.K M ds P)
structure BT (X : Cx) (M : Md) (ds : List (Option D)) (e : Expr) (P : Bool → Prop) : Prop where
  pt : PT X e (tT X.K M ds P)
structure BA (X : Cx) (M : Md) (ds : List (Option D)) (es : List Expr) (P : List D → Prop) : Prop where
  pa : PA X es (tA X.K M ds P)
/-- an expression gives this datum -/
abbrev BE (X : Cx) (M : Md) (ds : List (Option D)) (e : Expr) (d : D) : Prop := BP X M ds e fun x => x = d
abbrev BTE (X : Cx) (M : Md) (ds : List (Option D)) (e : Expr) (b : Bool) : Prop := BT X M ds e fun x => x = b
abbrev BAE (X : Cx) (M : Md) (ds : List (Option D)) (es : List Expr) (l : List D) : Prop := BA X M ds es fun x => x = l

theorem PE.imp {X : Cx} {e : Expr} {t t' : TE} (h : PE X e t) (i : ∀ σ H Q, t' σ H Q → t σ H Q) : PE X e t' := ⟨fun pins s σ H Q I q => h.run pins s σ H Q I (i σ H Q q)⟩
theorem PT.imp {X : Cx} {e : Expr} {t t' : TT} (h : PT X e t) (i : ∀ σ H Q, t' σ H Q → t σ H Q) : PT X e t' := ⟨fun pins s σ H Q I q => h.run pins s σ H Q I (i σ H Q q)⟩
theorem PA.imp {X : Cx} {e : List Expr} {t t' : TA} (h : PA X e t) (i : ∀ σ H Q, t' σ H Q → t σ H Q) : PA X e t' := ⟨fun pos pins s σ H Q I q => h.run pos pins s σ H Q I (i σ H Q q)⟩
section
variable {X : Cx} {M : Md} {ds : List (Option D)} {e : Expr} {P P' : D → Prop}
theorem BP.imp (h : BP X M ds e P) (i : ∀ d, P d → P' d) : BP X M ds e P' := ⟨PE.imp h.pe fun _ _ _ q => ⟨q.1, q.2.1, fun d v H' p => q.2.2 d v H' (i d p)⟩⟩
theorem BT.imp {P P' : Bool → Prop} (h : BT X M ds e P) (i : ∀ d, P d → P' d) : BT X M ds e P' := ⟨PT.imp h.pt fun _ _ _ q => ⟨q.1, q.2.1, fun d H' p => q.2.2 d H' (i d p)⟩⟩
theorem BP.is {d d' : D} (h : BE X M ds e d) (i : d = d') : BE X M ds e d' := by rw [← i]; exact h
theorem BT.is {d d' : Bool} (h : BTE X M ds e d) (i : d = d') : BTE X M ds e d' := by rw [← i]; exact h
/-- by a reading of one's own -/
theorem BP.of {t : TE} (h : PE X e t) (i : ∀ σ H Q, En X.K M.S H σ ds → M.W H → (∀ d v H', P d → Ex M.S H H' → M.W H' → Is X.K M.S H' v d → Q v H') → t σ H Q) : BP X M ds e P := ⟨PE.imp h fun σ H Q q => i σ H Q q.1 q.2.1 q.2.2⟩
theorem BT.of {t : TT} {P : Bool → Prop} (h : PT X e t) (i : ∀ σ H Q, En X.K M.S H σ ds → M.W H → (∀ d H', P d → Ex M.S H H' → M.W H' → Q d H') → t σ H Q) : BT X M ds e P := ⟨PT.imp h fun σ H Q q => i σ H Q q.1 q.2.1 q.2.2⟩
/-- going through a part: the part's reading asks the slots, then hands on -/
theorem tD.go {K : PySem.W.Frag} {σ : L2.St} {H : Hp} {Q : VK} (en : En K M.S H σ ds) (w : M.W H) (k : ∀ d v H', P d → Ex M.S H H' → M.W H' → Is K M.S H' v d → Q v H') : tD K M ds P σ H Q := ⟨en, w, k⟩
end

/-! ### names, constants -/
section
variable {X : Cx} {M : Md} {ds : List (Option D)}
theorem be_var (i : Nat) {x : Str} {d : D} {pos : Pos} (h : ds[i]? = some (some d) := by rfl) (hN : X.N[i]? = some x := by rfl) (hv : Vis X.env.scope x := by first | exact Or.inl rfl | exact Or.inr (Or.inl rfl) | exact Or.inr (Or.inr rfl))
    (hd : (x == ("__debug__" : Str)) = false := by decide) (hc : (x == ("__classdict__" : Str)) = false := by decide) : BE X M ds (.Name x pos) d :=
  .of (pv i hN hv hd hc) fun σ H Q en w k => let ⟨v, a, b⟩ := en.at_ i d h; ⟨v, a, k d v H rfl (Ex.refl H) w b⟩
theorem be_int {i : Int} {j pos} : BE X M ds (.Constant (.int i) j pos) (.int i) := .of pe_int fun _ H _ _ w k => k _ _ H rfl (Ex.refl H) w (.int i)
theorem be_bl {b : Bool} {j pos} : BE X M ds (.Constant (.bool b) j pos) (.bl b) := .of pe_bl fun _ H _ _ w k => k _ _ H rfl (Ex.refl H) w (.bl b)
theorem be_non {j pos} : BE X M ds (.Constant .none j pos) .non := .of pe_non fun _ H _ _ w k => k _ _ H rfl (Ex.refl H) w .non
theorem be_str {x : Str} {j pos} : BE X M ds (.Constant (.str x) j pos) (.str x) := .of pe_str fun _ H _ _ w k => k _ _ H rfl (Ex.refl H) w (.str x)
/-- a module's constant -/
theorem be_gInt {x : Str} {i : Int} {pos : Pos} (hm : ∃ t, X.mg x = some (.int i t)) (hg : Gl X x := by rfl) (hd : (x == ("__debug__" : Str)) = false := by decide) : BE X M ds (.Name x pos) (.int i) := by
  obtain ⟨t, hm⟩ := hm
  exact .of (pe_glob (v := .int i) hg hm ⟨t, rfl⟩ hd) fun _ H _ _ w k => k _ _ H rfl (Ex.refl H) w (.int i)
theorem be_gStr {x z : Str} {pos : Pos} (hm : ∃ t, X.mg x = some (.str z t)) (hg : Gl X x := by rfl) (hd : (x == ("__debug__" : Str)) = false := by decide) : BE X M ds (.Name x pos) (.str z) := by
  obtain ⟨t, hm⟩ := hm
  exact .of (pe_glob (v := .str z) hg hm ⟨t, rfl⟩ hd) fun _ H _ _ w k => k _ _ H rfl (Ex.refl H) w (.str z)
/-- a module's tuple of texts -/
theorem be_gTup {x : Str} {zs : List Str} {pos : Pos} (hm : ∃ a, X.mg x = some (.ref a) ∧ ∀ H, SqT X.K H a (zs.map V.str)) (hg : Gl X x := by rfl) (hd : (x == ("__debug__" : Str)) = false := by decide) : BE X M ds (.Name x pos) (.ktp zs) := by
  obtain ⟨a, hm, hs⟩ := hm
  exact .of (pe_glob (v := .ref a) hg hm rfl hd) fun _ H _ _ w k => k _ _ H rfl (Ex.refl H) w (.ktp (hs H))

/-! ### operators by values -/
/-- r, at values that are x and y, gives a datum with P -/
def Op2 (K : PySem.W.Frag) (M : Md) (r : R2) (x y : D) (P : D → Prop) : Prop :=
  ∀ v u H Q, M.W H → Is K M.S H v x → Is K M.S H u y → (∀ d w H', P d → Ex M.S H H' → M.W H' → Is K M.S H' w d → Q w H') → r v u H Q
variable {a b e : Expr} {pos : Pos} {A B P : D → Prop}
theorem two {r : R2} {σ : L2.St} {H : Hp} {Q : VK} (en : En X.K M.S H σ ds) (w : M.W H) (h : ∀ x y, A x → B y → Op2 X.K M r x y P) (k : ∀ d v H', P d → Ex M.S H H' → M.W H' → Is X.K M.S H' v d → Q v H') :
    tOp r (tD X.K M ds A) (tD X.K M ds B) σ H Q := by
  refine ⟨en, w, fun x v H1 px e1 w1 i1 => ⟨en.mono e1 fun _ z => z, w1, fun y u H2 py e2 w2 i2 => ?_⟩⟩
  exact h x y px py v u H2 Q w2 (i1.mono e2 fun _ z => z) i2 fun d z H3 p e3 w3 i3 => k d z H3 p ((e1.trans e2).trans e3) w3 i3
theorem bp_op {op : Operator} {r : R2} (ho : OpR X (binaryOp op) r) (ha : BP X M ds a A) (hb : BP X M ds b B) (h : ∀ x y, A x → B y → Op2 X.K M r x y P) : BP X M ds (.BinOp a op b pos) P :=
  .of (pe_op ho ha.pe hb.pe) fun _ _ _ en w k => two en w h k
theorem be_op {op : Operator} {r : R2} {x y d : D} (ho : OpR X (binaryOp op) r) (ha : BE X M ds a x) (hb : BE X M ds b y) (h : Op2 X.K M r x y fun z => z = d) : BE X M ds (.BinOp a op b pos) d :=
  bp_op ho ha hb fun _ _ e1 e2 => by rw [e1, e2]; exact h
theorem bp_cmp {op : CmpOp} {r : R2} (ho : OpR X (compareOp op) r) (hm : behindInMarks op b = false) (ha : BP X M ds a A) (hb : BP X M ds b B) (h : ∀ x y, A x → B y → Op2 X.K M r x y P) : BP X M ds (.Compare a [op] [b] pos) P :=
  .of (pe_cmpR ho ha.pe hb.pe hm) fun _ _ _ en w k => two en w h k
theorem be_cmp {op : CmpOp} {r : R2} {x y d : D} (ho : OpR X (compareOp op) r) (hm : behindInMarks op b = false) (ha : BE X M ds a x) (hb : BE X M ds b y) (h : Op2 X.K M r x y fun z => z = d) : BE X M ds (.Compare a [op] [b] pos) d :=
  bp_cmp ho hm ha hb fun _ _ e1 e2 => by rw [e1, e2]; exact h
theorem bt_cmp {op : CmpOp} {r : R2} {PB : Bool → Prop} (ho : OpR X (compareOp op) r) (hm : behindInMarks op b = false) (ha : BP X M ds a A) (hb : BP X M ds b B) (h : ∀ x y, A x → B y → Op2 X.K M r x y fun z => ∃ c, z = .bl c ∧ PB c) : BT X M ds (.Compare a [op] [b] pos) PB :=
  .of (pt_cmpR ho ha.pe hb.pe hm) fun _ _ _ en w k => two en w h fun d v H' p e1 w1 i1 => by
    obtain ⟨c, rfl, pc⟩ := p
    cases i1
    exact ⟨c, rfl, k c H' pc e1 w1⟩
theorem bte_cmp {op : CmpOp} {r : R2} {x y : D} {c : Bool} (ho : OpR X (compareOp op) r) (hm : behindInMarks op b = false) (ha : BE X M ds a x) (hb : BE X M ds b y) (h : Op2 X.K M r x y fun z => z = .bl c) : BTE X M ds (.Compare a [op] [b] pos) c :=
  bt_cmp ho hm ha hb fun _ _ e1 e2 => by
    rw [e1, e2]
    exact fun v u H Q w i1 i2 k => h v u H Q w i1 i2 fun d z H' p => k d z H' ⟨c, p, rfl⟩
theorem Op2.pure {K : PySem.W.Frag} {r : R2} {x y : D} {P : D → Prop} (h : ∀ v u H Q, Is K M.S H v x → Is K M.S H u y → (∀ d w, P d → Is K M.S H w d → Q w H) → r v u H Q) : Op2 K M r x y P :=
  fun v u H Q w i1 i2 k => h v u H Q i1 i2 fun d z p i => k d z H p (Ex.refl H) w i
theorem o_I0 {K : PySem.W.Frag} {g : Int → Int → V} {i j : Int} {d : D} (h : ∀ H, Is K M.S H (g i j) d) : Op2 K M (rI0 g) (.int i) (.int j) fun z => z = d :=
  Op2.pure fun v u H Q i1 i2 k => by
    cases i1; cases i2
    exact ⟨i, j, rfl, rfl, k d _ rfl (h H)⟩
theorem o_I {K : PySem.W.Frag} {C : Int → Int → Prop} {g : Int → Int → V} {i j : Int} {d : D} (hc : C i j) (h : ∀ H, Is K M.S H (g i j) d) : Op2 K M (rI C g) (.int i) (.int j) fun z => z = d :=
  Op2.pure fun v u H Q i1 i2 k => by
    cases i1; cases i2
    exact ⟨i, j, rfl, rfl, hc, k d _ rfl (h H)⟩
theorem be_add {i j : Int} (ha : BE X M ds a (.int i)) (hb : BE X M ds b (.int j)) : BE X M ds (.BinOp a .Add b pos) (.int (i + j)) := be_op op_add ha hb (o_I0 fun _ => .int _)
theorem be_sub {i j : Int} (ha : BE X M ds a (.int i)) (hb : BE X M ds b (.int j)) : BE X M ds (.BinOp a .Sub b pos) (.int (i - j)) := be_op op_sub ha hb (o_I0 fun _ => .int _)
theorem be_mul {i j : Int} (hc : CMul i j) (ha : BE X M ds a (.int i)) (hb : BE X M ds b (.int j)) : BE X M ds (.BinOp a .Mult b pos) (.int (i * j)) := be_op op_mul ha hb (o_I hc fun _ => .int _)
theorem be_mod {i j : Int} (hc : 0 < j) (ha : BE X M ds a (.int i)) (hb : BE X M ds b (.int j)) : BE X M ds (.BinOp a .Mod b pos) (.int (i % j)) := be_op op_mod ha hb (o_I hc fun _ => .int _)
theorem be_fdiv {i j : Int} (hc : CDiv i j) (ha : BE X M ds a (.int i)) (hb : BE X M ds b (.int j)) : BE X M ds (.BinOp a .FloorDiv b pos) (.int (i / j)) := be_op op_fdiv ha hb (o_I hc fun _ => .int _)
theorem be_pow {i j : Int} (hc : CPow i j) (ha : BE X M ds a (.int i)) (hb : BE X M ds b (.int j)) : BE X M ds (.BinOp a .Pow b pos) (.int (i ^ j.toNat)) := be_op op_pow ha hb (o_I hc fun _ => .int _)
theorem be_lt {i j : Int} (ha : BE X M ds a (.int i)) (hb : BE X M ds b (.int j)) : BE X M ds (.Compare a [.Lt] [b] pos) (.bl (decide (i < j))) := be_cmp op_lt (nomark _) ha hb (o_I0 fun _ => .bl _)
theorem be_le {i j : Int} (ha : BE X M ds a (.int i)) (hb : BE X M ds b (.int j)) : BE X M ds (.Compare a [.LtE] [b] pos) (.bl (decide (i ≤ j))) := be_cmp op_le (nomark _) ha hb (o_I0 fun _ => .bl _)
theorem be_gt {i j : Int} (ha : BE X M ds a (.int i)) (hb : BE X M ds b (.int j)) : BE X M ds (.Compare a [.Gt] [b] pos) (.bl (decide (j < i))) := be_cmp op_gt (nomark _) ha hb (o_I0 fun _ => .bl _)
theorem be_ge {i j : Int} (ha : BE X M ds a (.int i)) (hb : BE X M ds b (.int j)) : BE X M ds (.Compare a [.GtE] [b] pos) (.bl (decide (j ≤ i))) := be_cmp op_ge (nomark _) ha hb (o_I0 fun _ => .bl _)
theorem be_neg {i : Int} (ha : BE X M ds a (.int i)) : BE X M ds (.UnaryOp .USub a pos) (.int (-i)) := .of (pe_un un_neg ha.pe) fun σ H Q en w k =>
  ⟨en, w, fun d v H' p e w' i1 => by subst p; cases i1; exact ⟨i, rfl, k _ _ H' rfl e w' (.int _)⟩⟩
/-- scalars that are compared by what they are -/
def D.scal : D → D → Bool
  | .int _, .int _ | .str _, .str _ | .bl _, .bl _ => true
  | _, _ => false
def D.same : D → D → Bool
  | .int i, .int j => decide (i = j)
  | .str i, .str j => decide (i = j)
  | .bl i, .bl j => decide (i = j)
  | _, _ => false
end
end K23

-- text A4
set_option Elab.async false
set_option linter.all false
set_option maxRecDepth 100000
set_option maxHeartbeats 2000000
namespace K23
open PySem PySem.Spec PyProof.Rows L2

/-! ## 5. data as the library knows them: ==, in -/
def D.py : D → PyData
  | .non => .none | .bl b => .bool b | .int i => .int i | .str x => .str x | .tup ds => .tuple (pys ds) | .ktp zs => .tuple (zs.map .str) | .lst ds => .list (pys ds) | .adr _ => .none
where pys : List D → List PyData
  | [] => []
  | d :: ds => D.py d :: pys ds
/-- no bare address, every text of real signs -/
def D.ok : D → Bool
  | .str x => PyData.strOk x
  | .tup ds | .lst ds => oks ds
  | .ktp zs => zs.all PyData.strOk
  | .adr _ => false
  | _ => true
where oks : List D → Bool
  | [] => true
  | d :: ds => D.ok d && oks ds
theorem pys_map : ∀ ds : List D, D.py.pys ds = ds.map D.py
  | [] => rfl
  | d :: ds => congrArg (D.py d :: ·) (pys_map ds)
theorem oks_all : ∀ ds : List D, D.ok.oks ds = ds.all D.ok
  | [] => rfl
  | d :: ds => congrArg (D.ok d && ·) (oks_all ds)
theorem imms_all : ∀ ds : List D, D.imm.imms ds = ds.all D.imm
  | [] => rfl
  | d :: ds => congrArg (D.imm d && ·) (imms_all ds)
theorem canLay_strs : ∀ zs : List Str, zs.all PyData.strOk = true → PyData.canLayAll0 (zs.map .str) = true
  | [], _ => rfl
  | z :: zs, h => by
    obtain ⟨h1, h2⟩ := Bool.and_eq_true_iff.mp h
    show (PyData.strOk z && PyData.canLayAll0 (zs.map .str)) = true
    rw [h1, canLay_strs zs h2]
    rfl
mutual
theorem canLay_of : ∀ d : D, d.ok = true → d.py.canLay0 = true
  | .non, _ => rfl
  | .bl _, _ => rfl
  | .int _, _ => rfl
  | .str x, h => h
  | .tup ds, h => canLays_of ds h
  | .ktp zs, h => canLay_strs zs h
  | .lst ds, h => canLays_of ds h
theorem canLays_of : ∀ ds : List D, D.ok.oks ds = true → PyData.canLayAll0 (D.py.pys ds) = true
  | [], _ => rfl
  | d :: ds, h => by
    obtain ⟨h1, h2⟩ := Bool.and_eq_true_iff.mp h
    show (d.py.canLay0 && PyData.canLayAll0 (D.py.pys ds)) = true
    rw [canLay_of d h1, canLays_of ds h2]
    rfl
end
section
variable {K : PySem.W.Frag} {S : Addr → Prop} {H : Hp}
theorem dp_strs : ∀ zs : List Str, DpAll K H (zs.map V.str) (zs.map PyData.str)
  | [] => .nil
  | z :: zs => .cons (.str z) (dp_strs zs)
mutual
theorem Is.dp : ∀ {d : D} {v : V}, d.ok = true → Is K S H v d → Dp K H v d.py
  | _, _, _, .non => .non
  | _, _, _, .bl b => .bl b
  | _, _, _, .int i => .int i
  | _, _, _, .str x => .str x
  | _, _, h, .tup h1 h2 => .tup (SqT.of h1) (Iss.dp h h2)
  | _, _, _, .ktp h1 => .tup h1 (dp_strs _)
  | _, _, h, .lst h1 _ h2 => .lst (.of h1) (Iss.dp h h2)
theorem Iss.dp : ∀ {ds : List D} {vs : List V}, D.ok.oks ds = true → Iss K S H vs ds → DpAll K H vs (D.py.pys ds)
  | _, _, _, .nil => .nil
  | _, _, h, .cons q t => .cons (Is.dp (Bool.and_eq_true_iff.mp h).1 q) (Iss.dp (Bool.and_eq_true_iff.mp h).2 t)
end
end
/-- == of data -/
def D.eqv (d e : D) : Bool := PyData.eqv d.py e.py
def D.dep (d : D) : Nat := d.py.depth
section
variable {X : Cx}
/-- == and != : the left one (or the right one) is not deep -/
def rEqQ (K : PySem.W.Frag) (S : Addr → Prop) (neg : Bool) : R2 := fun x y H Q => ∃ d e, Is K S H x d ∧ Is K S H y e ∧ d.ok = true ∧ e.ok = true ∧ min d.dep e.dep ≤ 60 ∧ Q (.bl (if neg then !D.eqv d e else D.eqv d e)) H
theorem op_eqQ {S : Addr → Prop} (hu : X.A.units + 64 < cLine) : OpR X (compareOp .Eq) (rEqQ X.K S false) := by
  rintro pins s σ H x y v u Q I rx ry ⟨d, e, hd, he, sd, se, hm, q⟩
  obtain ⟨as, r1⟩ := Dp.reads I d.py x v (hd.dp sd) rx
  obtain ⟨bs, r2⟩ := Dp.reads I e.py y u (he.dp se) ry
  exact SeqAt.compareEq_reads r1 r2 (canLay_of _ sd) (canLay_of _ se) (by unfold D.dep at hm; omega) ⟨.bl _, H, I, rfl, q⟩
theorem op_neQ {S : Addr → Prop} (hu : X.A.units + 64 < cLine) : OpR X (compareOp .NotEq) (rEqQ X.K S true) := by
  rintro pins s σ H x y v u Q I rx ry ⟨d, e, hd, he, sd, se, hm, q⟩
  obtain ⟨as, r1⟩ := Dp.reads I d.py x v (hd.dp sd) rx
  obtain ⟨bs, r2⟩ := Dp.reads I e.py y u (he.dp se) ry
  exact SeqAt.compareNe_reads r1 r2 (canLay_of _ sd) (canLay_of _ se) (by unfold D.dep at hm; omega) ⟨.bl _, H, I, rfl, q⟩
/-- x in c, x not in c: c a tuple or a list -/
def D.seq : D → Option (List D)
  | .tup ds | .lst ds => some ds
  | .ktp zs => some (zs.map .str)
  | _ => none
def D.has (ds : List D) (d : D) : Bool := ds.any fun y => D.eqv y d
def rInQ (K : PySem.W.Frag) (S : Addr → Prop) (neg : Bool) : R2 := fun x y H Q => ∃ d e es, Is K S H x d ∧ Is K S H y e ∧ e.seq = some es ∧ d.ok = true ∧ e.ok = true ∧ d.dep ≤ 60 ∧ Q (.bl (if neg then !D.has es d else D.has es d)) H
theorem has_py (es : List D) (d : D) : ((D.py.pys es).any fun y => PyData.eqv y d.py) = D.has es d := by
  rw [pys_map, List.any_map]
  rfl
theorem op_inQ {S : Addr → Prop} {neg : Bool} (hu : X.A.units + 64 < cLine) : OpR X (compareOp (if neg then .NotIn else .In)) (rInQ X.K S neg) := by
  rintro pins s σ H x y v u Q I rx ry ⟨d, e, es, hd, he, hs, sd, se, hm, q⟩
  obtain ⟨as, r1⟩ := Dp.reads I d.py x v (hd.dp sd) rx
  obtain ⟨bs, r2⟩ := Dp.reads I e.py y u (he.dp se) ry
  have hu' : ∀ n : Nat, X.A.units + 1 + min n d.py.depth < cLine := fun n => by unfold D.dep at hm; omega
  cases he with
  | tup h1 h2 =>
    cases hs
    cases neg
    · exact SeqAt.in_tuple_reads r2 r1 (canLays_of _ se) (canLay_of _ sd) (hu' _) ⟨.bl _, H, I, rfl, by rw [has_py]; exact q⟩
    · exact SeqAt.notIn_tuple_reads r2 r1 (canLays_of _ se) (canLay_of _ sd) (hu' _) ⟨.bl _, H, I, rfl, by rw [has_py]; exact q⟩
  | ktp h1 =>
    cases hs
    have se' := canLay_strs _ se
    have e1 : ((List.map PyData.str ‹List Str›).any fun y => PyData.eqv y d.py) = D.has (List.map D.str ‹List Str›) d := by
      unfold D.has
      rw [List.any_map, List.any_map]
      rfl
    cases neg
    · exact SeqAt.in_tuple_reads r2 r1 se' (canLay_of _ sd) (hu' _) ⟨.bl _, H, I, rfl, by rw [e1]; exact q⟩
    · exact SeqAt.notIn_tuple_reads r2 r1 se' (canLay_of _ sd) (hu' _) ⟨.bl _, H, I, rfl, by rw [e1]; exact q⟩
  | lst h1 h2 h3 =>
    cases hs
    cases neg
    · exact SeqAt.in_list_reads r2 r1 (canLays_of _ se) (canLay_of _ sd) (hu' _) ⟨.bl _, H, I, rfl, by rw [has_py]; exact q⟩
    · exact SeqAt.notIn_list_reads r2 r1 (canLays_of _ se) (canLay_of _ sd) (hu' _) ⟨.bl _, H, I, rfl, by rw [has_py]; exact q⟩
  | _ => cases hs
end
section
variable {X : Cx} {M : Md} {ds : List (Option D)} {a b e : Expr} {pos : Pos}
theorem o_eq {neg : Bool} {x y : D} (hx : x.ok = true := by rfl) (hy : y.ok = true := by rfl) (hm : min x.dep y.dep ≤ 60 := by decide) : Op2 X.K M (rEqQ X.K M.S neg) x y fun z => z = .bl (if neg then !D.eqv x y else D.eqv x y) :=
  Op2.pure fun v u H Q i1 i2 k => ⟨x, y, i1, i2, hx, hy, hm, k _ _ rfl (.bl _)⟩
theorem o_in {neg : Bool} {x y : D} {es : List D} (hs : y.seq = some es) (hx : x.ok = true) (hy : y.ok = true) (hm : x.dep ≤ 60) : Op2 X.K M (rInQ X.K M.S neg) x y fun z => z = .bl (if neg then !D.has es x else D.has es x) :=
  Op2.pure fun v u H Q i1 i2 k => ⟨x, y, es, i1, i2, hs, hx, hy, hm, k _ _ rfl (.bl _)⟩
theorem be_eq {x y : D} (hu : X.A.units + 64 < cLine) (ha : BE X M ds a x) (hb : BE X M ds b y) (hx : x.ok = true) (hy : y.ok = true) (hm : min x.dep y.dep ≤ 60) : BE X M ds (.Compare a [.Eq] [b] pos) (.bl (D.eqv x y)) := be_cmp (op_eqQ hu) (nomark _) ha hb (o_eq (neg := false) hx hy hm)
theorem be_ne {x y : D} (hu : X.A.units + 64 < cLine) (ha : BE X M ds a x) (hb : BE X M ds b y) (hx : x.ok = true) (hy : y.ok = true) (hm : min x.dep y.dep ≤ 60) : BE X M ds (.Compare a [.NotEq] [b] pos) (.bl (!D.eqv x y)) := be_cmp (op_neQ hu) (nomark _) ha hb (o_eq (neg := true) hx hy hm)
theorem bt_eq {x y : D} (hu : X.A.units + 64 < cLine) (ha : BE X M ds a x) (hb : BE X M ds b y) (hx : x.ok = true) (hy : y.ok = true) (hm : min x.dep y.dep ≤ 60) : BTE X M ds (.Compare a [.Eq] [b] pos) (D.eqv x y) := bte_cmp (op_eqQ hu) (nomark _) ha hb (o_eq (neg := false) hx hy hm)
theorem bt_ne {x y : D} (hu : X.A.units + 64 < cLine) (ha : BE X M ds a x) (hb : BE X M ds b y) (hx : x.ok = true) (hy : y.ok = true) (hm : min x.dep y.dep ≤ 60) : BTE X M ds (.Compare a [.NotEq] [b] pos) (!D.eqv x y) := bte_cmp (op_neQ hu) (nomark _) ha hb (o_eq (neg := true) hx hy hm)
theorem be_in {x y : D} {es : List D} (hu : X.A.units + 64 < cLine) (ha : BE X M ds a x) (hb : BE X M ds b y) (hs : y.seq = some es) (hx : x.ok = true) (hy : y.ok = true) (hm : x.dep ≤ 60) (hk : behindInMarks .In b = false := by rfl) : BE X M ds (.Compare a [.In] [b] pos) (.bl (D.has es x)) := be_cmp (op_inQ (neg := false) hu) hk ha hb (o_in (neg := false) hs hx hy hm)
theorem be_nin {x y : D} {es : List D} (hu : X.A.units + 64 < cLine) (ha : BE X M ds a x) (hb : BE X M ds b y) (hs : y.seq = some es) (hx : x.ok = true) (hy : y.ok = true) (hm : x.dep ≤ 60) (hk : behindInMarks .NotIn b = false := by rfl) : BE X M ds (.Compare a [.NotIn] [b] pos) (.bl (!D.has es x)) := be_cmp (op_inQ (neg := true) hu) hk ha hb (o_in (neg := true) hs hx hy hm)
theorem bt_in {x y : D} {es : List D} (hu : X.A.units + 64 < cLine) (ha : BE X M ds a x) (hb : BE X M ds b y) (hs : y.seq = some es) (hx : x.ok = true) (hy : y.ok = true) (hm : x.dep ≤ 60) (hk : behindInMarks .In b = false := by rfl) : BTE X M ds (.Compare a [.In] [b] pos) (D.has es x) := bte_cmp (op_inQ (neg := false) hu) hk ha hb (o_in (neg := false) hs hx hy hm)
theorem bt_nin {x y : D} {es : List D} (hu : X.A.units + 64 < cLine) (ha : BE X M ds a x) (hb : BE X M ds b y) (hs : y.seq = some es) (hx : x.ok = true) (hy : y.ok = true) (hm : x.dep ≤ 60) (hk : behindInMarks .NotIn b = false := by rfl) : BTE X M ds (.Compare a [.NotIn] [b] pos) (!D.has es x) := bte_cmp (op_inQ (neg := true) hu) hk ha hb (o_in (neg := true) hs hx hy hm)
/-- is None -/
def D.isNon : D → Bool
  | .non => true
  | _ => false
theorem Is.non_iff {K : PySem.W.Frag} {S : Addr → Prop} {H : Hp} {v : V} {d : D} (h : Is K S H v d) : decide (v = .non) = d.isNon := by
  cases h <;> first | rfl | exact decide_eq_false (fun z => nomatch z)
theorem be_isN {x : D} (ha : BE X M ds a x) (hb : BE X M ds b .non) : BE X M ds (.Compare a [.Is] [b] pos) (.bl x.isNon) :=
  be_cmp op_isN (nomark _) ha hb (Op2.pure fun v u H Q i1 i2 k => by cases i2; exact ⟨rfl, by rw [i1.non_iff]; exact k _ _ rfl (.bl _)⟩)
theorem be_notN {x : D} (ha : BE X M ds a x) (hb : BE X M ds b .non) : BE X M ds (.Compare a [.IsNot] [b] pos) (.bl (!x.isNon)) :=
  be_cmp op_notN (nomark _) ha hb (Op2.pure fun v u H Q i1 i2 k => by cases i2; exact ⟨rfl, by rw [i1.non_iff]; exact k _ _ rfl (.bl _)⟩)
theorem bt_isN {x : D} (ha : BE X M ds a x) (hb : BE X M ds b .non) : BTE X M ds (.Compare a [.Is] [b] pos) x.isNon :=
  bte_cmp op_isN (nomark _) ha hb (Op2.pure fun v u H Q i1 i2 k => by cases i2; exact ⟨rfl, by rw [i1.non_iff]; exact k _ _ rfl (.bl _)⟩)

/-! ### tests -/
theorem bt_val {PB : Bool → Prop} (h : BP X M ds e fun z => ∃ c, z = .bl c ∧ PB c) (he : ∀ whole, isTrue e X.env whole = (do let v ← whole; standAt e.pos; holding [v] (truthy v)) := by intro _; rfl) : BT X M ds e PB :=
  .of (pt_val h.pe he) fun σ H Q en w k => ⟨en, w, fun d v H' p e1 w1 i1 => by obtain ⟨c, rfl, pc⟩ := p; cases i1; exact ⟨c, rfl, k c H' pc e1 w1⟩⟩
theorem bte_val {c : Bool} (h : BE X M ds e (.bl c)) (he : ∀ whole, isTrue e X.env whole = (do let v ← whole; standAt e.pos; holding [v] (truthy v)) := by intro _; rfl) : BTE X M ds e c :=
  bt_val (h.imp fun d p => ⟨c, p, rfl⟩) he
theorem bt_lt {i j : Int} (ha : BE X M ds a (.int i)) (hb : BE X M ds b (.int j)) : BTE X M ds (.Compare a [.Lt] [b] pos) (decide (i < j)) := bte_cmp op_lt (nomark _) ha hb (o_I0 fun _ => .bl _)
theorem bt_le {i j : Int} (ha : BE X M ds a (.int i)) (hb : BE X M ds b (.int j)) : BTE X M ds (.Compare a [.LtE] [b] pos) (decide (i ≤ j)) := bte_cmp op_le (nomark _) ha hb (o_I0 fun _ => .bl _)
theorem bt_gt {i j : Int} (ha : BE X M ds a (.int i)) (hb : BE X M ds b (.int j)) : BTE X M ds (.Compare a [.Gt] [b] pos) (decide (j < i)) := bte_cmp op_gt (nomark _) ha hb (o_I0 fun _ => .bl _)
theorem bt_ge {i j : Int} (ha : BE X M ds a (.int i)) (hb : BE X M ds b (.int j)) : BTE X M ds (.Compare a [.GtE] [b] pos) (decide (j ≤ i)) := bte_cmp op_ge (nomark _) ha hb (o_I0 fun _ => .bl _)
/-- a test whatever its whole is (and, or) -/
structure BW (X : Cx) (M : Md) (ds : List (Option D)) (e : Expr) (P : Bool → Prop) : Prop where
  pw : PW X e (tT X.K M ds P)
theorem PW.imp {X : Cx} {e : Expr} {t t' : TT} (h : PW X e t) (i : ∀ σ H Q, t' σ H Q → t σ H Q) : PW X e t' := ⟨fun wh pins s σ H Q I q => h.run wh pins s σ H Q I (i σ H Q q)⟩
theorem BW.bt {P : Bool → Prop} (h : BW X M ds e P) : BT X M ds e P := ⟨h.pw.pt⟩
variable {rest : List Expr}
theorem bw_and1 {P : Bool → Prop} (h : BT X M ds a P) : BW X M ds (.BoolOp .And [a] pos) P := ⟨pw_and1 h.pt⟩
theorem bw_or1 {P : Bool → Prop} (h : BT X M ds a P) : BW X M ds (.BoolOp .Or [a] pos) P := ⟨pw_or1 h.pt⟩
theorem bw_and {c d : Bool} (ha : BTE X M ds a c) (hb : c = true → BW X M ds (.BoolOp .And (b :: rest) pos) fun z => z = d) : BW X M ds (.BoolOp .And (a :: b :: rest) pos) fun z => z = (c && d) := by
  cases c with
  | true => exact ⟨PW.imp (pw_and ha.pt (hb rfl).pw) fun σ H Q q => ⟨q.1, q.2.1, fun x H' p e w => by
      subst p
      show tT X.K M ds _ σ H' Q
      exact ⟨q.1.mono e fun _ z => z, w, fun y H2 p2 e2 w2 => q.2.2 y H2 p2 (e.trans e2) w2⟩⟩⟩
  | false => exact ⟨PW.imp (pw_and (tB' := fun _ _ _ => False) ha.pt ⟨fun _ _ _ _ _ _ _ z => z.elim⟩) fun σ H Q q => ⟨q.1, q.2.1, fun x H' p e w => by
      subst p
      show Q false H'
      exact q.2.2 _ H' rfl e w⟩⟩
theorem bw_or {c d : Bool} (ha : BTE X M ds a c) (hb : c = false → BW X M ds (.BoolOp .Or (b :: rest) pos) fun z => z = d) : BW X M ds (.BoolOp .Or (a :: b :: rest) pos) fun z => z = (c || d) := by
  cases c with
  | false => exact ⟨PW.imp (pw_or ha.pt (hb rfl).pw) fun σ H Q q => ⟨q.1, q.2.1, fun x H' p e w => by
      subst p
      show tT X.K M ds _ σ H' Q
      exact ⟨q.1.mono e fun _ z => z, w, fun y H2 p2 e2 w2 => q.2.2 y H2 p2 (e.trans e2) w2⟩⟩⟩
  | true => exact ⟨PW.imp (pw_or (tB' := fun _ _ _ => False) ha.pt ⟨fun _ _ _ _ _ _ _ z => z.elim⟩) fun σ H Q q => ⟨q.1, q.2.1, fun x H' p e w => by
      subst p
      show Q true H'
      exact q.2.2 _ H' rfl e w⟩⟩
theorem bt_not {c : Bool} (ha : BTE X M ds a c) : BTE X M ds (.UnaryOp .Not a pos) (!c) := .of (pt_not ha.pt) fun σ H Q en w k => ⟨en, w, fun x H' p e w' => k _ H' (by rw [p]) e w'⟩
/-- values -/
theorem be_one {op : BoolOp} {P : D → Prop} (h : BP X M ds a P) : BP X M ds (.BoolOp op [a] pos) P := ⟨pe_one h.pe⟩
theorem bp_and {c : Bool} {P : D → Prop} (ha : BE X M ds a (.bl c)) (hb : c = true → BP X M ds (.BoolOp .And (b :: rest) pos) P) (hf : c = false → P (.bl false)) : BP X M ds (.BoolOp .And (a :: b :: rest) pos) P := by
  cases c with
  | true => exact .of (pe_and ha.pe (hb rfl).pe) fun σ H Q en w k => ⟨en, w, fun x v H' p e w1 i1 => by
      subst p; cases i1
      refine ⟨true, rfl, ?_⟩
      show tD X.K M ds _ σ H' Q
      exact ⟨en.mono e fun _ z => z, w1, fun y u H2 p2 e2 w2 => k y u H2 p2 (e.trans e2) w2⟩⟩
  | false => exact .of (pe_and (tb := fun _ _ _ => False) ha.pe ⟨fun _ _ _ _ _ _ z => z.elim⟩) fun σ H Q en w k => ⟨en, w, fun x v H' p e w1 i1 => by
      subst p; cases i1
      exact ⟨false, rfl, k _ _ H' (hf rfl) e w1 (.bl false)⟩⟩
theorem be_and {c d : Bool} (ha : BE X M ds a (.bl c)) (hb : c = true → BE X M ds (.BoolOp .And (b :: rest) pos) (.bl d)) : BE X M ds (.BoolOp .And (a :: b :: rest) pos) (.bl (c && d)) :=
  bp_and ha (fun h => (hb h).imp fun z p => by rw [p, h]; rfl) fun h => by rw [h]; rfl
theorem bp_or {c : Bool} {P : D → Prop} (ha : BE X M ds a (.bl c)) (hb : c = false → BP X M ds (.BoolOp .Or (b :: rest) pos) P) (hf : c = true → P (.bl true)) : BP X M ds (.BoolOp .Or (a :: b :: rest) pos) P := by
  cases c with
  | false => exact .of (pe_or ha.pe (hb rfl).pe) fun σ H Q en w k => ⟨en, w, fun x v H' p e w1 i1 => by
      subst p; cases i1
      refine ⟨false, rfl, ?_⟩
      show tD X.K M ds _ σ H' Q
      exact ⟨en.mono e fun _ z => z, w1, fun y u H2 p2 e2 w2 => k y u H2 p2 (e.trans e2) w2⟩⟩
  | true => exact .of (pe_or (tb := fun _ _ _ => False) ha.pe ⟨fun _ _ _ _ _ _ z => z.elim⟩) fun σ H Q en w k => ⟨en, w, fun x v H' p e w1 i1 => by
      subst p; cases i1
      exact ⟨true, rfl, k _ _ H' (hf rfl) e w1 (.bl true)⟩⟩
theorem be_or {c d : Bool} (ha : BE X M ds a (.bl c)) (hb : c = false → BE X M ds (.BoolOp .Or (b :: rest) pos) (.bl d)) : BE X M ds (.BoolOp .Or (a :: b :: rest) pos) (.bl (c || d)) :=
  bp_or ha (fun h => (hb h).imp fun z p => by rw [p, h]; rfl) fun h => by rw [h]; rfl
theorem be_not {c : Bool} (ha : BE X M ds a (.bl c)) : BE X M ds (.UnaryOp .Not a pos) (.bl (!c)) := .of (pe_not ha.pe) fun σ H Q en w k => ⟨en, w, fun x v H' p e w1 i1 => by
  subst p; cases i1
  exact ⟨c, rfl, k _ _ H' rfl e w1 (.bl _)⟩⟩
/-- a if c else b -/
theorem bp_if {t : Expr} {PB : Bool → Prop} {P : D → Prop} (hc : BT X M ds t PB) (ha : PB true → BP X M ds a P) (hb : PB false → BP X M ds b P) : BP X M ds (.IfExp t a b pos) P := by
  by_cases h1 : PB true
  · by_cases h2 : PB false
    · exact .of (pe_ifExp hc.pt (ha h1).pe (hb h2).pe) fun σ H Q en w k => ⟨en, w, fun x H' p e w1 => by
        have g : tD X.K M ds P σ H' Q := ⟨en.mono e fun _ z => z, w1, fun y u H2 p2 e2 w2 => k y u H2 p2 (e.trans e2) w2⟩
        cases x <;> exact g⟩
    · exact .of (pe_ifExp (tb := fun _ _ _ => False) hc.pt (ha h1).pe ⟨fun _ _ _ _ _ _ z => z.elim⟩) fun σ H Q en w k => ⟨en, w, fun x H' p e w1 => by
        have g : tD X.K M ds P σ H' Q := ⟨en.mono e fun _ z => z, w1, fun y u H2 p2 e2 w2 => k y u H2 p2 (e.trans e2) w2⟩
        cases x
        · exact absurd p h2
        · exact g⟩
  · by_cases h2 : PB false
    · exact .of (pe_ifExp (ta := fun _ _ _ => False) hc.pt ⟨fun _ _ _ _ _ _ z => z.elim⟩ (hb h2).pe) fun σ H Q en w k => ⟨en, w, fun x H' p e w1 => by
        have g : tD X.K M ds P σ H' Q := ⟨en.mono e fun _ z => z, w1, fun y u H2 p2 e2 w2 => k y u H2 p2 (e.trans e2) w2⟩
        cases x
        · exact g
        · exact absurd p h1⟩
    · exact .of (pe_ifExp (ta := fun _ _ _ => False) (tb := fun _ _ _ => False) hc.pt ⟨fun _ _ _ _ _ _ z => z.elim⟩ ⟨fun _ _ _ _ _ _ z => z.elim⟩) fun σ H Q en w k => ⟨en, w, fun x H' p e w1 => by
        cases x
        · exact absurd p h2
        · exact absurd p h1⟩
theorem be_if {t : Expr} {c : Bool} {x y : D} (hc : BTE X M ds t c) (ha : c = true → BE X M ds a x) (hb : c = false → BE X M ds b y) : BE X M ds (.IfExp t a b pos) (if c then x else y) :=
  bp_if hc (fun h => (ha h.symm).imp fun z p => by rw [p, ← h]; rfl) fun h => (hb h.symm).imp fun z p => by rw [p, ← h]; rfl

/-! ### displays, arguments -/
variable {es : List Expr}
theorem ba_nil : BAE X M ds [] [] := ⟨PA.imp pa_nil fun σ H Q q => q.2.2 [] [] H rfl (Ex.refl H) q.2.1 .nil⟩
theorem ba_cons {P : D → Prop} {L R : List D → Prop} (ha : BP X M ds e P) (hr : BA X M ds es L) (h : ∀ d l, P d → L l → R (d :: l)) (hs : starEach (e :: es) X.env = (false, eval e X.env) :: starEach es X.env := by rfl) : BA X M ds (e :: es) R :=
  ⟨PA.imp (pa_cons ha.pe hr.pa hs) fun σ H Q q => ⟨q.1, q.2.1, fun d v H1 p e1 w1 i1 => ⟨q.1.mono e1 fun _ z => z, w1, fun l vs H2 p2 e2 w2 i2 => q.2.2 (d :: l) (v :: vs) H2 (h d l p p2) (e1.trans e2) w2 (.cons (i1.mono e2 fun _ z => z) i2)⟩⟩⟩
theorem bae {d : D} {l : List D} (ha : BE X M ds e d) (hr : BAE X M ds es l) (hs : starEach (e :: es) X.env = (false, eval e X.env) :: starEach es X.env := by rfl) : BAE X M ds (e :: es) (d :: l) :=
  ba_cons ha hr (fun _ _ p q => by rw [p, q]) hs
theorem bp_tup {L : List D → Prop} {P : D → Prop} {k : Nat} (ha : BA X M ds es L) (h : ∀ l, L l → P (.tup l)) (hz : ∀ l, L l → l.length ≤ sizeLine) : BP X M ds (.Tuple es k pos) P :=
  .of (pe_tup ha.pa) fun σ H Q en w q => ⟨en, w, fun l vs H1 p e1 w1 i1 => ⟨by rw [i1.length]; exact hz l p, fun a na => q (.tup l) _ _ (h l p) (e1.trans (Ex.new na)) (Md.new w1 na) (.tup upd_same (i1.mono (B := NoA) (Ex.new na) fun _ z => z.elim))⟩⟩
theorem be_tup {l : List D} {k : Nat} (ha : BAE X M ds es l) (hz : l.length ≤ sizeLine := by first | decide | simp [PySem.sizeLine]) : BE X M ds (.Tuple es k pos) (.tup l) := bp_tup ha (fun _ p => by rw [p]) fun _ p => by rw [p]; exact hz
theorem bp_lst {L : List D → Prop} {P : D → Prop} (ha : BA X M ds es L) (h : ∀ l, L l → P (.lst l)) (hz : ∀ l, L l → l.length ≤ sizeLine) : BP X M ds (.List es pos) P :=
  .of (pe_lst ha.pa) fun σ H Q en w q => ⟨en, w, fun l vs H1 p e1 w1 i1 => ⟨by rw [i1.length]; exact hz l p, fun a na => q (.lst l) _ _ (h l p) (e1.trans (Ex.new na)) (Md.new w1 na) (.lst upd_same (Md.freeS w1 na) (i1.mono (B := NoA) (Ex.new na) fun _ z => z.elim))⟩⟩
theorem be_lst {l : List D} (ha : BAE X M ds es l) (hz : l.length ≤ sizeLine := by first | decide | simp [PySem.sizeLine]) : BE X M ds (.List es pos) (.lst l) := bp_lst ha (fun _ p => by rw [p]) fun _ p => by rw [p]; exact hz
end
end K23

-- text A5
set_option Elab.async false
set_option linter.all false
set_option maxRecDepth 100000
set_option maxHeartbeats 2000000
namespace K23
open PySem PySem.Spec PyProof.Rows L2

/-! ## 6. subscripts, slices, sums of sequences -/
section
variable {K : PySem.W.Frag} {S : Addr → Prop} {H : Hp}
/-- a place among data, from the values' place -/
theorem at_data {vs : List V} {ds : List D} {i : Int} {d : D} (h : Iss K S H vs ds) (e : atI ds i = some d) : ∃ v, atI vs i = some v ∧ Is K S H v d := by
  unfold atI at e ⊢
  rw [h.length]
  cases q : ixN ds.length i with
  | none => rw [q] at e; cases e
  | some j =>
    rw [q] at e
    exact h.get e
end
section
variable {X : Cx} {M : Md} {ds : List (Option D)} {a b e : Expr} {pos : Pos}
theorem bp_ixT {A B P : D → Prop} (ha : BP X M ds a A) (hb : BP X M ds b B) (h : ∀ x y, A x → B y → ∃ es i d, x = .tup es ∧ y = .int i ∧ atI es i = some d ∧ P d) (hs : PlainIx b := by exact fun _ _ => rfl) : BP X M ds (.Subscript a b pos) P :=
  .of (pe_ix ix_tup ha.pe hb.pe hs) fun _ _ _ en w k => two en w (fun x y p q => by
    obtain ⟨es, i, d, rfl, rfl, e, pd⟩ := h x y p q
    exact Op2.pure fun v u H Q i1 i2 kk => by
      cases i1 with
      | tup h1 h2 =>
        cases i2
        obtain ⟨z, q1, q2⟩ := at_data h2 e
        exact ⟨_, _, i, z, rfl, rfl, .of h1, q1, kk d z pd q2⟩) k
theorem bp_ixL {A B P : D → Prop} (ha : BP X M ds a A) (hb : BP X M ds b B) (h : ∀ x y, A x → B y → ∃ es i d, x = .lst es ∧ y = .int i ∧ atI es i = some d ∧ P d) (hs : PlainIx b := by exact fun _ _ => rfl) : BP X M ds (.Subscript a b pos) P :=
  .of (pe_ix ix_list ha.pe hb.pe hs) fun _ _ _ en w k => two en w (fun x y p q => by
    obtain ⟨es, i, d, rfl, rfl, e, pd⟩ := h x y p q
    exact Op2.pure fun v u H Q i1 i2 kk => by
      cases i1 with
      | lst h1 _ h2 =>
        cases i2
        obtain ⟨z, q1, q2⟩ := at_data h2 e
        exact ⟨_, _, i, z, rfl, rfl, .of h1, q1, kk d z pd q2⟩) k
/-- t[i], t a tuple | a list -/
theorem be_ix {es : List D} {i : Int} {d : D} (ha : BE X M ds a (.tup es)) (hb : BE X M ds b (.int i)) (h : atI es i = some d := by rfl) (hs : PlainIx b := by exact fun _ _ => rfl) : BE X M ds (.Subscript a b pos) d :=
  bp_ixT ha hb (fun x y p q => ⟨es, i, d, p, q, h, rfl⟩) hs
theorem be_ixL {es : List D} {i : Int} {d : D} (ha : BE X M ds a (.lst es)) (hb : BE X M ds b (.int i)) (h : atI es i = some d := by rfl) (hs : PlainIx b := by exact fun _ _ => rfl) : BE X M ds (.Subscript a b pos) d :=
  bp_ixL ha hb (fun x y p q => ⟨es, i, d, p, q, h, rfl⟩) hs
/-- parts of a slice -/
structure BO (X : Cx) (M : Md) (ds : List (Option D)) (e : Option Expr) (o : Option Int) : Prop where
  po : PO X e (fun σ H Q => En X.K M.S H σ ds ∧ M.W H ∧ ∀ H', Ex M.S H H' → M.W H' → Q o H')
theorem PO.imp {X : Cx} {e : Option Expr} {t t' : TO} (h : PO X e t) (i : ∀ σ H Q, t' σ H Q → t σ H Q) : PO X e t' := ⟨fun pins s σ H Q I q => h.run pins s σ H Q I (i σ H Q q)⟩
theorem bo_none : BO X M ds none none := ⟨PO.imp po_none fun σ H Q q => q.2.2 H (Ex.refl H) q.2.1⟩
theorem bo_some {i : Int} (h : BE X M ds e (.int i)) : BO X M ds (some e) (some i) :=
  ⟨PO.imp (po_some h.pe) fun σ H Q q => ⟨q.1, q.2.1, fun d v H' p e1 w1 i1 => by subst p; cases i1; exact ⟨i, rfl, q.2.2 H' e1 w1⟩⟩⟩
def cutD (xs : List D) (lo hi : Option Int) : List D := (xs.drop (HT.sIx xs.length 0 lo)).take (HT.sIx xs.length xs.length hi - HT.sIx xs.length 0 lo)
theorem Iss.cut {K : PySem.W.Frag} {S : Addr → Prop} {H : Hp} {vs : List V} {es : List D} (h : Iss K S H vs es) (lo hi : Option Int) : Iss K S H (cutV vs lo hi) (cutD es lo hi) := by
  unfold cutV cutD
  rw [h.length]
  exact (h.drop _).take _
theorem cutD_whole {es : List D} {lo hi : Option Int} (h : HT.sIx es.length 0 lo = 0 ∧ HT.sIx es.length es.length hi = es.length) : cutD es lo hi = es := by
  unfold cutD
  rw [h.1, h.2]
  simp
variable {lo hi : Option Expr} {l h : Option Int} {p2 : Pos}
theorem be_slT {es : List D} (ha : BE X M ds a (.tup es)) (hl : BO X M ds lo l) (hh : BO X M ds hi h) : BE X M ds (.Subscript a (.Slice lo hi none p2) pos) (.tup (cutD es l h)) :=
  .of (pe_slice sl_tupA ha.pe hl.po hh.po) fun σ H Q en w k => ⟨en, w, fun d v H1 p e1 w1 i1 => ⟨en.mono e1 fun _ z => z, w1, fun H2 e2 w2 => ⟨(en.mono e1 fun _ z => z).mono e2 fun _ z => z, w2, fun H3 e3 w3 => by
    subst p
    have e4 := (e1.trans e2).trans e3
    cases i1 with
    | tup h1 h2 =>
      have g1 := (e2.trans e3).tup _ _ h1
      have g2 := h2.mono (e2.trans e3) fun _ z => z
      refine ⟨_, _, rfl, .of g1, fun hw => ?_, fun _ p np => ?_⟩
      · rw [g2.length] at hw
        exact k _ _ H3 rfl e4 w3 (by rw [cutD_whole hw]; exact .tup g1 g2)
      · exact k _ _ _ rfl (e4.trans (Ex.new np)) (Md.new w3 np) (.tup upd_same ((g2.cut l h).mono (B := NoA) (Ex.new np) fun _ z => z.elim))⟩⟩⟩
theorem be_slL {es : List D} (ha : BE X M ds a (.lst es)) (hl : BO X M ds lo l) (hh : BO X M ds hi h) : BE X M ds (.Subscript a (.Slice lo hi none p2) pos) (.lst (cutD es l h)) :=
  .of (pe_slice sl_list ha.pe hl.po hh.po) fun σ H Q en w k => ⟨en, w, fun d v H1 p e1 w1 i1 => ⟨en.mono e1 fun _ z => z, w1, fun H2 e2 w2 => ⟨(en.mono e1 fun _ z => z).mono e2 fun _ z => z, w2, fun H3 e3 w3 => by
    subst p
    have i4 := i1.mono (e2.trans e3) fun _ z => z
    cases i4 with
    | lst h1 hS h2 =>
      exact ⟨_, _, rfl, .of h1, fun p np => k _ _ _ rfl (((e1.trans e2).trans e3).trans (Ex.new np)) (Md.new w3 np) (.lst upd_same (Md.freeS w3 np) ((h2.cut l h).mono (B := NoA) (Ex.new np) fun _ z => z.elim))⟩⟩⟩⟩
/-- t + u -/
theorem o_catT {xs ys : List D} (hz : xs.length + ys.length ≤ sizeLine) : Op2 X.K M (rCatA X.K) (.tup xs) (.tup ys) fun z => z = .tup (xs ++ ys) := fun v u H Q w i1 i2 k => by
  cases i1 with
  | tup a1 a2 =>
    cases i2 with
    | tup b1 b2 =>
      refine ⟨_, _, _, _, rfl, rfl, .of a1, .of b1, by rw [a2.length, b2.length]; exact hz, fun e => ?_, fun e e' => ?_, fun e e' p np => ?_⟩
      · have z := a2.nil_iff.mp e
        subst z
        exact k _ _ H rfl (Ex.refl H) w (.tup b1 b2)
      · have z := b2.nil_iff.mp e'
        subst z
        exact k _ _ H rfl (Ex.refl H) w (by rw [List.append_nil]; exact .tup a1 a2)
      · exact k _ _ _ rfl (Ex.new np) (Md.new w np) (.tup upd_same ((a2.append b2).mono (B := NoA) (Ex.new np) fun _ z => z.elim))
theorem be_catT {xs ys : List D} (ha : BE X M ds a (.tup xs)) (hb : BE X M ds b (.tup ys)) (hz : xs.length + ys.length ≤ sizeLine) : BE X M ds (.BinOp a .Add b pos) (.tup (xs ++ ys)) := be_op op_catA ha hb (o_catT hz)
theorem o_catL {xs ys : List D} (hz : xs.length + ys.length ≤ sizeLine) : Op2 X.K M rCat (.lst xs) (.lst ys) fun z => z = .lst (xs ++ ys) := fun v u H Q w i1 i2 k => by
  cases i1 with
  | lst a1 _ a2 =>
    cases i2 with
    | lst b1 _ b2 =>
      exact ⟨_, _, _, _, rfl, rfl, a1, b1, by rw [a2.length, b2.length]; exact hz, fun p np => k _ _ _ rfl (Ex.new np) (Md.new w np) (.lst upd_same (Md.freeS w np) ((a2.append b2).mono (B := NoA) (Ex.new np) fun _ z => z.elim))⟩
theorem be_catL {xs ys : List D} (ha : BE X M ds a (.lst xs)) (hb : BE X M ds b (.lst ys)) (hz : xs.length + ys.length ≤ sizeLine) : BE X M ds (.BinOp a .Add b pos) (.lst (xs ++ ys)) := be_op op_cat ha hb (o_catL hz)

/-! ## 7. calls of built-ins by values -/
/-- r, at values that are the data l, gives a datum with P -/
def OpC (K : PySem.W.Frag) (M : Md) (r : List V → Hp → VK → Prop) (l : List D) (P : D → Prop) : Prop :=
  ∀ vs H Q, M.W H → Iss K M.S H vs l → (∀ d w H', P d → Ex M.S H H' → M.W H' → Is K M.S H' w d → Q w H') → r vs H Q
variable {x : Str} {es : List Expr} {p : Pos} {id T : String} {r : List V → Hp → VK → Prop} {P : D → Prop} {L : List D → Prop}
theorem cb {σ : L2.St} {H : Hp} {Q : VK} (en : En X.K M.S H σ ds) (w : M.W H) (h : ∀ l, L l → OpC X.K M r l P) (k : ∀ d v H', P d → Ex M.S H H' → M.W H' → Is X.K M.S H' v d → Q v H') : tCB r (tA X.K M ds L) σ H Q :=
  ⟨en, w, fun l vs H1 p e1 w1 i1 => h l p vs H1 Q w1 i1 fun d z H2 pd e2 w2 i2 => k d z H2 pd (e1.trans e2) w2 i2⟩
theorem bp_callB (hc : CallR X (.builtin id) r) (hm : X.mg x = none) (hv : bootBuiltins x = some (.builtin id)) (ha : BA X M ds (e :: es) L) (h : ∀ l, L l → OpC X.K M r l P) (hg : Gl X x := by rfl) (hn : x ≠ "__name__" := by decide) (hdb : (x == ("__debug__" : Str)) = false := by decide)
    (he : starEach (e :: es) X.env = (false, eval e X.env) :: starEach es X.env := by rfl) (hpl : (backTo pos (starEach es X.env)).any (·.1) = false := by rfl) : BP X M ds (.Call (.Name x p) (e :: es) [] pos) P :=
  .of (pe_callB hc hg hm hv ha.pa hn hdb he hpl) fun σ H Q en w k => cb en w h k
theorem bp_callTy (hc : CallR X (.type T) r) (hm : X.mg x = none) (hv : bootBuiltins x = some (.type T)) (ha : BA X M ds (e :: es) L) (h : ∀ l, L l → OpC X.K M r l P) (hg : Gl X x := by rfl) (hn : x ≠ "__name__" := by decide) (hdb : (x == ("__debug__" : Str)) = false := by decide)
    (he : starEach (e :: es) X.env = (false, eval e X.env) :: starEach es X.env := by rfl) (hpl : (backTo pos (starEach es X.env)).any (·.1) = false := by rfl) : BP X M ds (.Call (.Name x p) (e :: es) [] pos) P :=
  .of (pe_callTy hc hg hm hv ha.pa hn hdb he hpl) fun σ H Q en w k => cb en w h k
theorem Iss.one {K : PySem.W.Frag} {S : Addr → Prop} {H : Hp} {vs : List V} {d : D} (h : Iss K S H vs [d]) : ∃ v, vs = [v] ∧ Is K S H v d := by
  cases h with
  | cons h t => cases t; exact ⟨_, rfl, h⟩
theorem Iss.two {K : PySem.W.Frag} {S : Addr → Prop} {H : Hp} {vs : List V} {d e : D} (h : Iss K S H vs [d, e]) : ∃ v u, vs = [v, u] ∧ Is K S H v d ∧ Is K S H u e := by
  cases h with
  | cons h t => obtain ⟨u, rfl, i⟩ := t.one; exact ⟨_, u, rfl, h, i⟩
theorem OpC.pure1 {K : PySem.W.Frag} {r : List V → Hp → VK → Prop} {x : D} {P : D → Prop} (h : ∀ v H Q, M.W H → Is K M.S H v x → (∀ d w H', P d → Ex M.S H H' → M.W H' → Is K M.S H' w d → Q w H') → r [v] H Q) : OpC K M r [x] P := fun vs H Q w i k => by
  obtain ⟨v, rfl, i1⟩ := i.one
  exact h v H Q w i1 k
theorem Iss.strs {K : PySem.W.Frag} {S : Addr → Prop} {H : Hp} : ∀ zs : List Str, Iss K S H (zs.map V.str) (zs.map D.str)
  | [] => .nil
  | z :: zs => .cons (.str z) (Iss.strs zs)
/-- a tuple of our own, or a list -/
def D.seqT : D → Option (List D)
  | .tup l | .lst l => some l
  | _ => none
theorem Is.seqLT {K : PySem.W.Frag} {S : Addr → Prop} {H : Hp} {v : V} {d : D} {es : List D} (h : Is K S H v d) (hs : d.seq = some es) : ∃ a xs, v = .ref a ∧ (SqL K H a xs ∨ SqT K H a xs) ∧ Iss K S H xs es := by
  cases h with
  | tup h1 h2 => cases hs; exact ⟨_, _, rfl, .inr (.of h1), h2⟩
  | ktp h1 => cases hs; exact ⟨_, _, rfl, .inr h1, Iss.strs _⟩
  | lst h1 _ h2 => cases hs; exact ⟨_, _, rfl, .inl (.of h1), h2⟩
  | _ => cases hs
/-- len -/
theorem be_len {d : D} {l : List D} (hm : X.mg "len" = none) (ha : BE X M ds e d) (hs : d.seq = some l := by rfl) (hg : Gl X "len" := by rfl) (he : starEach [e] X.env = (false, eval e X.env) :: starEach [] X.env := by rfl) (hpl : (backTo pos (starEach [] X.env)).any (·.1) = false := by rfl) :
    BE X M ds (.Call (.Name "len" p) [e] [] pos) (.int l.length) :=
  bp_callB call_len_seq hm boot_len (bae ha ba_nil he) (fun _ q => by
    rw [q]
    exact .pure1 fun v H Q w i k => by
      obtain ⟨a, xs, rfl, s, is⟩ := i.seqLT hs
      exact ⟨a, xs, rfl, s, by rw [is.length]; exact k _ _ H rfl (Ex.refl H) w (.int _)⟩) hg (by decide) (by decide) he hpl
theorem be_lenS {z : Str} (hm : X.mg "len" = none) (ha : BE X M ds e (.str z)) (hz : z.length ≤ sizeLine) (hg : Gl X "len" := by rfl) (he : starEach [e] X.env = (false, eval e X.env) :: starEach [] X.env := by rfl) (hpl : (backTo pos (starEach [] X.env)).any (·.1) = false := by rfl) :
    BE X M ds (.Call (.Name "len" p) [e] [] pos) (.int z.length) :=
  bp_callB call_len_str hm boot_len (bae ha ba_nil he) (fun _ q => by
    rw [q]
    exact .pure1 fun v H Q w i k => by
      cases i
      exact ⟨z, rfl, hz, k _ _ H rfl (Ex.refl H) w (.int _)⟩) hg (by decide) (by decide) he hpl
/-- tuple(..), list(..) of a list or a tuple -/
theorem be_tupleOf {d : D} {l : List D} (hm : X.mg "tuple" = none) (ha : BE X M ds e d) (hs : d.seqT = some l := by rfl) (hg : Gl X "tuple" := by rfl) (he : starEach [e] X.env = (false, eval e X.env) :: starEach [] X.env := by rfl) (hpl : (backTo pos (starEach [] X.env)).any (·.1) = false := by rfl) :
    BE X M ds (.Call (.Name "tuple" p) [e] [] pos) (.tup l) :=
  bp_callTy call_tuple_of hm (by decide +kernel) (bae ha ba_nil he) (fun _ q => by
    rw [q]
    exact .pure1 fun v H Q w i k => by
      cases i with
      | tup h1 h2 => cases hs; exact ⟨_, _, rfl, .inr ⟨.of h1, k _ _ H rfl (Ex.refl H) w (.tup h1 h2)⟩⟩
      | lst h1 _ h2 => cases hs; exact ⟨_, _, rfl, .inl ⟨.of h1, fun t nt => k _ _ _ rfl (Ex.new nt) (Md.new w nt) (.tup upd_same (h2.mono (B := NoA) (Ex.new nt) fun _ z => z.elim))⟩⟩
      | _ => cases hs) hg (by decide) (by decide) he hpl
theorem be_listOf {d : D} {l : List D} (hm : X.mg "list" = none) (ha : BE X M ds e d) (hs : d.seq = some l := by rfl) (hg : Gl X "list" := by rfl) (he : starEach [e] X.env = (false, eval e X.env) :: starEach [] X.env := by rfl) (hpl : (backTo pos (starEach [] X.env)).any (·.1) = false := by rfl) :
    BE X M ds (.Call (.Name "list" p) [e] [] pos) (.lst l) :=
  bp_callTy call_list_of hm (by decide +kernel) (bae ha ba_nil he) (fun _ q => by
    rw [q]
    exact .pure1 fun v H Q w i k => by
      obtain ⟨a, xs, rfl, s, is⟩ := i.seqLT hs
      exact ⟨a, xs, rfl, s, fun t nt => k _ _ _ rfl (Ex.new nt) (Md.new w nt) (.lst upd_same (Md.freeS w nt) (is.mono (B := NoA) (Ex.new nt) fun _ z => z.elim))⟩) hg (by decide) (by decide) he hpl
/-- int(i), min, max of two -/
theorem be_int1 {i : Int} (hm : X.mg "int" = none) (ha : BE X M ds e (.int i)) (hg : Gl X "int" := by rfl) (he : starEach [e] X.env = (false, eval e X.env) :: starEach [] X.env := by rfl) (hpl : (backTo pos (starEach [] X.env)).any (·.1) = false := by rfl) :
    BE X M ds (.Call (.Name "int" p) [e] [] pos) (.int i) :=
  bp_callTy call_int1 hm (by decide +kernel) (bae ha ba_nil he) (fun _ q => by
    rw [q]
    exact .pure1 fun v H Q w i k => by cases i; exact .inl ⟨_, rfl, k _ _ H rfl (Ex.refl H) w (.int _)⟩) hg (by decide) (by decide) he hpl
theorem be_max2 {i j : Int} {e2 : Expr} (hc : X.calm = true) (hm : X.mg "max" = none) (ha : BE X M ds e (.int i)) (hb : BE X M ds e2 (.int j)) (hg : Gl X "max" := by rfl) (he : starEach [e, e2] X.env = (false, eval e X.env) :: starEach [e2] X.env := by rfl) (he2 : starEach [e2] X.env = (false, eval e2 X.env) :: starEach [] X.env := by rfl)
    (hpl : (backTo pos (starEach [e2] X.env)).any (·.1) = false := by rfl) : BE X M ds (.Call (.Name "max" p) [e, e2] [] pos) (.int (if j > i then j else i)) :=
  bp_callB (call_max2 hc) hm (by decide +kernel) (bae ha (bae hb ba_nil he2) he) (fun _ q => by
    rw [q]
    intro vs H Q w i k
    obtain ⟨v, u, rfl, i1, i2⟩ := i.two
    cases i1; cases i2
    exact ⟨_, _, rfl, k _ _ H rfl (Ex.refl H) w (.int _)⟩) hg (by decide) (by decide) he hpl
theorem be_min2 {i j : Int} {e2 : Expr} (hc : X.calm = true) (hm : X.mg "min" = none) (ha : BE X M ds e (.int i)) (hb : BE X M ds e2 (.int j)) (hg : Gl X "min" := by rfl) (he : starEach [e, e2] X.env = (false, eval e X.env) :: starEach [e2] X.env := by rfl) (he2 : starEach [e2] X.env = (false, eval e2 X.env) :: starEach [] X.env := by rfl)
    (hpl : (backTo pos (starEach [e2] X.env)).any (·.1) = false := by rfl) : BE X M ds (.Call (.Name "min" p) [e, e2] [] pos) (.int (if j < i then j else i)) :=
  bp_callB (call_min2 hc) hm (by decide +kernel) (bae ha (bae hb ba_nil he2) he) (fun _ q => by
    rw [q]
    intro vs H Q w i k
    obtain ⟨v, u, rfl, i1, i2⟩ := i.two
    cases i1; cases i2
    exact ⟨_, _, rfl, k _ _ H rfl (Ex.refl H) w (.int _)⟩) hg (by decide) (by decide) he hpl
/-- all, any of a list of truths -/
theorem Iss.bls {K : PySem.W.Frag} {S : Addr → Prop} {H : Hp} : ∀ {bs : List Bool} {vs : List V}, Iss K S H vs (bs.map D.bl) → vs = bs.map V.bl
  | [], _, h => by cases h; rfl
  | b :: bs, _, h => by
    cases h with
    | cons h t => cases h; rw [Iss.bls t]; rfl
theorem be_all {bs : List Bool} (hc : X.calm = true) (hm : X.mg "all" = none) (ha : BE X M ds e (.lst (bs.map D.bl))) (hg : Gl X "all" := by rfl) (he : starEach [e] X.env = (false, eval e X.env) :: starEach [] X.env := by rfl) (hpl : (backTo pos (starEach [] X.env)).any (·.1) = false := by rfl) :
    BE X M ds (.Call (.Name "all" p) [e] [] pos) (.bl (bs.all _root_.id)) :=
  bp_callB (cr_all hc) hm (by decide +kernel) (bae ha ba_nil he) (fun _ q => by
    rw [q]
    exact .pure1 fun v H Q w i k => by
      cases i with
      | lst h1 _ h2 => have e := h2.bls; subst e; exact ⟨_, bs, rfl, .of h1, k _ _ H rfl (Ex.refl H) w (.bl _)⟩) hg (by decide) (by decide) he hpl
theorem be_any {bs : List Bool} (hc : X.calm = true) (hm : X.mg "any" = none) (ha : BE X M ds e (.lst (bs.map D.bl))) (hg : Gl X "any" := by rfl) (he : starEach [e] X.env = (false, eval e X.env) :: starEach [] X.env := by rfl) (hpl : (backTo pos (starEach [] X.env)).any (·.1) = false := by rfl) :
    BE X M ds (.Call (.Name "any" p) [e] [] pos) (.bl (bs.any _root_.id)) :=
  bp_callB (cr_any hc) hm (by decide +kernel) (bae ha ba_nil he) (fun _ q => by
    rw [q]
    exact .pure1 fun v H Q w i k => by
      cases i with
      | lst h1 _ h2 => have e := h2.bls; subst e; exact ⟨_, bs, rfl, .of h1, k _ _ H rfl (Ex.refl H) w (.bl _)⟩) hg (by decide) (by decide) he hpl
/-- isinstance -/
def D.isT (T : String) : D → Option Bool
  | .non => kitB "NoneType" T | .bl _ => kitB "bool" T | .int _ => kitB "int" T | .str _ => kitB "str" T | .tup _ | .ktp _ => kitB "tuple" T | .lst _ => kitB "list" T | .adr _ => none
theorem Is.ty {K : PySem.W.Frag} {S : Addr → Prop} {H : Hp} {v : V} {d : D} {T : String} {b : Bool} (h : Is K S H v d) (e : d.isT T = some b) : ∃ t, TyX K H v t ∧ PySem.W.kitOne K t (.type T) = some b := by
  cases h with
  | non => exact ⟨_, .base .non, kit_ty e⟩
  | bl => exact ⟨_, .base (.bl _), kit_ty e⟩
  | int => exact ⟨_, .base (.int _), kit_ty e⟩
  | str => exact ⟨_, .base (.str _), kit_ty e⟩
  | tup h1 h2 => exact ⟨_, .base (.tup h1), kit_ty e⟩
  | ktp h1 =>
    rcases h1 with (h1 | ⟨o, h1⟩) | ⟨o, its, n, h1, h2, _⟩
    · exact ⟨_, .base (.tup h1), kit_ty e⟩
    · exact ⟨_, .fTuple h1, kit_ty e⟩
    · exact ⟨_, .kTuple h1 h2, kit_ty e⟩
  | lst h1 => exact ⟨_, .base (.lst h1), kit_ty e⟩
  | adr => cases e
theorem be_isi {d : D} {c : Str} {b : Bool} {pc : Pos} (hm : X.mg "isinstance" = none) (hmc : X.mg c = none) (T : String) (ha : BE X M ds e d) (hb : d.isT T = some b) (hvc : bootBuiltins c = some (.type T) := by decide +kernel) (hg : Gl X "isinstance" := by rfl) (hgc : Gl X c := by rfl) (hn : c ≠ "__name__" := by decide) (hd : (c == ("__debug__" : Str)) = false := by decide)
    (he : starEach [e, .Name c pc] X.env = (false, eval e X.env) :: starEach [.Name c pc] X.env := by rfl) (he2 : starEach [.Name c pc] X.env = (false, eval (.Name c pc) X.env) :: starEach [] X.env := by rfl) (hpl : (backTo pos (starEach [.Name c pc] X.env)).any (·.1) = false := by rfl) :
    BE X M ds (.Call (.Name "isinstance" p) [e, .Name c pc] [] pos) (.bl b) :=
  .of (pe_callB call_isi hg hm (by decide +kernel) (pa_cons ha.pe (pa_cons (pe_bltn (v := .ty T) hgc hmc hvc rfl hn hd) pa_nil he2) he) (by decide) (by decide) he hpl) fun σ H Q en w k =>
    ⟨en, w, fun x v H1 p e1 w1 i1 => by
      subst p
      obtain ⟨t, ty, kt⟩ := i1.ty hb
      exact ⟨v, .ty T, t, .type T, b, rfl, .ty T, ty, kt, k _ _ H1 rfl e1 w1 (.bl _)⟩⟩
end
end K23

-- text A6
set_option Elab.async false
set_option linter.all false
set_option maxRecDepth 100000
set_option maxHeartbeats 2000000
namespace K23
open PySem PySem.Spec PyProof.Rows L2

/-! ## 8. promises of defs, calls of defs -/
/-- R M ds P: called in the state M with the data ds, the def gives a datum with P and leaves the state M -/
abbrev Rel := Md → List D → (D → Prop) → Prop
def sgR (K : PySem.W.Frag) (R : Rel) : Sg := fun vs H Q => ∃ M ds P, R M ds P ∧ M.W H ∧ Iss K M.S H vs ds ∧ ∀ d v H', P d → Ex M.S H H' → M.W H' → Is K M.S H' v d → Q v H'
/-- a def that may be called by a name of the module -/
structure Fn (P : Program) (w : World) (K : PySem.W.Frag) (mg : Str → Option Value) (base : Heap) (k : Nat) (x : Str) (ps : List Str) (R : Rel) : Prop where
  ex : ∃ f fd, mg x = some (.ref f) ∧ PySem.W.keepIn K (.ref f) = true ∧ (∃ qual pr body scope, FunD K qual qual pr body scope [] [] f fd) ∧ Binds K fd ps [] ∧ FnG P w K mg base k f fd ps (sgR K R)
/-- a relation that hands back one datum, whatever the state -/
def fun1 (g : List D → D → Prop) : Rel := fun _ ds P => ∃ d, g ds d ∧ P = fun x => x = d
section
variable {X : Cx} {M : Md} {ds : List (Option D)} {a b e : Expr} {pos p : Pos} {k : Nat} {x : Str} {ps : List Str} {R : Rel} {es : List Expr} {L : List D → Prop} {P : D → Prop}
/-- the body's surroundings that calls ask -/
structure Sur (X : Cx) (k : Nat) : Prop where
  room : Room k X.A
  gd : X.A.guards = some []
theorem Sur.mono {j : Nat} (s : Sur X k) (h : j ≤ k) : Sur X j := ⟨s.room.mono h, s.gd⟩
theorem Sur.u64 (s : Sur X k) : X.A.units + 64 < cLine := s.room.units
theorem pe_fn (F : Fn X.prog X.w X.K X.mg X.base k x ps R) (su : Sur X k) (hl : ∀ l, L l → l.length = ps.length) (ha : BA X M ds (e :: es) L) (h : ∀ l, L l → R M l P) (hg : Gl X x := by rfl) (hdb : (x == ("__debug__" : Str)) = false := by decide)
    (he : starEach (e :: es) X.env = (false, eval e X.env) :: starEach es X.env := by rfl) (hpl : (backTo pos (starEach es X.env)).any (·.1) = false := by rfl) : BP X M ds (.Call (.Name x p) (e :: es) [] pos) P := by
  obtain ⟨f, fd, hm, hk, _, hb, F⟩ := F.ex
  refine ⟨⟨fun pins s σ H Q I q => ?_⟩⟩
  obtain ⟨en, w, kk⟩ := q
  refine wpAny_Call_Name_kw (ld_glob I hg hm ?_ hdb)
  refine PySem.W.callWith_K (h₀ := X.base) I.ok.mod.kin hk ?_ he hpl
  refine thn (ha.pa.run pos pins s σ H (fun vs H1 => sgR X.K R vs H1 Q) I ⟨en, w, fun l vs H1 pl e1 w1 i1 => ?_⟩) ?_
  · exact ⟨M, l, P, h l pl, w1, i1, fun d v H2 pd e2 w2 i2 => kk d v H2 pd (e1.trans e2) w2 i2⟩
  · rintro us s1 ⟨vs, H1, I1, r, q⟩
    exact ⟨I1.kIn, fng_call F su.gd su.room I1 hb r q⟩
theorem bp_call {l : List D} (F : Fn X.prog X.w X.K X.mg X.base k x ps R) (su : Sur X k) (ha : BAE X M ds (e :: es) l) (h : R M l P) (hl : l.length = ps.length := by rfl) (hg : Gl X x := by rfl) (hdb : (x == ("__debug__" : Str)) = false := by decide)
    (he : starEach (e :: es) X.env = (false, eval e X.env) :: starEach es X.env := by rfl) (hpl : (backTo pos (starEach es X.env)).any (·.1) = false := by rfl) : BP X M ds (.Call (.Name x p) (e :: es) [] pos) P :=
  pe_fn F su (fun _ q => by rw [q]; exact hl) ha (fun _ q => by rw [q]; exact h) hg hdb he hpl
theorem be_call {l : List D} {d : D} {g : List D → D → Prop} (F : Fn X.prog X.w X.K X.mg X.base k x ps (fun1 g)) (su : Sur X k) (ha : BAE X M ds (e :: es) l) (h : g l d) (hl : l.length = ps.length := by rfl) (hg : Gl X x := by rfl) (hdb : (x == ("__debug__" : Str)) = false := by decide)
    (he : starEach (e :: es) X.env = (false, eval e X.env) :: starEach es X.env := by rfl) (hpl : (backTo pos (starEach es X.env)).any (·.1) = false := by rfl) : BE X M ds (.Call (.Name x p) (e :: es) [] pos) d :=
  bp_call F su ha ⟨d, h, rfl⟩ hl hg hdb he hpl

/-! ## 9. statements: what is reached from the slots ds in the state M -/
def wS (X : Cx) (b : List Stmt) (E : Ends) (σ : L2.St) (H : Hp) : Prop := ∃ t, PSs X b t ∧ t E σ H
theorem wS_ok (X : Cx) (b : List Stmt) : PSs X b (fun E σ H => wS X b E σ H) := ⟨fun pins s σ H E I ⟨_, h, q⟩ => h.run pins s σ H E I q⟩
structure ST (X : Cx) (M : Md) (ds : List (Option D)) (b : List Stmt) (E : Ends) : Prop where
  go : ∀ σ H, En X.K M.S H σ ds → M.W H → wS X b E σ H
variable {E : Ends} {rest : List Stmt} {st : Stmt}
/-- one statement, then the others -/
theorem st_of {t : TS} (h : PS X st t) (i : ∀ σ H, En X.K M.S H σ ds → M.W H → t { E with nx := fun σ' H' => wS X rest E σ' H' } σ H) : ST X M ds (st :: rest) E :=
  ⟨fun σ H en w => ⟨_, pss_cons h (wS_ok X rest), i σ H en w⟩⟩
/-- the end of a block -/
theorem st_nil (h : ∀ σ H, En X.K M.S H σ ds → M.W H → E.nx σ H) : ST X M ds [] E := ⟨fun σ H en w => ⟨_, pss_nil, h σ H en w⟩⟩
theorem st_then (h : ST X M ds rest E) : ST X M ds [] { E with nx := fun σ H => wS X rest E σ H } := st_nil h.go
theorem st_asg {i : Nat} {pos' : Pos} (h : BP X M ds e P) (k : ∀ d, P d → ST X M (ds.set i (some d)) rest E) (hN : X.N.Nodup := by assumption) (hi : X.N[i]? = some x := by rfl) (hx : Loc X.env.scope x := by first | exact Or.inl rfl | exact Or.inr rfl) (hs : swapsWith e (some (.Name x pos')) pos.line X.env = pure false := by rfl)
    (hf : X.fn x = true ∨ X.env.scope.names.lookup x = some .local := by exact Or.inl rfl) : ST X M ds (.Assign [.Name x pos'] e pos :: rest) E :=
  st_of (ps_set hN hi hx h.pe hs hf) fun σ H en w => ⟨en, w, fun d v H' p e1 w1 i1 => (k d p).go _ _ ((en.mono e1 fun _ z => z).set i1) w1⟩
theorem st_set {i : Nat} {pos' : Pos} {d : D} (h : BE X M ds e d) (k : ST X M (ds.set i (some d)) rest E) (hN : X.N.Nodup := by assumption) (hi : X.N[i]? = some x := by rfl) (hx : Loc X.env.scope x := by first | exact Or.inl rfl | exact Or.inr rfl) (hs : swapsWith e (some (.Name x pos')) pos.line X.env = pure false := by rfl)
    (hf : X.fn x = true ∨ X.env.scope.names.lookup x = some .local := by exact Or.inl rfl) : ST X M ds (.Assign [.Name x pos'] e pos :: rest) E :=
  st_asg h (fun _ p => by rw [p]; exact k) hN hi hx hs hf
theorem st_expr (h : BP X M ds e P) (k : ST X M ds rest E) (hs : swapsWith e none pos.line X.env = pure false := by rfl) : ST X M ds (.Expr e pos :: rest) E :=
  st_of (ps_expr h.pe hs) fun σ H en w => ⟨en, w, fun d v H' p e1 w1 i1 => k.go _ _ (en.mono e1 fun _ z => z) w1⟩
/-- a datum is a right answer -/
def Ret (K : PySem.W.Frag) (M : Md) (E : Ends) (d : D) : Prop := ∀ v H, M.W H → Is K M.S H v d → E.rt v H
theorem st_ret (h : BP X M ds e P) (k : ∀ d, P d → Ret X.K M E d) : ST X M ds (.Return (some e) pos :: rest) E :=
  st_of (ps_ret h.pe) fun σ H en w => ⟨en, w, fun d v H' p e1 w1 i1 => k d p v H' w1 i1⟩
theorem st_retE {d : D} (h : BE X M ds e d) (k : Ret X.K M E d) : ST X M ds (.Return (some e) pos :: rest) E := st_ret h fun _ p => by rw [p]; exact k
theorem st_if {c : Expr} {A B : List Stmt} {PB : Bool → Prop} (hc : BT X M ds c PB) (ht : PB true → ST X M ds A { E with nx := fun σ H => wS X rest E σ H }) (hf : PB false → ST X M ds B { E with nx := fun σ H => wS X rest E σ H }) : ST X M ds (.If c A B pos :: rest) E :=
  st_of (ps_if hc.pt (wS_ok X A) (wS_ok X B)) fun σ H en w => ⟨en, w, fun d H' p e1 w1 => by
    cases d
    · exact (hf p).go _ _ (en.mono e1 fun _ z => z) w1
    · exact (ht p).go _ _ (en.mono e1 fun _ z => z) w1⟩
theorem st_ifE {c : Expr} {A B : List Stmt} {q : Bool} (hc : BTE X M ds c q) (ht : q = true → ST X M ds A { E with nx := fun σ H => wS X rest E σ H }) (hf : q = false → ST X M ds B { E with nx := fun σ H => wS X rest E σ H }) : ST X M ds (.If c A B pos :: rest) E :=
  st_if hc (fun h => ht h.symm) fun h => hf h.symm
/-- an if that is not taken, with nothing else -/
theorem st_skip {c : Expr} {A : List Stmt} (hc : BTE X M ds c false) (k : ST X M ds rest E) : ST X M ds (.If c A [] pos :: rest) E := st_ifE hc (fun h => nomatch h) fun _ => st_then k
/-- an if that is taken -/
theorem st_take {c : Expr} {A B : List Stmt} (hc : BTE X M ds c true) (k : ST X M ds A { E with nx := fun σ H => wS X rest E σ H }) : ST X M ds (.If c A B pos :: rest) E := st_ifE hc (fun _ => k) fun h => nomatch h
theorem st_cont (h : ∀ σ H, En X.K M.S H σ ds → M.W H → E.ct σ H) : ST X M ds (.Continue pos :: rest) E := st_of ps_continue h
theorem st_break (h : ∀ σ H, En X.K M.S H σ ds → M.W H → E.bk σ H) : ST X M ds (.Break pos :: rest) E := st_of ps_break h
/-- weaker knowledge -/
theorem ST.imp {M' : Md} {ds' : List (Option D)} (h : ST X M' ds' rest E) (i : ∀ σ H, En X.K M.S H σ ds → M.W H → En X.K M'.S H σ ds' ∧ M'.W H) : ST X M ds rest E := ⟨fun σ H en w => h.go σ H (i σ H en w).1 (i σ H en w).2⟩
end

/-- from a body to the promise -/
abbrev XX (P : Program) (w : World) (K : PySem.W.Frag) (mg : Str → Option Value) (base : Heap) (N : List Str) (qual : Str) (scope : Scope) (f : Addr) (cdv : Value) (A : Around) (fr : List Env) (s : Shared) (H : Hp) : Cx :=
  (cxOf CX0 P w K mg base N qual scope f cdv A fr s H E0).nox
theorem fn_mk {P : Program} {w : World} {K : PySem.W.Frag} {mg : Str → Option Value} {base : Heap} {k : Nat} {x qual : Str} {pr : Arguments} {body : List Stmt} {scope : Scope} {f : Addr} {fd : FuncData} {ps N : List Str} {R : Rel}
    (F : FunD K qual qual pr body scope [] [] f fd) (hm : mg x = some (.ref f)) (S : FnScope N ps scope) (hb : Binds K fd ps []) (hl : ∀ M ds P, R M ds P → ds.length = ps.length)
    (go : ∀ (cdv : Value) (A : Around) (fr : List Env) (s : Shared) (M : Md) (ds : List D) (Q : D → Prop) (H0 : Hp) (E : Ends), Sur (XX P w K mg base N qual scope f cdv A fr s H0) k → R M ds Q → (∀ d, Q d → Ret K (M.at H0) E d) →
      (∀ σ H, (M.at H0).W H → Q .non → E.nx σ H) → ST (XX P w K mg base N qual scope f cdv A fr s H0) (M.at H0) (ds.map some ++ List.replicate (N.length - ds.length) none) body E) : Fn P w K mg base (k + 1) x ps R := by
  refine ⟨f, fd, hm, F.kp, ⟨_, _, _, _, F⟩, hb, fng_mk F S (fun vs H Q ⟨M, ds, P, r, _, i, _⟩ => by rw [i.length]; exact hl M ds P r) fun cdv A fr s H vs Q hg hr ⟨M, ds, P, r, w0, i, k0⟩ => ?_⟩
  have hlen := i.length
  have g := go cdv A fr s M ds P H { nx := fun _ H' => Q .non H', rt := Q } ⟨hr, hg⟩ r
    (fun d p v H' w1 i1 => k0 d v H' p w1.2 w1.1 i1) (fun σ H' w1 p => k0 .non .non H' p w1.2 w1.1 .non)
  exact g.go _ _ (En.start i N (N.length - ds.length) (by rw [hlen])) ⟨w0, Ex.refl H⟩
end K23

-- text A7
set_option Elab.async false
set_option linter.all false
set_option maxRecDepth 100000
set_option maxHeartbeats 2000000
namespace K23
open PySem PySem.Spec PyProof.Rows L2

/-! ## 10. targets -/
def tG (K : PySem.W.Frag) (M : Md) (d : D) (ds ds2 : List (Option D)) (is : List Nat) : TG := fun v σ H Q =>
  En K M.S H σ ds ∧ Is K M.S H v d ∧ ∀ σ', En K M.S H σ' ds2 → (∀ own : List Nat, (∀ i ∈ is, i ∈ own) → wipe σ' own = wipe σ own) → Q σ' H
structure BG (X : Cx) (M : Md) (tg : Expr) (d : D) (ds ds2 : List (Option D)) (is : List Nat) : Prop where
  pg : PG X tg (tG X.K M d ds ds2 is)
theorem PG.imp {X : Cx} {e : Expr} {t t' : TG} (h : PG X e t) (i : ∀ v σ H Q, t' v σ H Q → t v σ H Q) : PG X e t' := ⟨fun pins s σ H v u Q I r q => h.run pins s σ H v u Q I r (i v σ H Q q)⟩
theorem PGs.imp {X : Cx} {e : List Expr} {t t' : TGs} (h : PGs X e t) (i : ∀ v σ H Q, t' v σ H Q → t v σ H Q) : PGs X e t' := ⟨fun pins s σ H v u Q I r q => h.run pins s σ H v u Q I r (i v σ H Q q)⟩
theorem wipe_set {σ : L2.St} {i : Nat} {x : Option V} : ∀ {own : List Nat}, i ∈ own → wipe (σ.set i x) own = wipe σ own
  | [], h => by cases h
  | j :: own, h => by
    unfold wipe
    by_cases hj : i ∈ own
    · rw [wipe_set hj]
    · have e : i = j := by
        rcases List.mem_cons.mp h with e | e
        · exact e
        · exact absurd e hj
      subst e
      have key : ∀ (l : List Nat), i ∉ l → wipe (σ.set i x) l = (wipe σ l).set i x := by
        intro l
        induction l with
        | nil => intro _; rfl
        | cons k l ih =>
          intro hk
          unfold wipe
          rw [ih fun z => hk (List.mem_cons_of_mem _ z), List.set_comm]
          exact fun z => hk (by rw [z]; exact List.mem_cons_self)
      rw [key own hj, List.set_set]
section
variable {X : Cx} {M : Md} {ds : List (Option D)}
theorem bg_name {i : Nat} {x : Str} {d : D} {pos : Pos} (hN : X.N.Nodup) (hi : X.N[i]? = some x := by rfl) (hx : Loc X.env.scope x := by first | exact Or.inl rfl | exact Or.inr rfl) (hf : X.fn x = true ∨ X.env.scope.names.lookup x = some .local := by first | exact .inl rfl | exact .inr rfl) :
    BG X M (.Name x pos) d ds (ds.set i (some d)) [i] :=
  ⟨PG.imp (pg_name hN hi hx hf) fun v σ H Q ⟨en, is, k⟩ => k _ (en.set is) fun own h => wipe_set (h i List.mem_cons_self)⟩
/-- several, one after another -/
def tGs (K : PySem.W.Frag) (M : Md) (l : List D) (ds ds2 : List (Option D)) (is : List Nat) : TGs := fun vs σ H Q =>
  En K M.S H σ ds ∧ Iss K M.S H vs l ∧ ∀ σ', En K M.S H σ' ds2 → (∀ own : List Nat, (∀ i ∈ is, i ∈ own) → wipe σ' own = wipe σ own) → Q σ' H
structure BGs (X : Cx) (M : Md) (tgs : List Expr) (l : List D) (ds ds2 : List (Option D)) (is : List Nat) : Prop where
  pgs : PGs X tgs (tGs X.K M l ds ds2 is)
theorem bgs_nil : BGs X M [] [] ds ds [] := ⟨PGs.imp pgs_nil fun vs σ H Q ⟨en, is, k⟩ => by cases is; exact ⟨rfl, k σ en fun _ _ => rfl⟩⟩
theorem bgs_cons {e : Expr} {es : List Expr} {d : D} {l : List D} {ds1 ds2 : List (Option D)} {is js : List Nat} (h : BG X M e d ds ds1 is) (t : BGs X M es l ds1 ds2 js) (hs : (assignEach (e :: es) X.env).map (·.2) = assign e X.env :: (assignEach es X.env).map (·.2) := by rfl) : BGs X M (e :: es) (d :: l) ds ds2 (is ++ js) :=
  ⟨PGs.imp (pgs_cons h.pg t.pgs hs) fun vs σ H Q ⟨en, is', k⟩ => by
    cases is' with
    | cons i1 i2 =>
      refine ⟨_, _, rfl, en, i1, fun σ' en1 w1 => ⟨en1, i2, fun σ2 en2 w2 => k σ2 en2 fun own h => ?_⟩⟩
      rw [w2 own fun i q => h i (List.mem_append_right _ q), w1 own fun i q => h i (List.mem_append_left _ q)]⟩
theorem bg_tup {es : List Expr} {k : Nat} {pos : Pos} {l : List D} {ds2 : List (Option D)} {is : List Nat} (hc : X.calm = true) (h : BGs X M es l ds ds2 is) (n : Nat) (hl : l.length = n := by rfl) (hn : (assignEach es X.env).length = n := by rfl) (hst : (assignEach es X.env).findIdx? (·.1) = none := by rfl) :
    BG X M (.Tuple es k pos) (.tup l) ds ds2 is :=
  ⟨PG.imp (L2.pg_tup hc h.pgs hn hst) fun v σ H Q ⟨en, i, q⟩ => by
    cases i with
    | tup h1 h2 => exact ⟨_, _, rfl, .of h1, by rw [h2.length]; exact hl, en, h2, q⟩⟩

/-! ## 11. what is walked: the data ys, in their order -/
def iD (K : PySem.W.Frag) (M : Md) (ds : List (Option D)) (Ys : List D → Prop) : TI := fun σ H R =>
  En K M.S H σ ds ∧ M.W H ∧ ∀ J H1 ys, Ys ys → Ex M.S H H1 → M.W H1 → Walk J ys.length (fun H' => Ex M.S H1 H') (fun i H' x H2 => Ex NoA H' H2 ∧ ∃ d, ys[i]? = some d ∧ Is K M.S H2 x d) → R J H1
structure BI (X : Cx) (M : Md) (ds : List (Option D)) (tg iter : Expr) (Ys : List D → Prop) : Prop where
  pi : PI X tg iter (iD X.K M ds Ys)
theorem PI.imp {X : Cx} {tg e : Expr} {t t' : TI} (h : PI X tg e t) (i : ∀ σ H Q, t' σ H Q → t σ H Q) : PI X tg e t' := ⟨fun pins s σ H Q I q => h.run pins s σ H Q I (i σ H Q q)⟩
abbrev BIE (X : Cx) (M : Md) (ds : List (Option D)) (tg iter : Expr) (ys : List D) : Prop := BI X M ds tg iter fun z => z = ys
variable {tg iter e a b : Expr} {pos p : Pos}
theorem BI.imp {Ys Zs : List D → Prop} (h : BI X M ds tg iter Ys) (i : ∀ y, Ys y → Zs y) : BI X M ds tg iter Zs := ⟨PI.imp h.pi fun σ H R q => ⟨q.1, q.2.1, fun J H1 ys p => q.2.2 J H1 ys (i ys p)⟩⟩
theorem bi_tup {Ys : List D → Prop} (h : BP X M ds iter fun d => ∃ es, d = .tup es ∧ Ys es) : BI X M ds tg iter Ys :=
  ⟨PI.imp (pi_tup h.pe) fun σ H R ⟨en, w, k⟩ => ⟨en, w, fun d v H1 ⟨es, q, y⟩ e1 w1 i1 => by
    subst q
    cases i1 with
    | tup h1 h2 =>
      refine ⟨_, rfl, ⟨_, .of h1⟩, k _ H1 es y e1 w1 ?_⟩
      rw [← h2.length]
      refine walk_tup.mono (fun H' ex => ex.rdT (.of h1)) fun i H' x H2 hi ex ⟨q1, q2⟩ => ?_
      subst q1
      obtain ⟨d, hd, is⟩ := h2.getV q2
      exact ⟨Ex.refl _, d, hd, is.mono ex fun _ z => z⟩⟩⟩
theorem bi_lst {Ys : List D → Prop} (h : BP X M ds iter fun d => ∃ es, d = .lst es ∧ Ys es) : BI X M ds tg iter Ys :=
  ⟨PI.imp (pi_list h.pe) fun σ H R ⟨en, w, k⟩ => ⟨en, w, fun d v H1 ⟨es, q, y⟩ e1 w1 i1 => by
    subst q
    cases i1 with
    | lst h1 hS h2 =>
      refine ⟨_, rfl, ⟨_, .of h1⟩, k _ H1 es y e1 w1 ?_⟩
      rw [← h2.length]
      refine walk_list.mono (fun H' ex => .of (ex.old _ _ h1 hS)) fun i H' x H2 hi ex ⟨q1, q2⟩ => ?_
      subst q1
      obtain ⟨d, hd, is⟩ := h2.getV q2
      exact ⟨Ex.refl _, d, hd, is.mono ex fun _ z => z⟩⟩⟩
def rngD (lo : Int) (n : Nat) : List D := (List.range n).map fun i => .int (lo + (i : Nat))
theorem rngD_at {lo : Int} {n i : Nat} (h : i < n) : (rngD lo n)[i]? = some (.int (lo + i)) := by
  unfold rngD
  rw [List.getElem?_map, List.getElem?_range h]
  rfl
theorem rngD_len {lo : Int} {n : Nat} : (rngD lo n).length = n := by simp [rngD]
theorem walk_rng {K : PySem.W.Frag} {H1 : Hp} {lo : Int} {n : Nat} : Walk (Itr lo n) (rngD lo n).length (fun H' => Ex M.S H1 H') (fun i H' x H2 => Ex NoA H' H2 ∧ ∃ d, (rngD lo n)[i]? = some d ∧ Is K M.S H2 x d) := by
  rw [rngD_len]
  refine walk_range.mono (fun _ _ => trivial) fun i H' x H2 hi _ ⟨q1, q2⟩ => ?_
  subst q1 q2
  exact ⟨Ex.refl _, _, rngD_at hi, .int _⟩
theorem bi_range1 {N : Int → Prop} (hm : X.mg "range" = none) (ha : BP X M ds a fun d => ∃ n, d = .int n ∧ N n) (hN : ∀ n, N n → -(2 ^ 62) ≤ n ∧ n < 2 ^ 62) (hg : Gl X "range" := by rfl) (he : starEach [a] X.env = (false, eval a X.env) :: starEach [] X.env := by rfl) (hs : starEach [a] X.env = [(false, eval a X.env)] := by rfl) :
    BI X M ds tg (.Call (.Name "range" p) [a] [] pos) fun y => ∃ n : Int, N n ∧ y = rngD 0 n.toNat :=
  ⟨PI.imp (pi_range1 hg hm (ba_cons (R := fun l => ∃ n, l = [.int n] ∧ N n) ha ba_nil (fun d l ⟨n, q, hn⟩ q2 => ⟨n, by rw [q, q2], hn⟩) he).pa hs) fun σ H R ⟨en, w, k⟩ => ⟨en, w, fun l vs H1 ⟨n, q, hn⟩ e1 w1 i1 => by
    subst q
    obtain ⟨v, rfl, i2⟩ := i1.one
    cases i2
    exact ⟨n, rfl, (hN n hn).1, (hN n hn).2, k _ H1 _ ⟨n, hn, rfl⟩ e1 w1 walk_rng⟩⟩⟩
theorem bi_range2 {lo hi : Int} (hm : X.mg "range" = none) (ha : BE X M ds a (.int lo)) (hb : BE X M ds b (.int hi)) (hN : -(2 ^ 62) ≤ lo ∧ lo < 2 ^ 62 ∧ -(2 ^ 62) ≤ hi ∧ hi < 2 ^ 62) (hg : Gl X "range" := by rfl) (he : starEach [a, b] X.env = (false, eval a X.env) :: starEach [b] X.env := by rfl) (he2 : starEach [b] X.env = (false, eval b X.env) :: starEach [] X.env := by rfl)
    (hs : starEach [a, b] X.env = [(false, eval a X.env), (false, eval b X.env)] := by rfl) (hs2 : starEach [b] X.env = [(false, eval b X.env)] := by rfl) : BIE X M ds tg (.Call (.Name "range" p) [a, b] [] pos) (rngD lo (hi - lo).toNat) :=
  ⟨PI.imp (pi_range2 hg hm (bae ha (bae hb ba_nil he2) he).pa hs hs2) fun σ H R ⟨en, w, k⟩ => ⟨en, w, fun l vs H1 q e1 w1 i1 => by
    subst q
    obtain ⟨v, u, rfl, i2, i3⟩ := i1.two
    cases i2; cases i3
    exact ⟨lo, hi, rfl, hN, k _ H1 _ rfl e1 w1 walk_rng⟩⟩⟩
/-- a text, sign by sign -/
def signs (z : Str) : List D := z.cps.toList.map fun c => .str ⟨#[c]⟩
theorem bi_str {z : Str} (h : BE X M ds iter (.str z)) : BIE X M ds tg iter (signs z) :=
  ⟨PI.imp (pi_str h.pe) fun σ H R ⟨en, w, k⟩ => ⟨en, w, fun d v H1 q e1 w1 i1 => by
    subst q
    cases i1
    refine ⟨z, rfl, k _ H1 _ rfl e1 w1 ?_⟩
    have hl : (signs z).length = z.cps.size := by simp [signs]
    rw [hl]
    refine walk_str.mono (fun _ _ => trivial) fun i H' x H2 hi _ ⟨q1, c, q2, q3⟩ => ?_
    subst q1 q3
    refine ⟨Ex.refl _, .str ⟨#[c]⟩, ?_, .str _⟩
    unfold signs
    rw [List.getElem?_map, Array.getElem?_toList, q2]
    rfl⟩⟩
end
end K23

-- text A8
set_option Elab.async false
set_option linter.all false
set_option maxRecDepth 100000
set_option maxHeartbeats 2000000
namespace K23
open PySem PySem.Spec PyProof.Rows L2
open AutoSeq1 (wpAny_loadPart')

/-! ## 12. enumerate of a tuple -/
theorem enum_new_meets {v : Value} {o : Obj} {Hh : Heap → Prop} (B : Begins v o Hh) :
    Meets (Builtin.«enumerate.__new__» ⟨[.type "enumerate", v], []⟩) (fun _ R s => Hh s.heap ∧ R (.ok (.ret (.ref (s.heap.push o).objs.size)))
      { s with heap := (s.heap.push o).push { cls := .type "enumerate", data := .fields #[.none, .bool false, .ref s.heap.objs.size, rawInt 0, .none, .none] } }) :=
  .of_wp fun prog w A R s h => by
    obtain ⟨hp, g, d, tk, os⟩ := s
    obtain ⟨hl, h⟩ := h
    have hsub := sub_enumerate
    have begun : ∀ {A1 : Around} {E1 : Value → Shared → Prop} {Q1 : Value → Shared → Prop}, Q1 (.ref hp.objs.size) ⟨hp.push o, g, d, tk, os⟩ → wpAny (model prog w) A1 (pyIter v) Q1 E1 ⟨hp, g, d, tk, os⟩ :=
      fun q => B.iter prog w _ _ ⟨hp, g, d, tk, os⟩ _ hl q
    wp_walk using begun
    refine wpAny_stack_any fun st => wpAny_pure ?_
    split
    · rename_i c _ _ _ _ _
      cases (c == Value.type "enumerate") <;> (wp_walk using begun; exact ⟨_, rfl, h⟩)
    · wp_walk using begun
      exact ⟨_, rfl, h⟩
theorem enum_call {prog : Program} {w : World} {A : Around} {E : Value → Shared → Prop} {s : Shared} {v : Value} {o : Obj} {Hh : Heap → Prop} {Q : Value → Shared → Prop} (B : Begins v o Hh) (h1 : Hh s.heap)
    (h : ∀ h', IsEnum h' (s.heap.objs.size + 1) s.heap.objs.size 0 .none → h'.get? s.heap.objs.size = some o → (∀ b u, s.heap.get? b = some u → h'.get? b = some u) → Q (.ref (s.heap.objs.size + 1)) { s with heap := h' }) :
    wpAny (model prog w) A (call (.type "enumerate") [v]) Q E s := by
  refine callType_new F.called_enumerate (by decide) (F.typeCall_enumerate_1 _) (F.newCall_enumerate_1 _) (fun obj => F.args_object_init_2 obj _) F.entry_enumerate_new (enum_new_meets B) ⟨h1, ?_⟩
  have hz : (s.heap.push o).objs.size = s.heap.objs.size + 1 := Heap.size_push ..
  show _ ∧ _
  rw [hz]
  have he : IsEnum ((s.heap.push o).push { cls := .type "enumerate", data := .fields #[.none, .bool false, .ref s.heap.objs.size, rawInt 0, .none, .none] }) (s.heap.objs.size + 1) s.heap.objs.size 0 .none := by
    have q := Heap.get?_push_size (s.heap.push o) (o := { cls := .type "enumerate", data := .fields #[.none, .bool false, .ref s.heap.objs.size, rawInt 0, .none, .none] }) rfl
    rw [hz] at q
    exact q
  exact ⟨⟨_, he, rfl⟩, h _ he (Heap.get?_push_of_some _ (Heap.get?_push_size _ B.free)) fun b u x => Heap.get?_push_of_some _ (Heap.get?_push_of_some _ x)⟩
/-- the tuple at a, each item in a new pair with its place -/
def ItT (K : PySem.W.Frag) (a : Addr) : It where
  go := fun i H => ∃ xs x, SqT K H a xs ∧ xs[i]? = some x
  yld := fun i H v H' => ∃ T x, v = V.ref T ∧ H T = none ∧ H' = upd H T (.tup [.int (i : Nat), x]) ∧ ∀ xs, SqT K H a xs → xs[i]? = some x
  stop := fun i H => ∃ xs, SqT K H a xs ∧ xs.length = i
theorem turn_ItT {P : Program} {w : World} {K : PySem.W.Frag} {elts : List Expr} {kk : Nat} {tpos : Pos} (a e it : Addr) :
    Turn P w K (.Tuple elts kk tpos) (ItT K a) [e, it] e (fun i h => (∃ old, IsEnum h e it ((i : Nat) : Int) old) ∧ h.IsTupleIter it a i ∧ e ≠ it ∧ a ≠ it ∧ a ≠ e) where
  mem := List.mem_cons_self
  obj := fun i h st b hb => by
    obtain ⟨⟨old, he⟩, ⟨o, ho, hc, hd⟩, _⟩ := st
    rcases List.mem_cons.mp hb with z | z
    · subst z; exact ⟨_, he, fun v q => nomatch q⟩
    · have z' := List.mem_singleton.mp z; subst z'; exact ⟨o, ho, fun v q => by rw [hd] at q; cases q⟩
  keep := fun i h h' ⟨⟨old, he⟩, hi, r⟩ k => ⟨⟨old, k e (by simp) _ he⟩, hi.at fun o q => k it (by simp) o q, r⟩
  item := by
    rintro X rfl rfl rfl hc i pins s σ H E I hf ⟨⟨old, he⟩, hit, hne, hai, hae⟩ ⟨xs, x, hq, hx⟩
    obtain ⟨its, rv, p, hz⟩ := I.tuple hq
    obtain ⟨u, hu, ru⟩ := rv.get hx
    have hel : e < s.heap.objs.size := Heap.lt_size he
    have hil : it < s.heap.objs.size := let ⟨_, q, _⟩ := hit; Heap.lt_size q
    have hin : i < its.toArray.size := by
      have := (List.getElem?_eq_some_iff.mp hu).1
      simpa using this
    have D := Draws.tuple (prog := X.prog) (w := X.w) (A := X.A.in1) (I.ok.hd hc) it a hai its.toArray
    refine wpAny_pyNext_enum_itemD D he ⟨hit, p⟩ hin hne (by simp [hne, Ne.symm hae]) fun y h' tk hy ho hit' hT hsz hk => ?_
    have ey : y = u := by
      have e1 : its.toArray[i]? = some u := by simpa using hu
      rw [e1] at hy
      exact (Option.some.inj hy).symm
    subst ey
    refine ⟨_, rfl, wpAny_letOwnedTupleGo_enum (s := { s with heap := h', toks := tk + 1 }) ho fun h2 he' sb => ?_⟩
    have hT2 : h2.get? s.heap.objs.size = some { cls := .type "tuple", data := .seq #[.int i tk, y] } := (sb.2 _ (Nat.ne_of_gt hel)).trans hT
    have lt2 : ∀ b ∈ [e, it], b < s.heap.objs.size := fun b hb => by
      rcases List.mem_cons.mp hb with z | z
      · rw [z]; exact hel
      · rw [List.mem_singleton.mp z]; exact hil
    have I1 : Inv X pins σ (upd H s.heap.objs.size (.tup [.int (i : Nat), x])) { s with heap := h2, toks := tk + 1 } :=
      I.turnedNew (ch := [e, it]) (fun b ob hb q => (sb.2 b (fun z => hb (by simp [z]))).trans (hk b ob (fun z => hb (by simp [z])) (fun z => hb (by simp [z])) q)) hf (Nat.le_refl _)
        ⟨by show 2 ≤ sizeLine; decide, [.int i tk, y], .cons ⟨_, rfl⟩ (.cons ru .nil), ⟨_, hT2, rfl, _, rfl⟩⟩
    refine ⟨.ref s.heap.objs.size, _, I1, rfl, ⟨_, x, rfl, I.hok.fresh (Nat.le_refl _), rfl, fun ys hy => by rw [I.tuple_inj hy hq]; exact hx⟩, ⟨⟨y, ?_⟩, hit'.1.at fun o q => (sb.2 it (Ne.symm hne)).trans q, hne, hai, hae⟩, fun b hb => ?_⟩
    · rw [show ((i + 1 : Nat) : Int) = (i : Int) + 1 by omega]
      exact he'
    · rw [upd_ne (Nat.ne_of_lt (lt2 b hb))]
      exact (hf b hb).1
  done := by
    rintro X rfl rfl rfl hc i pins s σ H E I hf ⟨⟨old, he⟩, hit, hne, hai, hae⟩ ⟨xs, hq, hx⟩
    obtain ⟨its, rv, p, hz⟩ := I.tuple hq
    obtain ⟨f0, f1, f2, f3, f4, f5⟩ := hf it (by simp)
    have hl := rv.length
    have D := Draws.tuple (prog := X.prog) (w := X.w) (A := X.A.in1) (I.ok.hd hc) it a hai its.toArray
    have ei : its.toArray.size = i := by simp; omega
    rw [← ei] at hit he
    exact wpAny_pyNext_enum_endD D he ⟨hit, p⟩ fun h' eb => ⟨rfl, I.turned (t' := s.toks) (fun b o hb q => eb b o hb q) f0 f1 f3 f4 f5⟩
  self := fun A i s Q E ⟨⟨_, he⟩, _⟩ h => wpAny_pyIter_enum he h
def iEnumT (K : PySem.W.Frag) (ta : TA) : TI := fun σ H R => ta σ H fun vs H1 => ∃ a xs, vs = [V.ref a] ∧ SqT K H1 a xs ∧ R (ItT K a) H1
theorem pi_enumT {X : Cx} {e : Expr} {ta : TA} {p pos tpos : Pos} {elts : List Expr} {kk : Nat} (hg : Gl X "enumerate") (hm : X.mg "enumerate" = none) (ha : PA X [e] ta) (hs : starEach [e] X.env = [(false, eval e X.env)]) :
    PI X (.Tuple elts kk tpos) (.Call (.Name "enumerate" p) [e] [] pos) (iEnumT X.K ta) := by
  refine ⟨fun pins s σ H R I h => Call_ (ld_blt I hg hm boot_enumerate (PyProof.Rows.callWith_type1 (thn (ha.run pos pins s σ H _ I h) ?_) hs rfl))⟩
  rintro us s1 ⟨vs, H1, I1, r1, a, xs, rfl, hq, q⟩
  obtain ⟨u, rfl, ru⟩ := vals1 r1
  cases ru
  obtain ⟨its, rv, pt, hz⟩ := I1.tuple hq
  have hlt : a < s1.heap.objs.size := pt.lt
  refine enum_call (begins_tuple a its.toArray) pt fun h' he hit hk => wpAny_pyIter_enum he ?_
  have I2 : Inv X pins σ H1 { s1 with heap := h' } := I1.kept (t' := s1.toks) hk
  refine ⟨s1.heap.objs.size + 1, [s1.heap.objs.size + 1, s1.heap.objs.size], _, _, H1, rfl, I2, turn_ItT a (s1.heap.objs.size + 1) s1.heap.objs.size,
    ⟨⟨.none, he⟩, ⟨_, hit, rfl, rfl⟩, Nat.succ_ne_self _, Nat.ne_of_lt hlt, Nat.ne_of_lt (Nat.lt_succ_of_lt hlt)⟩, fun b hb => ?_, q⟩
  have hle : s1.heap.objs.size ≤ b := by
    rcases List.mem_cons.mp hb with z | z
    · rw [z]; exact Nat.le_add_right _ _
    · rw [List.mem_singleton.mp z]; exact Nat.le_refl _
  exact I1.fpOk hle (I1.hok.fresh hle)
theorem walk_ItT {K : PySem.W.Frag} {a : Addr} {xs : List V} : Walk (ItT K a) xs.length (fun H => SqT K H a xs) (YPair (fun i => some (.int (i : Nat))) fun i => xs[i]?) where
  goes := fun i H hi q => ⟨xs, xs[i], q, by simp [hi]⟩
  stops := fun H q => ⟨xs, q, rfl⟩
  yields := fun i H x H' hi q ⟨T, y, h1, h2, h3, h4⟩ => ⟨T, .int (i : Nat), y, h1, h2, h3, rfl, h4 xs q⟩
/-- the data that enumerate gives -/
def enumD (es : List D) : List D := es.zipIdx.map fun p => .tup [.int (p.2 : Nat), p.1]
theorem enumD_at {es : List D} {i : Nat} {d : D} (h : es[i]? = some d) : (enumD es)[i]? = some (.tup [.int (i : Nat), d]) := by
  unfold enumD
  rw [List.getElem?_map, List.getElem?_zipIdx, h]
  simp
theorem enumD_len (es : List D) : (enumD es).length = es.length := by simp [enumD]
section
variable {X : Cx} {M : Md} {ds : List (Option D)} {e : Expr} {p pos tpos : Pos} {elts : List Expr} {kk : Nat}
theorem bi_enum {es : List D} (hm : X.mg "enumerate" = none) (ha : BE X M ds e (.tup es)) (hg : Gl X "enumerate" := by rfl) (he : starEach [e] X.env = (false, eval e X.env) :: starEach [] X.env := by rfl) (hs : starEach [e] X.env = [(false, eval e X.env)] := by rfl) :
    BIE X M ds (.Tuple elts kk tpos) (.Call (.Name "enumerate" p) [e] [] pos) (enumD es) :=
  ⟨PI.imp (pi_enumT hg hm (bae ha ba_nil he).pa hs) fun σ H R ⟨en, w, k⟩ => ⟨en, w, fun l vs H1 q e1 w1 i1 => by
    subst q
    obtain ⟨v, rfl, i2⟩ := i1.one
    cases i2 with
    | tup h1 h2 =>
      refine ⟨_, _, rfl, .of h1, k _ H1 _ rfl e1 w1 ?_⟩
      rw [enumD_len, ← h2.length]
      refine walk_ItT.mono (fun H' ex => ex.rdT (.of h1)) fun i H' x H2 hi ex ⟨T, y, z, q1, q2, q3, q4, q5⟩ => ?_
      subst q1 q3
      cases q4
      obtain ⟨d, hd, is⟩ := h2.getV q5
      have g : Is X.K M.S H' z d := is.mono ex fun _ z => z
      exact ⟨Ex.new q2, _, enumD_at hd, .tup upd_same (.cons (.int _) (.cons (g.mono (B := NoA) (Ex.new q2) fun _ z => z.elim) .nil))⟩⟩⟩
end
end K23

-- text A9
set_option Elab.async false
set_option linter.all false
set_option maxRecDepth 100000
set_option maxHeartbeats 2000000
namespace K23
open PySem PySem.Spec PyProof.Rows L2

/-! ## 13. zip of two tuples -/
def zipD : List D → List D → List D
  | x :: xs, y :: ys => .tup [x, y] :: zipD xs ys
  | _, _ => []
theorem zipD_len : ∀ xs ys : List D, (zipD xs ys).length = min xs.length ys.length
  | [], _ => by simp [zipD]
  | _ :: _, [] => by simp [zipD]
  | x :: xs, y :: ys => by simp [zipD, zipD_len xs ys]
theorem zipD_at : ∀ {xs ys : List D} {i : Nat} {x y : D}, xs[i]? = some x → ys[i]? = some y → (zipD xs ys)[i]? = some (.tup [x, y])
  | [], _, _, _, _, h, _ => by simp at h
  | _ :: _, [], _, _, _, _, h => by simp at h
  | a :: xs, b :: ys, 0, _, _, h, k => by simp at h k; subst h k; rfl
  | a :: xs, b :: ys, i + 1, _, _, h, k => by
    show (zipD xs ys)[i]? = _
    exact zipD_at (by simpa using h) (by simpa using k)
theorem walk_zT {K : PySem.W.Frag} {a b : Addr} {xs ys : List V} : Walk (RZ.ItzT K a b) (min xs.length ys.length) (fun H => SqT K H a xs ∧ SqT K H b ys) (YPair (fun i => xs[i]?) fun i => ys[i]?) where
  goes := fun i H hi q => ⟨xs, ys, xs[i]'(by omega), ys[i]'(by omega), q.1, q.2, by rw [List.getElem?_eq_getElem], by rw [List.getElem?_eq_getElem]⟩
  stops := fun H q => ⟨xs, ys, q.1, q.2, by omega⟩
  yields := fun i H x H' hi q ⟨T, y, z, h1, h2, h3, h4, h5⟩ => ⟨T, y, z, h1, h2, h3, h4 xs q.1, h5 ys q.2⟩
section
variable {X : Cx} {M : Md} {ds : List (Option D)} {e e2 : Expr} {p pos tpos : Pos} {elts : List Expr} {kk : Nat}
theorem bi_zip {xs ys : List D} (hm : X.mg "zip" = none) (ha : BE X M ds e (.tup xs)) (hb : BE X M ds e2 (.tup ys)) (hg : Gl X "zip" := by rfl) (he : starEach [e, e2] X.env = (false, eval e X.env) :: starEach [e2] X.env := by rfl) (he2 : starEach [e2] X.env = (false, eval e2 X.env) :: starEach [] X.env := by rfl)
    (hpl : (backTo pos (starEach [e2] X.env)).any (·.1) = false := by rfl) : BIE X M ds (.Tuple elts kk tpos) (.Call (.Name "zip" p) [e, e2] [] pos) (zipD xs ys) :=
  ⟨PI.imp (RZ.pi_zipA hg hm (bae ha (bae hb ba_nil he2) he).pa he hpl) fun σ H R ⟨en, w, k⟩ => ⟨en, w, fun l vs H1 q e1 w1 i1 => by
    subst q
    obtain ⟨v, u, rfl, i2, i3⟩ := i1.two
    cases i2 with
    | tup h1 h2 =>
      cases i3 with
      | tup g1 g2 =>
        refine ⟨_, _, _, _, rfl, .inr ⟨.of h1, .of g1, k _ H1 _ rfl e1 w1 ?_⟩⟩
        rw [zipD_len, ← h2.length, ← g2.length]
        refine walk_zT.mono (fun H' ex => ⟨ex.rdT (.of h1), ex.rdT (.of g1)⟩) fun i H' x H2 hi ex ⟨T, y, z, q1, q2, q3, q4, q5⟩ => ?_
        subst q1 q3
        obtain ⟨d, hd, is⟩ := h2.getV q4
        obtain ⟨d', hd', is'⟩ := g2.getV q5
        have a1 : Is X.K M.S H' y d := is.mono ex fun _ z => z
        have a2 : Is X.K M.S H' z d' := is'.mono ex fun _ z => z
        exact ⟨Ex.new q2, _, zipD_at hd hd', .tup upd_same (.cons (a1.mono (B := NoA) (Ex.new q2) fun _ z => z.elim) (.cons (a2.mono (B := NoA) (Ex.new q2) fun _ z => z.elim) .nil))⟩⟩⟩
end

/-! ## 14. comprehensions -/
/-- X' is the surroundings of a comprehension's block within X -/
structure Blk (X X' : Cx) (scope : Scope) : Prop where
  ex : ∃ s H C cl fp, X' = X.blk s H scope (compEnvC scope cl C X.env) fp
theorem Blk.sur {X X' : Cx} {scope : Scope} {k : Nat} (b : Blk X X' scope) (su : Sur X k) : Sur X' k := by
  obtain ⟨s, H, C, cl, fp, rfl⟩ := b.ex
  exact ⟨su.room, su.gd⟩
theorem getElem_map_some {α β : Type} {f : α → β} {l : List α} {i : Nat} {y : β} (h : (l.map f)[i]? = some y) : ∃ a, l[i]? = some a ∧ f a = y := by
  rw [List.getElem?_map] at h
  cases e : l[i]? with
  | none => rw [e] at h; cases h
  | some a => rw [e] at h; exact ⟨a, rfl, Option.some.inj h⟩
/-- what a comprehension makes of ys -/
inductive CR {α : Type} (keep : α → Bool) (Pe : α → D → Prop) : List α → List D → Prop
  | nil : CR keep Pe [] []
  | skip {y ys l} : keep y = false → CR keep Pe ys l → CR keep Pe (y :: ys) l
  | take {y d ys l} : keep y = true → Pe y d → CR keep Pe ys l → CR keep Pe (y :: ys) (d :: l)
section
variable {α : Type} {keep : α → Bool} {Pe : α → D → Prop}
theorem CR.snocS : ∀ {ys : List α} {l : List D} {y : α}, CR keep Pe ys l → keep y = false → CR keep Pe (ys ++ [y]) l
  | _, _, _, .nil, h => .skip h .nil
  | _, _, _, .skip a t, h => .skip a (CR.snocS t h)
  | _, _, _, .take a b t, h => .take a b (CR.snocS t h)
theorem CR.snocT : ∀ {ys : List α} {l : List D} {y : α} {d : D}, CR keep Pe ys l → keep y = true → Pe y d → CR keep Pe (ys ++ [y]) (l ++ [d])
  | _, _, _, _, .nil, h, p => .take h p .nil
  | _, _, _, _, .skip a t, h, p => .skip a (CR.snocT t h p)
  | _, _, _, _, .take a b t, h, p => .take a b (CR.snocT t h p)
theorem CR.len : ∀ {ys : List α} {l : List D}, CR keep Pe ys l → l.length ≤ ys.length
  | _, _, .nil => Nat.le_refl _
  | _, _, .skip _ t => Nat.le_succ_of_le (CR.len t)
  | _, _, .take _ _ t => Nat.succ_le_succ (CR.len t)
theorem CR.eq {f : α → D} : ∀ {ys : List α} {l : List D}, CR keep (fun y d => d = f y) ys l → l = (ys.filter keep).map f
  | _, _, .nil => rfl
  | _, _, .skip h t => by rw [List.filter_cons_of_neg (by simp [h]), CR.eq t]
  | _, _, .take h p t => by rw [List.filter_cons_of_pos (by simp [h]), List.map_cons, CR.eq t, p]
end
theorem wipe_none {σ : L2.St} {own : List Nat} {i : Nat} (hi : i ∈ own) (hl : i < σ.length) : (wipe σ own)[i]? = some none := by
  induction own with
  | nil => cases hi
  | cons j own ih =>
    unfold wipe
    by_cases e : j = i
    · subst e
      rw [List.getElem?_set_self (by rw [L2.wipe_length]; exact hl)]
    · rw [List.getElem?_set_ne e]
      rcases List.mem_cons.mp hi with z | z
      · exact absurd z.symm e
      · exact ih z
theorem wipe_wipe (σ : L2.St) (own : List Nat) : wipe (wipe σ own) own = wipe σ own := by
  apply List.ext_getElem?
  intro i
  by_cases hi : i ∈ own
  · by_cases hl : i < σ.length
    · rw [wipe_none hi (by rw [L2.wipe_length]; exact hl), wipe_none hi hl]
    · rw [List.getElem?_eq_none (by rw [L2.wipe_length, L2.wipe_length]; omega), List.getElem?_eq_none (by rw [L2.wipe_length]; omega)]
  · rw [wipe_out hi]
structure BTs (X : Cx) (M : Md) (ds : List (Option D)) (ifs : List Expr) (b : Bool) : Prop where
  pts : PTs X ifs (tT X.K M ds fun z => z = b)
theorem PTs.imp {X : Cx} {e : List Expr} {t t' : TT} (h : PTs X e t) (i : ∀ σ H Q, t' σ H Q → t σ H Q) : PTs X e t' := ⟨fun pins s σ H Q I q => h.run pins s σ H Q I (i σ H Q q)⟩
theorem bts_nil {X : Cx} {M : Md} {ds : List (Option D)} : BTs X M ds [] true := ⟨PTs.imp pts_nil fun σ H Q q => q.2.2 true H rfl (Ex.refl H) q.2.1⟩
theorem bts_one {X : Cx} {M : Md} {ds : List (Option D)} {c : Expr} {b : Bool} (h : BTE X M ds c b) : BTs X M ds [c] b := ⟨pts_one h.pt⟩
section
variable {X : Cx} {M : Md} {ds : List (Option D)} {elt tg iter : Expr} {ifs : List Expr} {scope : Scope} {own : List (Str × Nat)} {pos : Pos}
/-- the parts of a comprehension: where its names lie, what each item binds, whether it is taken, what it becomes -/
structure Lc {α : Type} (X : Cx) (M : Md) (ds : List (Option D)) (elt tg : Expr) (ifs : List Expr) (scope : Scope) (own : List (Str × Nat)) (φ : α → D) (Ok : α → Prop) (is : List Nat) (g : α → List (Option D)) (keep : α → Bool) (Pe : α → D → Prop) : Prop where
  calm : X.calm = true
  nd : X.N.Nodup
  ok : BlkOk X.N X.env.scope scope own
  sub : ∀ i ∈ is, i ∈ own.map (·.2)
  bind : ∀ y, Ok y → ∀ X', Blk X X' scope → BG X' M tg (φ y) (wipeD ds (own.map (·.2))) (g y) is
  test : ∀ y, Ok y → ∀ X', Blk X X' scope → BTs X' M (g y) ifs (keep y)
  el : ∀ y, Ok y → keep y = true → ∀ X', Blk X X' scope → BP X' M (g y) elt (Pe y)
  imm : ∀ y d, Ok y → keep y = true → Pe y d → d.imm = true
variable {α : Type} {φ : α → D} {Ok : α → Prop} {is : List Nat} {g : α → List (Option D)} {keep : α → Bool} {Pe : α → D → Prop} {Ys : List α → Prop}
def gOf {α : Type} (K : PySem.W.Frag) (M : Md) (ds : List (Option D)) (own : List (Str × Nat)) (φ : α → D) (Ok : α → Prop) (is : List Nat) (g : α → List (Option D)) : TG := fun v σ H Q => ∃ y, Ok y ∧ tG K M (φ y) (wipeD ds (own.map (·.2))) (g y) is v σ H Q
def ttOf {α : Type} (K : PySem.W.Frag) (M : Md) (Ok : α → Prop) (g : α → List (Option D)) (keep : α → Bool) : TT := fun σ H Q => ∃ y, Ok y ∧ tT K M (g y) (fun z => z = keep y) σ H Q
def teOf {α : Type} (K : PySem.W.Frag) (M : Md) (Ok : α → Prop) (g : α → List (Option D)) (keep : α → Bool) (Pe : α → D → Prop) : TE := fun σ H Q => ∃ y, Ok y ∧ keep y = true ∧ tD K M (g y) (Pe y) σ H Q
theorem Lc.pg (L : Lc X M ds elt tg ifs scope own φ Ok is g keep Pe) (s : Shared) (H : Hp) (C : Addr) (cl : List (Str × Addr)) (fp : List Addr) : PG (X.blk s H scope (compEnvC scope cl C X.env) fp) tg (gOf X.K M ds own φ Ok is g) :=
  ⟨fun pins s' σ H' v u Q I r ⟨y, hy, q⟩ => (L.bind y hy _ ⟨s, H, C, cl, fp, rfl⟩).pg.run pins s' σ H' v u Q I r q⟩
theorem Lc.pt (L : Lc X M ds elt tg ifs scope own φ Ok is g keep Pe) (s : Shared) (H : Hp) (C : Addr) (cl : List (Str × Addr)) (fp : List Addr) : PTs (X.blk s H scope (compEnvC scope cl C X.env) fp) ifs (ttOf X.K M Ok g keep) :=
  ⟨fun pins s' σ H' Q I ⟨y, hy, q⟩ => (L.test y hy _ ⟨s, H, C, cl, fp, rfl⟩).pts.run pins s' σ H' Q I q⟩
theorem Lc.pel (L : Lc X M ds elt tg ifs scope own φ Ok is g keep Pe) (s : Shared) (H : Hp) (C : Addr) (cl : List (Str × Addr)) (fp : List Addr) : PE (X.blk s H scope (compEnvC scope cl C X.env) fp) elt (teOf X.K M Ok g keep Pe) :=
  ⟨fun pins s' σ H' Q I ⟨y, hy, hk, q⟩ => (L.el y hy hk _ ⟨s, H, C, cl, fp, rfl⟩).pe.run pins s' σ H' Q I q⟩
theorem Lc.read (L : Lc X M ds elt tg ifs scope own φ Ok is g keep Pe) (hz : ∀ ys, Ys ys → ys.length ≤ sizeLine) (hy : ∀ ys, Ys ys → ∀ y ∈ ys, Ok y) {σ : L2.St} {H : Hp} {Q : VK} (en : En X.K M.S H σ ds) (w : M.W H)
    (k : ∀ ys l v H', Ys ys → CR keep Pe ys l → Ex M.S H H' → M.W H' → Is X.K M.S H' v (.lst l) → Q v H') : tLc (iD X.K M ds fun z => ∃ ys, Ys ys ∧ z = ys.map φ) (gOf X.K M ds own φ Ok is g) (ttOf X.K M Ok g keep) (teOf X.K M Ok g keep Pe) (own.map (·.2)) σ H Q := by
  refine ⟨en, w, fun J H1 zs py e1 w1 wk z0 nD => ?_⟩
  obtain ⟨ys, py, rfl⟩ := py
  rw [List.length_map] at wk
  have nS : ¬ M.S z0 := Md.freeS w1 nD
  have nd : ¬ M.dep z0 := Md.free w1 nD
  have en1 := en.mono e1 fun _ z => z
  have len := hz ys py
  refine lc_it wk (fun i H' => Ex M.S H1 H' ∧ M.W H' ∧ ∃ acc l, H' z0 = some (.lst acc) ∧ CR keep Pe (ys.take i) l ∧ D.imm.imms l = true ∧ Iss X.K NoA H' acc l) ?_ (fun i H' _ p => p.1) ?_ ?_
  · exact ⟨Ex.new nD, Md.new w1 nD, [], [], upd_same, by simpa using CR.nil, rfl, .nil⟩
  · rintro i x H' H2 hi ⟨ex, w', acc, l, hD, cr, im, is'⟩ ⟨e2, y0, hyi0, isx⟩
    obtain ⟨y, hyi, rfl⟩ := getElem_map_some hyi0
    have hOk : Ok y := hy ys py y (List.mem_of_getElem? hyi)
    have w2 : M.W H2 := Md.pure w' e2
    have en2 : En X.K M.S H2 (wipe σ (own.map (·.2))) (wipeD ds (own.map (·.2))) := ((en1.mono ex fun _ z => z).mono (B := NoA) e2 fun _ z => z.elim).wipe _
    have tk : ys.take (i + 1) = ys.take i ++ [y] := by rw [List.take_succ, hyi]; rfl
    have lacc : acc.length ≤ i := by
      have a1 := is'.length
      have a2 := cr.len
      rw [List.length_take] at a2
      omega
    refine ⟨y, hOk, en2, isx, fun σ2 en3 wp => ⟨?_, y, hOk, en3, w2, fun b H3 pb e3 w3 => ?_⟩⟩
    · rw [wp _ L.sub, wipe_wipe]
    · subst pb
      have x3 : Ex M.S H1 H3 := (ex.trans e2.pure).trans e3
      have h3 : H3 z0 = some (.lst acc) := e3.old z0 _ (e2.old z0 _ hD fun z => z) nS
      cases hk : keep y with
      | false =>
        show Ex M.S H1 H3 ∧ _
        exact ⟨x3, w3, acc, l, h3, by rw [tk]; exact cr.snocS hk, im, is'.imm (e2.pure.trans e3) im⟩
      | true =>
        show teOf X.K M Ok g keep Pe σ2 H3 _
        refine ⟨y, hOk, hk, en3.mono e3 fun _ z => z, w3, fun d v H4 pd e4 w4 i4 => ?_⟩
        have h4 : H4 z0 = some (.lst acc) := e4.old z0 _ h3 nS
        have imd := L.imm y d hOk hk pd
        have up : Ex (fun a => a = z0) H4 (upd H4 z0 (.lst (acc ++ [v]))) := Ex.put h4 rfl (fun _ z => nomatch z) fun _ _ z => nomatch z
        refine ⟨acc, h4, by omega, ⟨fun a o q n => ?_, fun a xs q => up.tup a xs ((x3.trans e4).tup a xs q), fun a o u q => up.frz a o u ((x3.trans e4).frz a o u q), fun a q => up.dom a ((x3.trans e4).dom a q)⟩, M.ext _ _ (fun a => a = z0) w4 (fun a z d => nd (z ▸ d)) up,
          acc ++ [v], l ++ [d], upd_same, by rw [tk]; exact cr.snocT hk pd, ?_, ?_⟩
        · exact up.old a o ((x3.trans e4).old a o q n) fun z => by
            rw [z, nD] at q
            cases q
        · rw [imms_all] at im ⊢
          rw [List.all_append, im]
          simp [imd]
        · exact (Iss.imm (S := NoA) up im (is'.imm ((e2.pure.trans e3).trans e4) im)).append (.cons (i4.imm up imd) .nil)
  · rintro H' ⟨ex, w', acc, l, hD, cr, im, is'⟩
    rw [List.take_length] at cr
    exact k ys l _ H' py cr (e1.trans ex) w' (.lst hD nS (is'.imm (Ex.refl (B := NoA) H') im))
theorem bp_lc (L : Lc X M ds elt tg ifs scope own φ Ok is g keep Pe) (hi : BI X M ds tg iter fun z => ∃ ys, Ys ys ∧ z = ys.map φ) (hz : ∀ ys, Ys ys → ys.length ≤ sizeLine) (hy : ∀ ys, Ys ys → ∀ y ∈ ys, Ok y) (hs : ∀ x, foldedSetIterable iter X.env x = pure x := by intro _; rfl) :
    BP X M ds (.ListComp elt [⟨tg, iter, ifs, 0⟩] scope pos) fun d => ∃ ys l, d = .lst l ∧ Ys ys ∧ CR keep Pe ys l :=
  .of (pe_lc L.calm L.nd hi.pi L.ok L.pg L.pt L.pel hs) fun σ H Q en w k => L.read hz hy en w fun ys l v H' py cr e1 w1 i1 => k _ v H' ⟨ys, l, rfl, py, cr⟩ e1 w1 i1
/-- .. which gives one datum -/
theorem be_lc {f : α → D} {ys : List α} (L : Lc X M ds elt tg ifs scope own φ (fun y => y ∈ ys) is g keep fun y d => d = f y) (hi : BIE X M ds tg iter (ys.map φ)) (hz : ys.length ≤ sizeLine) (hs : ∀ x, foldedSetIterable iter X.env x = pure x := by intro _; rfl) :
    BE X M ds (.ListComp elt [⟨tg, iter, ifs, 0⟩] scope pos) (.lst ((ys.filter keep).map f)) :=
  (bp_lc (Ys := fun z => z = ys) L (hi.imp fun z q => ⟨ys, rfl, q⟩) (fun _ q => by rw [q]; exact hz) (fun _ q y hy => by rw [q] at hy; exact hy) hs).imp fun d ⟨zs, l, e, q, cr⟩ => by
    subst q
    rw [e, cr.eq]
/-- y = [..] -/
theorem st_setLc {i : Nat} {y : Str} {py spos : Pos} {rest : List Stmt} {E : Ends} (L : Lc X M ds elt tg ifs scope own φ Ok is g keep Pe) (hi : BI X M ds tg iter fun z => ∃ ys, Ys ys ∧ z = ys.map φ) (hz : ∀ ys, Ys ys → ys.length ≤ sizeLine) (hy : ∀ ys, Ys ys → ∀ y ∈ ys, Ok y)
    (k : ∀ ys l, Ys ys → CR keep Pe ys l → ST X M (ds.set i (some (.lst l))) rest E) (hyl : X.env.scope.names.lookup y = some .local) (hk : X.env.scope.kind = .function) (hl : (py.line == pos.line) = true) (ha : (scope.names.any fun (n, k) => n == y && (k == .local || k == .cell)) = false) (hN : X.N[i]? = some y := by rfl)
    (hs : ∀ x, foldedSetIterable iter X.env x = pure x := by intro _; rfl) : ST X M ds (.Assign [.Name y py] (.ListComp elt [⟨tg, iter, ifs, 0⟩] scope pos) spos :: rest) E :=
  st_of (ps_setLc L.calm L.nd hN hyl (sw_true hk hyl hl ha) hi.pi L.ok L.pg L.pt L.pel hs) fun σ H en w =>
    L.read (Q := fun x H1 => gName i x σ H1 _) hz hy en w fun ys l v H' py cr e1 w1 i1 => (k ys l py cr).go _ _ ((en.mono e1 fun _ z => z).set i1) w1
end
end K23

-- text A10
set_option Elab.async false
set_option linter.all false
set_option maxRecDepth 100000
set_option maxHeartbeats 2000000
namespace K23
open PySem PySem.Spec PyProof.Rows L2

/-! ## 15. fewer slots, right answers -/
inductive Wk : List (Option D) → List (Option D) → Prop
  | nil : Wk [] []
  | keep {x a b} : Wk a b → Wk (x :: a) (x :: b)
  | drop {x a b} : Wk a b → Wk (none :: a) (x :: b)
theorem Wk.refl : ∀ a, Wk a a
  | [] => .nil
  | _ :: a => .keep (Wk.refl a)
theorem Wk.len : ∀ {a b}, Wk a b → a.length = b.length
  | _, _, .nil => rfl
  | _, _, .keep h => congrArg (· + 1) (Wk.len h)
  | _, _, .drop h => congrArg (· + 1) (Wk.len h)
theorem Wk.at_ : ∀ {a b : List (Option D)} {i : Nat} {d : D}, Wk a b → a[i]? = some (some d) → b[i]? = some (some d)
  | _, _, _, _, .nil, h => h
  | _, _, 0, _, .keep _, h => by simpa using h
  | _, _, i + 1, _, .keep w, h => by simpa using Wk.at_ (i := i) w (by simpa using h)
  | _, _, 0, _, .drop _, h => by simp at h
  | _, _, i + 1, _, .drop w, h => by simpa using Wk.at_ (i := i) w (by simpa using h)
theorem En.weak {K : PySem.W.Frag} {S : Addr → Prop} {H : Hp} {σ : L2.St} {ds ds' : List (Option D)} (h : En K S H σ ds) (w : Wk ds' ds) : En K S H σ ds' := ⟨h.len.trans w.len.symm, fun i d q => h.at_ i d (w.at_ q)⟩
theorem ST.weak {X : Cx} {M : Md} {ds ds' : List (Option D)} {b : List Stmt} {E : Ends} (h : ST X M ds' b E) (w : Wk ds' ds) : ST X M ds b E := h.imp fun _ _ en wm => ⟨en.weak w, wm⟩
theorem Ret.mono {K : PySem.W.Frag} {M M' : Md} {E : Ends} {d : D} (r : Ret K M E d) (hw : ∀ H, M'.W H → M.W H) (hs : ∀ a, M.S a → M'.S a) : Ret K M' E d := fun v H w i => r v H (hw H w) (i.sub fun a _ _ s => hs a s)
theorem Ret.at {K : PySem.W.Frag} {M : Md} {E : Ends} {d : D} {H : Hp} (r : Ret K M E d) : Ret K (M.at H) E d := r.mono (fun _ w => w.1) fun _ s => s
theorem Ret.push {K : PySem.W.Frag} {M : Md} {E : Ends} {d : D} {q : Addr} {l : List D} {hi : D.imm.imms l = true} (r : Ret K M E d) : Ret K (M.push K q l hi) E d := r.mono (fun _ w => w.1) fun _ s => .inl s
theorem Ret.own {K : PySem.W.Frag} {M : Md} {E : Ends} {d : D} {q : Addr} {o : HO} {ht} (r : Ret K M E d) : Ret K (M.own q o ht) E d := r.mono (fun _ w => w.1) fun _ s => .inl s

/-! ## 16. lists of our own -/
/-- the state M knows the list at q to hold l -/
def Rdl (K : PySem.W.Frag) (M : Md) (q : Addr) (l : List D) : Prop := ∀ H, M.W H → ∃ xs, H q = some (.lst xs) ∧ Iss K NoA H xs l
theorem Rdl.push {K : PySem.W.Frag} {M : Md} {q : Addr} {l : List D} {hi : D.imm.imms l = true} : Rdl K (M.push K q l hi) q l := fun H w => w.2
theorem Rdl.push2 {K : PySem.W.Frag} {M : Md} {q p : Addr} {l l' : List D} {hi : D.imm.imms l' = true} (r : Rdl K M q l) : Rdl K (M.push K p l' hi) q l := fun H w => r H w.1
theorem Rdl.at {K : PySem.W.Frag} {M : Md} {q : Addr} {l : List D} {H1 : Hp} (r : Rdl K M q l) : Rdl K (M.at H1) q l := fun H w => r H w.1
/-- M' is M, but the list at q holds l' in place of l -/
structure Mut (K : PySem.W.Frag) (M M' : Md) (q : Addr) (l l' : List D) : Prop where
  sq : M.S q
  S : M'.S = M.S
  rd : Rdl K M q l
  wr : ∀ H xs', M.W H → Ex (fun a => a = q) H (upd H q (.lst xs')) → Iss K NoA (upd H q (.lst xs')) xs' l' → M'.W (upd H q (.lst xs'))
theorem Mut.push {K : PySem.W.Frag} {M : Md} {q : Addr} {l l' : List D} {hi : D.imm.imms l = true} (hi' : D.imm.imms l' = true) (nd : ¬ M.dep q) : Mut K (M.push K q l hi) (M.push K q l' hi') q l l' where
  sq := .inr rfl
  S := rfl
  rd := Rdl.push
  wr := fun H xs' w ex is => ⟨M.ext _ _ (fun a => a = q) w.1 (fun a z d => nd (z ▸ d)) ex, xs', upd_same, is⟩
theorem Mut.push2 {K : PySem.W.Frag} {M M' : Md} {q p : Addr} {l l' z : List D} {hi : D.imm.imms z = true} (m : Mut K M M' q l l') (ne : p ≠ q) : Mut K (M.push K p z hi) (M'.push K p z hi) q l l' where
  sq := .inl m.sq
  S := by show (fun a => M'.S a ∨ a = p) = fun a => M.S a ∨ a = p; rw [m.S]
  rd := m.rd.push2
  wr := fun H xs' w ex is => by
    obtain ⟨w1, ys, e, iy⟩ := w
    exact ⟨m.wr H xs' w1 ex is, ys, by rw [upd_ne ne]; exact e, iy.imm ex hi⟩
theorem Mut.at {K : PySem.W.Frag} {M M' : Md} {q : Addr} {l l' : List D} {H1 : Hp} (m : Mut K M M' q l l') : Mut K (M.at H1) (M'.at H1) q l l' where
  sq := m.sq
  S := m.S
  rd := m.rd.at
  wr := fun H xs' w ex is => ⟨m.wr H xs' w.1 ex is, by
    show Ex M'.S H1 _
    rw [m.S]
    exact w.2.trans (ex.wide fun a z => by rw [z]; exact m.sq)⟩
/-- an own list is new when it is made, so it stands apart from what the state leans on -/
theorem Md.push_en {K : PySem.W.Frag} {M : Md} {H : Hp} {q : Addr} {σ : L2.St} {ds : List (Option D)} (w : M.W H) (en : En K M.S H σ ds) (nq : H q = none) {xs : List V} {l : List D} {hi : D.imm.imms l = true} (is : Iss K NoA H xs l) :
    (M.push K q l hi).W (upd H q (.lst xs)) ∧ En K (M.push K q l hi).S (upd H q (.lst xs)) σ ds ∧ ¬ M.dep q := by
  refine ⟨⟨Md.new w nq, xs, upd_same, is.imm (B := NoA) (Ex.new nq) hi⟩, ?_, Md.free w nq⟩
  have e1 : En K (fun a => M.S a ∨ a = q) H σ ds := en.sub fun a o e s => s.elim id fun z => by rw [z, nq] at e; cases e
  exact e1.mono (B := NoA) (Ex.new nq) fun _ z => z.elim
section
variable {X : Cx} {M : Md} {ds : List (Option D)} {e : Expr} {pos : Pos} {P : D → Prop} {rest : List Stmt} {E : Ends}
/-- x = [] (a list of our own) -/
theorem st_newList {i : Nat} {x : Str} {pos' p : Pos} (k : ∀ q, ¬ M.dep q → ST X (M.push X.K q [] rfl) (ds.set i (some (.adr q))) rest E) (hN : X.N.Nodup) (hi : X.N[i]? = some x := by rfl) (hx : Loc X.env.scope x := by first | exact Or.inl rfl | exact Or.inr rfl)
    (hs : swapsWith (.List [] p) (some (.Name x pos')) pos.line X.env = pure false := by rfl) (hf : X.fn x = true ∨ X.env.scope.names.lookup x = some .local := by exact Or.inl rfl) : ST X M ds (.Assign [.Name x pos'] (.List [] p) pos :: rest) E :=
  st_of (ps_set hN hi hx (pe_lst pa_nil) hs hf) fun σ H en w => ⟨Nat.zero_le _, fun q nq => by
    obtain ⟨w1, en1, nd⟩ := Md.push_en (K := X.K) (hi := rfl) w en nq .nil
    exact (k q nd).go _ _ (en1.set (.adr q)) w1⟩
/-- xs.append(e) -/
theorem st_append {i : Nat} {x : Str} {q : Addr} {l : List D} {M' : D → Md} {p apos cpos : Pos} (he : BP X M ds e P) (mu : ∀ d, P d → Mut X.K M (M' d) q l (l ++ [d])) (k : ∀ d, P d → ST X (M' d) ds rest E) (rd : Rdl X.K M q l) (im : ∀ d, P d → d.imm = true) (il : D.imm.imms l = true) (hz : l.length < sizeLine)
    (h : ds[i]? = some (some (.adr q)) := by rfl) (hN : X.N[i]? = some x := by rfl) (hv : Vis X.env.scope x := by first | exact Or.inl rfl | exact Or.inr (Or.inl rfl) | exact Or.inr (Or.inr rfl)) (hd : (x == ("__debug__" : Str)) = false := by decide) (hc : (x == ("__classdict__" : Str)) = false := by decide)
    (hbase : attributeBase (.Name x p) "append" X.env (eval (.Name x p) X.env) = eval (.Name x p) X.env := by rfl)
    (hfew : ((backTo cpos (starEach [e] X.env)).all (fun x => !x.1) && (backToKw cpos (keywordEach [] X.env)).all (fun x => x.1.isSome) && decide (([e] : List Expr).length + ([] : List Keyword).length + (if ([] : List Keyword).isEmpty then 0 else 1) < 30)) = true := by rfl)
    (hline : (apos.endLine == cpos.line) = true := by rfl) (hs : starEach [e] X.env = (false, eval e X.env) :: starEach [] X.env := by rfl) (hplain : (backTo cpos (starEach [] X.env)).any (·.1) = false := by rfl) (hsw : swapsWith (.Call (.Attribute (.Name x p) "append" apos) [e] [] cpos) none pos.line X.env = pure false := by rfl) :
    ST X M ds (.Expr (.Call (.Attribute (.Name x p) "append" apos) [e] [] cpos) pos :: rest) E :=
  st_of (ps_expr (pe_bm PySem.F.plainAttrs_list PySem.F.slot_list_append PySem.F.type_list_append mt_append (pv i hN hv hd hc) (pa_cons he.pe pa_nil hs) hbase hfew hline hs hplain) hsw) fun σ H en w => by
    obtain ⟨v, a1, a2⟩ := en.at_ i _ h
    cases a2
    obtain ⟨ys, e0, _⟩ := rd H w
    refine ⟨_, a1, .inl ⟨rfl, _, SqL.of e0⟩, en, w, fun d u H1 pd e1 w1 i1 => ?_⟩
    obtain ⟨xs, e2, is⟩ := (mu d pd).rd H1 w1
    have ex : Ex (fun a => a = q) H1 (upd H1 q (.lst (xs ++ [u]))) := Ex.put e2 rfl (fun _ z => nomatch z) fun _ _ z => nomatch z
    have w2 := (mu d pd).wr H1 (xs ++ [u]) w1 ex ((Iss.imm (S := NoA) ex il is).append (.cons (i1.imm ex (im d pd)) .nil))
    refine ⟨q, xs, u, rfl, rfl, e2, by rw [is.length]; exact hz, (k d pd).go _ _ ?_ w2⟩
    rw [(mu d pd).S]
    exact (en.mono e1 fun _ z => z).mono ex fun a z => by rw [z]; exact (mu d pd).sq
/-- xs.extend(e) -/
theorem st_extend {i : Nat} {x : Str} {q : Addr} {l l2 : List D} {M' : Md} {p apos cpos : Pos} (he : BE X M ds e (.lst l2)) (mu : Mut X.K M M' q l (l ++ l2)) (k : ST X M' ds rest E) (im : D.imm.imms l2 = true) (il : D.imm.imms l = true) (hz : l.length + l2.length ≤ sizeLine)
    (h : ds[i]? = some (some (.adr q)) := by rfl) (hN : X.N[i]? = some x := by rfl) (hv : Vis X.env.scope x := by first | exact Or.inl rfl | exact Or.inr (Or.inl rfl) | exact Or.inr (Or.inr rfl)) (hd : (x == ("__debug__" : Str)) = false := by decide) (hc : (x == ("__classdict__" : Str)) = false := by decide)
    (hbase : attributeBase (.Name x p) "extend" X.env (eval (.Name x p) X.env) = eval (.Name x p) X.env := by rfl)
    (hfew : ((backTo cpos (starEach [e] X.env)).all (fun x => !x.1) && (backToKw cpos (keywordEach [] X.env)).all (fun x => x.1.isSome) && decide (([e] : List Expr).length + ([] : List Keyword).length + (if ([] : List Keyword).isEmpty then 0 else 1) < 30)) = true := by rfl)
    (hline : (apos.endLine == cpos.line) = true := by rfl) (hs : starEach [e] X.env = (false, eval e X.env) :: starEach [] X.env := by rfl) (hplain : (backTo cpos (starEach [] X.env)).any (·.1) = false := by rfl) (hsw : swapsWith (.Call (.Attribute (.Name x p) "extend" apos) [e] [] cpos) none pos.line X.env = pure false := by rfl) :
    ST X M ds (.Expr (.Call (.Attribute (.Name x p) "extend" apos) [e] [] cpos) pos :: rest) E :=
  st_of (ps_expr (pe_bm PySem.F.plainAttrs_list PySem.F.slot_list_extend PySem.F.type_list_extend mt_extend (pv i hN hv hd hc) (pa_cons he.pe pa_nil hs) hbase hfew hline hs hplain) hsw) fun σ H en w => by
    obtain ⟨v, a1, a2⟩ := en.at_ i _ h
    cases a2
    obtain ⟨ys, e0, _⟩ := mu.rd H w
    refine ⟨_, a1, .inl ⟨rfl, _, SqL.of e0⟩, en, w, fun d u H1 pd e1 w1 i1 => ?_⟩
    subst pd
    obtain ⟨xs, e2, is⟩ := mu.rd H1 w1
    cases i1 with
    | lst g1 gS g2 =>
      rename_i b zs
      have ex : Ex (fun a => a = q) H1 (upd H1 q (.lst (xs ++ zs))) := Ex.put e2 rfl (fun _ z => nomatch z) fun _ _ z => nomatch z
      have w2 := mu.wr H1 (xs ++ zs) w1 ex ((Iss.imm (S := NoA) ex il is).append (g2.imm ex im))
      refine ⟨q, b, xs, zs, rfl, rfl, e2, g1, by rw [is.length, g2.length]; exact hz, k.go _ _ ?_ w2⟩
      rw [mu.S]
      exact (en.mono e1 fun _ z => z).mono ex fun a z => by rw [z]; exact mu.sq
/-- reading such a list -/
theorem be_tupleOfA {q : Addr} {l : List D} {p : Pos} (rd : Rdl X.K M q l) (il : D.imm.imms l = true) (hm : X.mg "tuple" = none) (ha : BE X M ds e (.adr q)) (hg : Gl X "tuple" := by rfl) (he : starEach [e] X.env = (false, eval e X.env) :: starEach [] X.env := by rfl) (hpl : (backTo pos (starEach [] X.env)).any (·.1) = false := by rfl) :
    BE X M ds (.Call (.Name "tuple" p) [e] [] pos) (.tup l) :=
  bp_callTy call_tuple_of hm (by decide +kernel) (bae ha ba_nil he) (fun _ z => by
    rw [z]
    exact .pure1 fun v H Q w i k => by
      cases i
      obtain ⟨xs, e1, is⟩ := rd H w
      exact ⟨q, xs, rfl, .inl ⟨.of e1, fun t nt => k _ _ _ rfl (Ex.new nt) (Md.new w nt) (.tup upd_same (is.imm (B := NoA) (Ex.new nt) il))⟩⟩) hg (by decide) (by decide) he hpl
theorem be_ixA {q : Addr} {l : List D} {i : Int} {d : D} {b : Expr} (rd : Rdl X.K M q l) (il : D.imm.imms l = true) (ha : BE X M ds e (.adr q)) (hb : BE X M ds b (.int i)) (h : atI l i = some d) (hs : PlainIx b := by exact fun _ _ => rfl) : BE X M ds (.Subscript e b pos) d :=
  .of (pe_ix ix_list ha.pe hb.pe hs) fun _ _ _ en w k => two en w (P := fun z => z = d) (fun x y p1 p2 => by
    subst p1 p2
    intro v u H Q w i1 i2 kk
    cases i1; cases i2
    obtain ⟨xs, e1, is⟩ := rd H w
    obtain ⟨z, q1, q2⟩ := at_data (Iss.imm (S' := M.S) (Ex.refl (B := NoA) H) il is) h
    exact ⟨_, _, i, z, rfl, rfl, .of e1, q1, kk d z H rfl (Ex.refl H) w q2⟩) k
theorem Ret.adr {K : PySem.W.Frag} {M : Md} {E : Ends} {q : Addr} {l : List D} {hi : D.imm.imms l = true} (nd : ¬ M.dep q) (r : Ret K M E (.lst l)) : Ret K (M.push K q l hi) E (.adr q) := fun v H w i => by
  cases i
  obtain ⟨w1, xs, e1, is⟩ := w
  exact r _ H w1 (.lst e1 (fun z => nd (M.sd q z)) (is.imm (Ex.refl (B := NoA) H) hi))
/-- .. in a pair -/
theorem Ret.adr2 {K : PySem.W.Frag} {M : Md} {E : Ends} {q : Addr} {l : List D} {d : D} {hi : D.imm.imms l = true} (nd : ¬ M.dep q) (hd : d.imm = true) (r : Ret K M E (.tup [d, .lst l])) : Ret K (M.push K q l hi) E (.tup [d, .adr q]) := fun v H w i => by
  obtain ⟨w1, xs, e1, is⟩ := w
  cases i with
  | tup h1 h2 =>
    cases h2 with
    | cons i1 t =>
      cases t with
      | cons i2 t =>
        cases t
        cases i2
        exact r _ H w1 (.tup h1 (.cons (i1.imm (Ex.refl (B := NoA) H) hd) (.cons (.lst e1 (fun z => nd (M.sd q z)) (is.imm (Ex.refl (B := NoA) H) hi)) .nil)))

/-! ## 17. for -/
/-- behind a turn: some state that the invariant allows, over the heap at the loop's start -/
def Reach (X : Cx) (H1 : Hp) (I : Md → List (Option D) → Prop) : L2.St → Hp → Prop := fun σ H => ∃ M' ds', I M' ds' ∧ En X.K M'.S H σ ds' ∧ (M'.at H1).W H
theorem st_for {Ys : List D → Prop} {tg iter : Expr} {body : List Stmt} (hc : X.calm = true) (hp : PassesOwn (model X.prog X.w) X.A X.env X.xe) (hi : BI X M ds tg iter Ys) (I : List D → Nat → Md → List (Option D) → Prop) (h0 : ∀ ys, Ys ys → I ys 0 M ds) (hS : ∀ ys i M' ds', I ys i M' ds' → M'.S = M.S)
    (turn : ∀ H1 ys i y M' ds', Ys ys → ys[i]? = some y → I ys i M' ds' → ∃ ds2 is, BG X (M'.at H1) tg y ds' ds2 is ∧
      ST X (M'.at H1) ds2 body { E with nx := Reach X H1 (I ys (i + 1)), ct := Reach X H1 (I ys (i + 1)), bk := fun σ H => wS X rest E σ H })
    (done : ∀ H1 ys M' ds', Ys ys → I ys ys.length M' ds' → ST X (M'.at H1) ds' rest E) (hs : ∀ x, foldedSetIterable iter X.env x = pure x := by intro _; rfl) : ST X M ds (.For tg iter body [] pos :: rest) E := by
  -- the target's store and the body, whatever the turn
  let g : TG := fun v σ H Q => ∃ M1 y ds1 ds2 is, BG X M1 tg y ds1 ds2 is ∧ tG X.K M1 y ds1 ds2 is v σ H Q
  have pg : PG X tg g := ⟨fun pins s σ H v u Q J r ⟨M1, y, ds1, ds2, is, b, q⟩ => b.pg.run pins s σ H v u Q J r q⟩
  refine st_of (ps_for hp hc hi.pi pg (wS_ok X body) hs) fun σ H en w => ⟨en, w, fun J H1 ys py e1 w1 wk => ?_⟩
  refine for_it wk (fun i σ H' => Reach X H1 (I ys i) σ H') ?_ ?_ ?_ ?_
  · exact ⟨M, ds, h0 ys py, en.mono e1 fun _ z => z, w1, Ex.refl H1⟩
  · rintro i σ H' _ ⟨M', ds', inv, _, _, ex⟩
    have e2 : Ex M'.S H1 H' := ex
    rw [hS ys i M' ds' inv] at e2
    exact e2
  · rintro i x σ H' H2 hi' ⟨M', ds', inv, en', w'⟩ ⟨e2, y, hy, isx⟩
    obtain ⟨ds2, is, b, st⟩ := turn H1 ys i y M' ds' py hy inv
    have w2 : (M'.at H1).W H2 := Md.pure w' e2
    have en2 : En X.K (M'.at H1).S H2 σ ds' := en'.mono (B := NoA) e2 fun _ z => z.elim
    refine ⟨M'.at H1, y, ds', ds2, is, b, en2, ?_, fun σ' en3 _ => st.go _ _ en3 w2⟩
    have hs' := hS ys i M' ds' inv
    show Is X.K M'.S H2 x y
    rw [hs']
    exact isx
  · rintro σ H' ⟨M', ds', inv, en', w'⟩
    exact (done H1 ys M' ds' py inv).go _ _ en' w'
end
end K23

-- text A11
set_option Elab.async false
set_option linter.all false
set_option maxRecDepth 100000
set_option maxHeartbeats 2000000
namespace K23
open PySem PySem.Spec PyProof.Rows L2

/-! ## 18. sorted(..) of what can be collected -/
section
variable {prog : Program} {w : World} {A : Around} {E : Value → Shared → Prop} {s : Shared}
theorem collect_tup {t : Addr} {vs : List Value} {Q : List Value → Shared → Prop} (ht : IsTup s.heap t vs.toArray) (hz : vs.length ≤ sizeLine)
    (h : Q vs { s with heap := (s.heap.push (seqObj "list" #[] 0)).update s.heap.objs.size (Obj.mapSeq (· ++ vs.toArray)) }) : wpAny (model prog w) A (collect (.ref t)) Q E s := by
  obtain ⟨o, ho, hc, n, hd⟩ := id ht
  unfold collect
  refine wpAny_bind (wpAny_runValue (codeAny_builtin entry_proto_collect' ?_))
  show wpAny _ _ (do again (.builtin "list.__iadd__" ⟨[← newList [], .ref t], []⟩)) _ _ s
  refine wpAny_bind (wpAny_newList (wpAny_pure ⟨Code.quiet_builtin _ (by decide +kernel), codeAny_builtin entry_list_iadd' ?_⟩))
  unfold Builtin.«list.__iadd__»
  show wpAny _ _ (Builtin.List.listExtendWith (.ref s.heap.objs.size) (.ref t) (.ref s.heap.objs.size)) _ _ { s with heap := s.heap.push (seqObj "list" #[] 0) }
  unfold Builtin.List.listExtendWith
  have old : (s.heap.push (seqObj "list" #[] 0)).get? t = some o := Heap.get?_push_of_some _ ho
  have new : (s.heap.push (seqObj "list" #[] 0)).get? s.heap.objs.size = some (seqObj "list" #[] 0) := Heap.get?_push_size _ rfl
  refine wpAny_bind (wpAny_typeOf (T := "tuple") ⟨o, old, hc⟩ ?_)
  have hne : t ≠ s.heap.objs.size := Nat.ne_of_lt (Heap.lt_size ho)
  rw [if_pos (by simp)]
  refine wpAny_bind (listItems_at old hd ?_)
  refine wpAny_bind (listItems_at (xs := #[]) (n := 0) new rfl ?_)
  rw [if_neg (by simp)]
  refine wpAny_bind (listUpdate_at (xs := #[]) (n := 0) new rfl ?_ (Nat.zero_le _) (by simp only [Array.size_append, List.size_toArray, List.length_nil, Array.size_empty]; omega))
  refine wpAny_pure ?_
  refine wpAny_bind (wpAny_load (get?_update_seq new _) ?_)
  show wpAny _ _ (pure ((#[] : Array Value) ++ vs.toArray).toList) Q E _
  rw [show ((#[] : Array Value) ++ vs.toArray).toList = vs by simp]
  exact wpAny_pure h
/-- the sort itself, behind the collecting -/
theorem sorted_by {v : Value} {Q : Value → Shared → Prop} (h : wpAny (model prog w) A.in1 (collect v) (fun vs s1 => vs.length ≤ sizeLine ∧ ∃ κ : PyProof.Rows.KeyKind,
      PySem.W.SortsAt prog w A.in1.in1 { s1 with heap := PySem.W.sortingHeap (s1.heap.push (seqObj "list" vs.toArray 0)) s1.heap.objs.size vs } κ vs ∧
      Q (.ref s1.heap.objs.size) { s1 with heap := sortedHeap (s1.heap.push (seqObj "list" vs.toArray 0)) s1.heap.objs.size vs (PySem.W.sortVals κ false vs vs).toArray }) E s) :
    wpAny (model prog w) A (call (.builtin "sorted") [v]) Q E s := by
  refine Calls.call_function_entry PyProof.Rows.kind_sorted PyProof.Rows.plain_sorted PyProof.Rows.entry_sorted (PyProof.Rows.args_sorted1 _) ?_
  unfold Builtin.«sorted»
  refine wpAny_bind (m := checkCount "sorted" 1 1 _) (wpAny_pure ?_)
  refine wpAny_bind (wpAny_mono h (fun vs s1 hq => ?_) fun _ _ e => e)
  obtain ⟨hL, κ, S, q⟩ := hq
  refine wpAny_bind (wpAny_newList ?_ hL)
  have new : (s1.heap.push (seqObj "list" vs.toArray 0)).get? s1.heap.objs.size = some (seqObj "list" vs.toArray 0) := Heap.get?_push_size _ rfl
  show wpAny _ _ _ _ _ { s1 with heap := s1.heap.push (seqObj "list" vs.toArray 0) }
  refine wpAny_bind (wpAny_holding (wpAny_call_entry PyProof.Rows.slot_list_sort ⟨_, new, rfl⟩ PyProof.Rows.entry_list_sort ?_ (PyProof.Rows.args_list_sort _)))
  exact PySem.W.list_sort_vals (s := { s1 with heap := s1.heap.push (seqObj "list" vs.toArray 0) }) new S hL ⟨_, rfl, wpAny_pure ⟨_, rfl, q⟩⟩
end
/-- what sorted can sort: data that can be compared, place by place -/
structure Sortd (ds : List D) : Prop where
  ok : ∀ d ∈ ds, d.ok = true
  al : PySem.W.AllAlike (ds.map D.py)
  so : PySem.W.Sortable (ds.map D.py)
  dp : ∀ d ∈ ds, d.dep ≤ 60
def dle (a b : D) : Bool := PySem.W.dataLe false D.py a b
def sortD (ds : List D) : List D := ds.mergeSort dle
theorem each_of {K : PySem.W.Frag} {S : Addr → Prop} {H : Hp} : ∀ {vs : List V} {us : List Value} {ds : List D}, Vals vs us → Iss K S H vs ds → PySem.W.EachIs (fun u (p : V × D) => RelV p.1 u ∧ Is K S H p.1 p.2) us (vs.zip ds)
  | _, _, _, .nil, .nil => .nil
  | _, _, _, .cons r t, .cons i j => .cons ⟨r, i⟩ (each_of t j)
theorem each_back {K : PySem.W.Frag} {S : Addr → Prop} {H : Hp} : ∀ {us : List Value} {ps : List (V × D)}, PySem.W.EachIs (fun u (p : V × D) => RelV p.1 u ∧ Is K S H p.1 p.2) us ps → Vals (ps.map (·.1)) us ∧ Iss K S H (ps.map (·.1)) (ps.map (·.2))
  | _, _, .nil => ⟨.nil, .nil⟩
  | _, _, .cons h t => ⟨.cons h.1 (each_back t).1, .cons h.2 (each_back t).2⟩
theorem zip_snd {α β : Type} : ∀ {a : List α} {b : List β}, a.length = b.length → (a.zip b).map (·.2) = b
  | [], [], _ => rfl
  | _ :: a, _ :: b, h => by rw [List.zip_cons_cons, List.map_cons, zip_snd (by simpa using h)]
  | [], _ :: _, h => by simp at h
  | _ :: _, [], h => by simp at h
section
variable {X : Cx} {pins : List (Addr × Obj)} {σ : L2.St} {H : Hp} {S : Addr → Prop}
theorem reads_keep {h h' : Heap} {v : Value} {d : PyData} {as : List Addr} (k : ∀ b o, h.get? b = some o → h'.get? b = some o) (r : Reads h v d as) : Reads h' v d as := PyProof.Rows.Reads.keeps k r
/-- the end of a sort -/
theorem sort_end {s1 : Shared} {vs : List V} {us : List Value} {ds : List D} {Q : VK} (hu : X.A.units + 64 < cLine) (I : Inv X pins σ H s1) (r : Vals vs us) (i : Iss X.K S H vs ds) (so : Sortd ds) (hL : ds.length ≤ sizeLine)
    (q : ∀ p out, H p = none → Iss X.K S H out (sortD ds) → Q (.ref p) (upd H p (.lst out))) :
    us.length ≤ sizeLine ∧ ∃ κ : PyProof.Rows.KeyKind, PySem.W.SortsAt X.prog X.w X.A.in1.in1 { s1 with heap := PySem.W.sortingHeap (s1.heap.push (seqObj "list" us.toArray 0)) s1.heap.objs.size us } κ us ∧
      EP X pins σ Q (.ref s1.heap.objs.size) { s1 with heap := sortedHeap (s1.heap.push (seqObj "list" us.toArray 0)) s1.heap.objs.size us (PySem.W.sortVals κ false us us).toArray } := by
  have hl := i.length
  have hl2 := r.length
  have hz : (vs.zip ds).map (·.2) = ds := zip_snd hl
  have hz2 : (vs.zip ds).map (fun p => p.2.py) = ds.map D.py := by
    rw [show (fun p : V × D => p.2.py) = D.py ∘ (fun p : V × D => p.2) from rfl, ← List.map_map, hz]
  have new : (s1.heap.push (seqObj "list" us.toArray 0)).get? s1.heap.objs.size = some (seqObj "list" us.toArray 0) := Heap.get?_push_size _ rfl
  have old : ∀ b o, s1.heap.get? b = some o → (PySem.W.sortingHeap (s1.heap.push (seqObj "list" us.toArray 0)) s1.heap.objs.size us).get? b = some o := fun b o e =>
    PySem.W.sortingHeap_old (Nat.ne_of_lt (Heap.lt_size e)) (Heap.get?_push_of_some _ e)
  have ea := each_of r i
  have er : PySem.W.EachIs (fun u (p : V × D) => ∃ as, Reads (PySem.W.sortingHeap (s1.heap.push (seqObj "list" us.toArray 0)) s1.heap.objs.size us) u p.2.py as) us (vs.zip ds) :=
    (PySem.W.each_mem ea).mono fun u p ⟨⟨h1, h2⟩, h3⟩ => by
      have hd : p.2 ∈ ds := (List.of_mem_zip h3).2
      obtain ⟨as, g⟩ := Dp.reads I p.2.py p.1 u (h2.dp (so.ok _ hd)) h1
      exact ⟨as, reads_keep old g⟩
  have al : PySem.W.AllAlike ((vs.zip ds).map fun p => p.2.py) := by rw [hz2]; exact so.al
  refine ⟨by omega, PySem.W.dataKind _ ((vs.zip ds).map fun p => p.2.py), PySem.W.SortsAt.data (s := { s1 with heap := PySem.W.sortingHeap (s1.heap.push (seqObj "list" us.toArray 0)) s1.heap.objs.size us })
    (PySem.W.each_map (R := fun u d => ∃ as, Reads (PySem.W.sortingHeap (s1.heap.push (seqObj "list" us.toArray 0)) s1.heap.objs.size us) u d as) (fun p : V × D => p.2.py) er) al (by rw [hz2]; exact so.so) ?_, ?_⟩
  · intro d hd
    rw [hz2] at hd
    obtain ⟨x, hx, rfl⟩ := List.mem_map.mp hd
    have a1 := so.dp x hx
    unfold D.dep at a1
    show X.A.units + 1 + 1 + _ < _
    omega
  · have out := PySem.W.sortVals_data (h' := PySem.W.sortingHeap (s1.heap.push (seqObj "list" us.toArray 0)) s1.heap.objs.size us) (enc := fun p : V × D => p.2.py) false ea er al
    obtain ⟨o1, o2⟩ := each_back out
    have e2 : ((vs.zip ds).mergeSort (PySem.W.dataLe false fun p : V × D => p.2.py)).map (·.2) = sortD ds := by
      have := PySem.W.sort_maps (r := PySem.W.dataLe false fun p : V × D => p.2.py) (s := dle) (fun p : V × D => p.2) (l := vs.zip ds) (fun a _ b _ => rfl)
      rw [this, hz]
      rfl
    rw [e2] at o2
    obtain ⟨ep, he⟩ := PyProof.Rows.sortedHeap_at (out := (PySem.W.sortVals (PySem.W.dataKind (PySem.W.sortingHeap (s1.heap.push (seqObj "list" us.toArray 0)) s1.heap.objs.size us) ((vs.zip ds).map fun p => p.2.py)) false us us).toArray) new
    have fr : H s1.heap.objs.size = none := I.hok.fresh (Nat.le_refl _)
    refine ⟨.ref s1.heap.objs.size, upd H s1.heap.objs.size (.lst _), I.laid (t' := s1.toks) (fun b u e => ?_) (Nat.le_refl _) ⟨?_, _, ep, o1, he⟩, rfl, q _ _ fr o2⟩
    · have hb := Heap.lt_size e
      rw [PyProof.Rows.sortedHeap_old (Nat.ne_of_lt hb) (by rw [size_push']; exact Nat.lt_succ_of_lt hb)]
      exact Heap.get?_push_of_some _ e
    · rw [List.length_map, List.length_mergeSort, List.length_zip]
      omega
/-- sorted(xs): a list or a tuple -/
def rSortQ (K : PySem.W.Frag) (S : Addr → Prop) : List V → Hp → VK → Prop := fun xs H Q => ∃ a vs ds, xs = [.ref a] ∧ (SqL K H a vs ∨ SqT K H a vs) ∧ Iss K S H vs ds ∧ Sortd ds ∧ ds.length ≤ sizeLine ∧ ∀ p out, H p = none → Iss K S H out (sortD ds) → Q (.ref p) (upd H p (.lst out))
theorem call_sortQ (hu : X.A.units + 64 < cLine) : CallR X (.builtin "sorted") (rSortQ X.K S) := by
  rintro pins s σ H xs us Q I r ⟨a, vs, ds, rfl, sq, is, so, hL, q⟩
  obtain ⟨u, rfl, ru⟩ := vals1 r
  cases ru
  have fin : ∀ (its : List Value), Vals vs its → (∀ Q1 : List Value → Shared → Prop, Q1 its { s with heap := (s.heap.push (seqObj "list" #[] 0)).update s.heap.objs.size (Obj.mapSeq (· ++ its.toArray)) } → wpAny (model X.prog X.w) X.A.in1 (collect (.ref a)) Q1 X.xe s) →
      wpAny (model X.prog X.w) X.A (call (.builtin "sorted") [.ref a]) (EP X pins σ Q) X.xe s := fun its rv col => by
    refine sorted_by (col _ ?_)
    have I1 : Inv X pins σ H { s with heap := (s.heap.push (seqObj "list" #[] 0)).update s.heap.objs.size (Obj.mapSeq (· ++ its.toArray)) } := I.kept (t' := s.toks) fun b o e => by
      rw [Heap.get?_update_ne _ _ _ _ (Nat.ne_of_lt (Heap.lt_size e))]
      exact Heap.get?_push_of_some _ e
    exact sort_end hu I1 rv is so hL q
  rcases sq with sq | sq
  · obtain ⟨its, rv, p, hz⟩ := I.list sq
    exact fin its rv fun Q1 h => collect_list p.isList h (by rw [← rv.length]; exact hz)
  · obtain ⟨its, rv, p, hz⟩ := I.tuple sq
    exact fin its rv fun Q1 h => collect_tup p (by rw [← rv.length]; exact hz) h
end
section
variable {X : Cx} {M : Md} {ds : List (Option D)} {e : Expr} {p pos : Pos}
theorem be_sorted {d : D} {l : List D} (hu : X.A.units + 64 < cLine) (hm : X.mg "sorted" = none) (ha : BE X M ds e d) (so : Sortd l) (hL : l.length ≤ sizeLine) (hs : d.seq = some l := by rfl) (hg : Gl X "sorted" := by rfl) (he : starEach [e] X.env = (false, eval e X.env) :: starEach [] X.env := by rfl) (hpl : (backTo pos (starEach [] X.env)).any (·.1) = false := by rfl) :
    BE X M ds (.Call (.Name "sorted" p) [e] [] pos) (.lst (sortD l)) :=
  bp_callB (call_sortQ (S := M.S) hu) hm (by decide +kernel) (bae ha ba_nil he) (fun _ q => by
    rw [q]
    exact .pure1 fun v H Q w i k => by
      obtain ⟨a, xs, rfl, s, is⟩ := i.seqLT hs
      exact ⟨a, xs, l, rfl, s, is, so, hL, fun t out nt io => k _ _ _ rfl (Ex.new nt) (Md.new w nt) (.lst upd_same (Md.freeS w nt) (io.mono (B := NoA) (Ex.new nt) fun _ z => z.elim))⟩) hg (by decide) (by decide) he hpl
theorem be_sortedA {q : Addr} {l : List D} (rd : Rdl X.K M q l) (il : D.imm.imms l = true) (hu : X.A.units + 64 < cLine) (hm : X.mg "sorted" = none) (ha : BE X M ds e (.adr q)) (so : Sortd l) (hL : l.length ≤ sizeLine) (hg : Gl X "sorted" := by rfl) (he : starEach [e] X.env = (false, eval e X.env) :: starEach [] X.env := by rfl) (hpl : (backTo pos (starEach [] X.env)).any (·.1) = false := by rfl) :
    BE X M ds (.Call (.Name "sorted" p) [e] [] pos) (.lst (sortD l)) :=
  bp_callB (call_sortQ (S := M.S) hu) hm (by decide +kernel) (bae ha ba_nil he) (fun _ q => by
    rw [q]
    exact .pure1 fun v H Q w i k => by
      cases i
      obtain ⟨xs, e1, is⟩ := rd H w
      exact ⟨_, xs, l, rfl, .inl (.of e1), is.imm (Ex.refl (B := NoA) H) il, so, hL, fun t out nt io => k _ _ _ rfl (Ex.new nt) (Md.new w nt) (.lst upd_same (Md.freeS w nt) (io.mono (B := NoA) (Ex.new nt) fun _ z => z.elim))⟩) hg (by decide) (by decide) he hpl
end
/-! ## 19. repr -/
structure Shown (d : D) : Prop where
  ok : d.ok = true
  dp : d.dep ≤ 60
  sh : d.py.showable = true
  sz : d.py.shown.length ≤ sizeLine
def rRepr (K : PySem.W.Frag) (S : Addr → Prop) : List V → Hp → VK → Prop := fun xs H Q => ∃ a d, xs = [.ref a] ∧ Is K S H (.ref a) d ∧ Shown d ∧ Q (.str d.py.shown) H
theorem noDict : ∀ {d : D}, d.ok = true → d.py.hasDict = false := fun h => PyData.hasDict_of_canLay _ (canLay_of _ h)
theorem call_repr {X : Cx} {S : Addr → Prop} {k : Nat} (su : Sur X k) : CallR X (.builtin "repr") (rRepr X.K S) := by
  rintro pins s σ H xs us Q I r ⟨a, d, rfl, is, sh, q⟩
  obtain ⟨u, rfl, ru⟩ := vals1 r
  cases ru
  obtain ⟨as, g⟩ := Dp.reads I d.py (.ref a) (.ref a) (is.dp sh.ok) rfl
  have hu := su.u64
  have hd := sh.dp
  unfold D.dep at hd
  exact repr_of_reads' g sh.sh (PyData.noDict_hsm (noDict sh.ok)) su.gd (by omega) (fun _ _ e => e) (fun h' u tk hk => ⟨.str _, H, I.kept hk, ⟨_, rfl⟩, q⟩) sh.sz
section
variable {X : Cx} {M : Md} {ds : List (Option D)} {e : Expr} {p pos : Pos} {k : Nat}
theorem be_repr {d : D} {l : List D} (su : Sur X k) (hm : X.mg "repr" = none) (ha : BE X M ds e d) (sh : Shown d) (hs : d.seq = some l := by rfl) (hg : Gl X "repr" := by rfl) (he : starEach [e] X.env = (false, eval e X.env) :: starEach [] X.env := by rfl) (hpl : (backTo pos (starEach [] X.env)).any (·.1) = false := by rfl) :
    BE X M ds (.Call (.Name "repr" p) [e] [] pos) (.str d.py.shown) :=
  bp_callB (call_repr (S := M.S) su) hm (by decide +kernel) (bae ha ba_nil he) (fun _ q => by
    rw [q]
    exact .pure1 fun v H Q w i k => by
      obtain ⟨a, xs, rfl, _⟩ := i.seqLT hs
      exact ⟨a, d, rfl, i, sh, k _ _ H rfl (Ex.refl H) w (.str _)⟩) hg (by decide) (by decide) he hpl
end
end K23

-- text H0
set_option Elab.async false
set_option linter.all false
set_option maxRecDepth 100000
set_option maxHeartbeats 0
namespace K23
open PySem PySem.Spec PyProof.Rows L2
abbrev PW : Program := PySem.Challenge.pw_allshelves_k23_whole_steps_exchanged
def topSt (i : Nat) : Stmt := PW.main.body.getD i (.Pass ⟨0, 0, 0, 0⟩)
abbrev s10 : Stmt := topSt 10
def d10 : He.DefD := ⟨("is_integer", none), "is_integer", "is_integer", defArgs s10, defBody s10, defScope s10, [], []⟩
abbrev s11 : Stmt := topSt 11
def d11 : He.DefD := ⟨("is_between", none), "is_between", "is_between", defArgs s11, defBody s11, defScope s11, [], []⟩
abbrev s12 : Stmt := topSt 12
def d12 : He.DefD := ⟨("is_name", none), "is_name", "is_name", defArgs s12, defBody s12, defScope s12, [], []⟩
abbrev s13 : Stmt := topSt 13
def d13 : He.DefD := ⟨("is_row_looks", none), "is_row", "is_row", defArgs s13, defBody s13, defScope s13, [], []⟩
abbrev s15 : Stmt := topSt 15
def d15 : He.DefD := ⟨("is_one_of", none), "is_one_of", "is_one_of", defArgs s15, defBody s15, defScope s15, [], []⟩
abbrev s16 : Stmt := topSt 16
def d16 : He.DefD := ⟨("is_rising", none), "is_rising", "is_rising", defArgs s16, defBody s16, defScope s16, [], []⟩
abbrev s30 : Stmt := topSt 30
def d30 : He.DefD := ⟨("is_cause", none), "is_cause", "is_cause", defArgs s30, defBody s30, defScope s30, [], []⟩
abbrev s31 : Stmt := topSt 31
def d31 : He.DefD := ⟨("is_letter_rule", none), "is_letter_rule", "is_letter_rule", defArgs s31, defBody s31, defScope s31, [], []⟩
abbrev s32 : Stmt := topSt 32
def d32 : He.DefD := ⟨("is_rule", none), "is_rule", "is_rule", defArgs s32, defBody s32, defScope s32, [], []⟩
abbrev s33 : Stmt := topSt 33
def d33 : He.DefD := ⟨("is_state", none), "is_state", "is_state", defArgs s33, defBody s33, defScope s33, [], []⟩
abbrev s34 : Stmt := topSt 34
def d34 : He.DefD := ⟨("is_up", none), "is_up", "is_up", defArgs s34, defBody s34, defScope s34, [], []⟩
abbrev s35 : Stmt := topSt 35
def d35 : He.DefD := ⟨("is_role_value", none), "is_role_value", "is_role_value", defArgs s35, defBody s35, defScope s35, [], []⟩
abbrev s36 : Stmt := topSt 36
def d36 : He.DefD := ⟨("is_protocol_value", none), "is_protocol_value", "is_protocol_value", defArgs s36, defBody s36, defScope s36, [], []⟩
abbrev s37 : Stmt := topSt 37
def d37 : He.DefD := ⟨("need_protocol", none), "need_protocol", "need_protocol", defArgs s37, defBody s37, defScope s37, [], []⟩
abbrev s38 : Stmt := topSt 38
def d38 : He.DefD := ⟨("need_both", none), "need_both", "need_both", defArgs s38, defBody s38, defScope s38, [], []⟩
abbrev s39 : Stmt := topSt 39
def d39 : He.DefD := ⟨("rules_of", none), "rules_of", "rules_of", defArgs s39, defBody s39, defScope s39, [], []⟩
abbrev s40 : Stmt := topSt 40
def d40 : He.DefD := ⟨("marks_in", none), "marks_in", "marks_in", defArgs s40, defBody s40, defScope s40, [], []⟩
abbrev s41 : Stmt := topSt 41
def d41 : He.DefD := ⟨("kinds_in", none), "kinds_in", "kinds_in", defArgs s41, defBody s41, defScope s41, [], []⟩
abbrev s42 : Stmt := topSt 42
def d42 : He.DefD := ⟨("role_at", none), "role_at", "role_at", defArgs s42, defBody s42, defScope s42, [], []⟩
abbrev s43 : Stmt := topSt 43
def d43 : He.DefD := ⟨("state_up", none), "state_up", "state_up", defArgs s43, defBody s43, defScope s43, [], []⟩
abbrev s44 : Stmt := topSt 44
def d44 : He.DefD := ⟨("houses_told", none), "houses_told", "houses_told", defArgs s44, defBody s44, defScope s44, [], []⟩
abbrev s53 : Stmt := topSt 53
def d53 : He.DefD := ⟨("told_more", none), "told_more", "told_more", defArgs s53, defBody s53, defScope s53, [], []⟩
abbrev s54 : Stmt := topSt 54
def d54 : He.DefD := ⟨("first_house", none), "first_house", "first_house", defArgs s54, defBody s54, defScope s54, [], []⟩
abbrev s55 : Stmt := topSt 55
def d55 : He.DefD := ⟨("first_of", none), "first_of", "first_of", defArgs s55, defBody s55, defScope s55, [], []⟩
abbrev s56 : Stmt := topSt 56
def d56 : He.DefD := ⟨("is_there", none), "is_there", "is_there", defArgs s56, defBody s56, defScope s56, [], []⟩
abbrev s57 : Stmt := topSt 57
def d57 : He.DefD := ⟨("rule_at", none), "rule_at", "rule_at", defArgs s57, defBody s57, defScope s57, [], []⟩
abbrev s58 : Stmt := topSt 58
def d58 : He.DefD := ⟨("ruled", none), "ruled", "ruled", defArgs s58, defBody s58, defScope s58, [], []⟩
abbrev s59 : Stmt := topSt 59
def d59 : He.DefD := ⟨("letters_by", none), "letters_by", "letters_by", defArgs s59, defBody s59, defScope s59, [], []⟩
abbrev s60 : Stmt := topSt 60
def d60 : He.DefD := ⟨("fallen_house", none), "fallen_house", "fallen_house", defArgs s60, defBody s60, defScope s60, [], []⟩
abbrev s61 : Stmt := topSt 61
def d61 : He.DefD := ⟨("upped", none), "upped", "upped", defArgs s61, defBody s61, defScope s61, [], []⟩
abbrev s62 : Stmt := topSt 62
def d62 : He.DefD := ⟨("with_house", none), "with_house", "with_house", defArgs s62, defBody s62, defScope s62, [], []⟩
abbrev s63 : Stmt := topSt 63
def d63 : He.DefD := ⟨("rule_steps", none), "rule_steps", "rule_steps", defArgs s63, defBody s63, defScope s63, [], []⟩
abbrev s64 : Stmt := topSt 64
def d64 : He.DefD := ⟨("hear_steps", none), "hear_steps", "hear_steps", defArgs s64, defBody s64, defScope s64, [], []⟩
abbrev s65 : Stmt := topSt 65
def d65 : He.DefD := ⟨("steps_of", none), "steps_of", "steps_of", defArgs s65, defBody s65, defScope s65, [], []⟩
abbrev s66 : Stmt := topSt 66
def d66 : He.DefD := ⟨("step_done", none), "step_done", "step_done", defArgs s66, defBody s66, defScope s66, [], []⟩
abbrev s67 : Stmt := topSt 67
def d67 : He.DefD := ⟨("step_like", none), "step_like", "step_like", defArgs s67, defBody s67, defScope s67, [], []⟩
abbrev s68 : Stmt := topSt 68
def d68 : He.DefD := ⟨("standing_by", none), "standing_by", "standing_by", defArgs s68, defBody s68, defScope s68, [], []⟩
abbrev s69 : Stmt := topSt 69
def d69 : He.DefD := ⟨("is_letter", none), "is_letter", "is_letter", defArgs s69, defBody s69, defScope s69, [], []⟩
abbrev s70 : Stmt := topSt 70
def d70 : He.DefD := ⟨("are_heard", none), "are_heard", "are_heard", defArgs s70, defBody s70, defScope s70, [], []⟩
abbrev s71 : Stmt := topSt 71
def d71 : He.DefD := ⟨("is_log", none), "is_log", "is_log", defArgs s71, defBody s71, defScope s71, [], []⟩
abbrev s72 : Stmt := topSt 72
def d72 : He.DefD := ⟨("are_told", none), "are_told", "are_told", defArgs s72, defBody s72, defScope s72, [], []⟩
abbrev s73 : Stmt := topSt 73
def d73 : He.DefD := ⟨("is_house_of", none), "is_house_of", "is_house_of", defArgs s73, defBody s73, defScope s73, [], []⟩
abbrev s74 : Stmt := topSt 74
def d74 : He.DefD := ⟨("is_standing_value", none), "is_standing_value", "is_standing_value", defArgs s74, defBody s74, defScope s74, [], []⟩
abbrev s76 : Stmt := topSt 76
def d76 : He.DefD := ⟨("need_standing", none), "need_standing", "need_standing", defArgs s76, defBody s76, defScope s76, [], []⟩
abbrev s77 : Stmt := topSt 77
def d77 : He.DefD := ⟨("steps_from", none), "steps_from", "steps_from", defArgs s77, defBody s77, defScope s77, [], []⟩
abbrev s78 : Stmt := topSt 78
def d78 : He.DefD := ⟨("behind", none), "behind", "behind", defArgs s78, defBody s78, defScope s78, [], []⟩
abbrev s79 : Stmt := topSt 79
def d79 : He.DefD := ⟨("is_row_standings", none), "is_row", "is_row", defArgs s79, defBody s79, defScope s79, [], []⟩
abbrev s81 : Stmt := topSt 81
def d81 : He.DefD := ⟨("standing_behind", none), "standing_behind", "standing_behind", defArgs s81, defBody s81, defScope s81, [], []⟩
abbrev s83 : Stmt := topSt 83
def d83 : He.DefD := ⟨("_law_deck", none), "_law_deck", "_law_deck", defArgs s83, defBody s83, defScope s83, [], []⟩
abbrev s84 : Stmt := topSt 84
def d84 : He.DefD := ⟨("_law_draw", none), "_law_draw", "_law_draw", defArgs s84, defBody s84, defScope s84, [], []⟩
abbrev s85 : Stmt := topSt 85
def d85 : He.DefD := ⟨("_law_pick", none), "_law_pick", "_law_pick", defArgs s85, defBody s85, defScope s85, [], []⟩
abbrev s86 : Stmt := topSt 86
def d86 : He.DefD := ⟨("_law_known", none), "_law_known", "_law_known", defArgs s86, defBody s86, defScope s86, [], []⟩
abbrev s87 : Stmt := topSt 87
def d87 : He.DefD := ⟨("_law_marks", none), "_law_marks", "_law_marks", defArgs s87, defBody s87, defScope s87, [], []⟩
abbrev s88 : Stmt := topSt 88
def d88 : He.DefD := ⟨("_law_with_ups", none), "_law_with_ups", "_law_with_ups", defArgs s88, defBody s88, defScope s88, [], []⟩
abbrev s89 : Stmt := topSt 89
def d89 : He.DefD := ⟨("_law_drawn_role", none), "_law_drawn_role", "_law_drawn_role", defArgs s89, defBody s89, defScope s89, [], []⟩
abbrev s90 : Stmt := topSt 90
def d90 : He.DefD := ⟨("_law_changed_role", none), "_law_changed_role", "_law_changed_role", defArgs s90, defBody s90, defScope s90, [], []⟩
abbrev s91 : Stmt := topSt 91
def d91 : He.DefD := ⟨("_law_drawn_protocol", none), "_law_drawn_protocol", "_law_drawn_protocol", defArgs s91, defBody s91, defScope s91, [], []⟩
abbrev s92 : Stmt := topSt 92
def d92 : He.DefD := ⟨("_law_ends", none), "_law_ends", "_law_ends", defArgs s92, defBody s92, defScope s92, [], []⟩
abbrev s93 : Stmt := topSt 93
def d93 : He.DefD := ⟨("_law_first", none), "_law_first", "_law_first", defArgs s93, defBody s93, defScope s93, [], []⟩
abbrev s94 : Stmt := topSt 94
def d94 : He.DefD := ⟨("_law_is_there", none), "_law_is_there", "_law_is_there", defArgs s94, defBody s94, defScope s94, [], []⟩
abbrev s95 : Stmt := topSt 95
def d95 : He.DefD := ⟨("_law_receivers", none), "_law_receivers", "_law_receivers", defArgs s95, defBody s95, defScope s95, [], []⟩
abbrev s96 : Stmt := topSt 96
def d96 : He.DefD := ⟨("_law_steps", none), "_law_steps", "_law_steps", defArgs s96, defBody s96, defScope s96, [], []⟩
abbrev s97 : Stmt := topSt 97
def d97 : He.DefD := ⟨("_law_house_behind", none), "_law_house_behind", "_law_house_behind", defArgs s97, defBody s97, defScope s97, [], []⟩
abbrev s98 : Stmt := topSt 98
def d98 : He.DefD := ⟨("_law_behind", none), "_law_behind", "_law_behind", defArgs s98, defBody s98, defScope s98, [], []⟩
abbrev s99 : Stmt := topSt 99
def d99 : He.DefD := ⟨("_law_drawn_row", none), "_law_drawn_row", "_law_drawn_row", defArgs s99, defBody s99, defScope s99, [], []⟩
abbrev s100 : Stmt := topSt 100
def d100 : He.DefD := ⟨("_law_is_row", none), "_law_is_row", "_law_is_row", defArgs s100, defBody s100, defScope s100, [], []⟩
abbrev s101 : Stmt := topSt 101
def d101 : He.DefD := ⟨("_law_are_pairs_free", none), "_law_are_pairs_free", "_law_are_pairs_free", defArgs s101, defBody s101, defScope s101, [], []⟩
abbrev s102 : Stmt := topSt 102
def d102 : He.DefD := ⟨("_law_are_neighbours_free", none), "_law_are_neighbours_free", "_law_are_neighbours_free", defArgs s102, defBody s102, defScope s102, [], []⟩
abbrev s103 : Stmt := topSt 103
def d103 : He.DefD := ⟨("_law_is_last", none), "_law_is_last", "_law_is_last", defArgs s103, defBody s103, defScope s103, [], []⟩
abbrev s104 : Stmt := topSt 104
def d104 : He.DefD := ⟨("law", none), "law", "law", defArgs s104, defBody s104, defScope s104, [], []⟩
def fns0 : List He.DefD := [d10, d11, d12, d13, d15, d16, d30, d31, d32, d33, d34, d35, d36, d37, d38, d39, d40, d41, d42, d43, d44, d53, d54, d55, d56, d57, d58, d59, d60, d61]
def fns1 : List He.DefD := [d62, d63, d64, d65, d66, d67, d68, d69, d70, d71, d72, d73, d74, d76, d77, d78, d79, d81, d83, d84, d85, d86, d87, d88, d89, d90, d91, d92, d93, d94]
def fns2 : List He.DefD := [d95, d96, d97, d98, d99, d100, d101, d102, d103, d104]
def fns : List He.DefD := fns0 ++ fns1 ++ fns2
def fas0 : List He.Fa := [.glo "is_integer", .glo "is_between", .glo "is_name", .glo "is_row_looks", .glo "is_one_of", .glo "is_rising", .glo "is_cause", .glo "is_letter_rule", .glo "is_rule", .glo "is_state", .glo "is_up", .glo "is_role_value", .glo "is_protocol_value", .glo "need_protocol", .glo "need_both", .glo "rules_of", .glo "marks_in", .glo "kinds_in", .glo "role_at", .glo "state_up", .glo "houses_told", .glo "told_more", .glo "first_house", .glo "first_of", .glo "is_there", .glo "rule_at", .glo "ruled", .glo "letters_by", .glo "fallen_house", .glo "upped"]
def fas1 : List He.Fa := [.glo "with_house", .glo "rule_steps", .glo "hear_steps", .glo "steps_of", .glo "step_done", .glo "step_like", .glo "standing_by", .glo "is_letter", .glo "are_heard", .glo "is_log", .glo "are_told", .glo "is_house_of", .glo "is_standing_value", .glo "need_standing", .glo "steps_from", .glo "behind", .glo "is_row_standings", .glo "standing_behind", .glo "_law_deck", .glo "_law_draw", .glo "_law_pick", .glo "_law_known", .glo "_law_marks", .glo "_law_with_ups", .glo "_law_drawn_role", .glo "_law_changed_role", .glo "_law_drawn_protocol", .glo "_law_ends", .glo "_law_first", .glo "_law_is_there"]
def fas2 : List He.Fa := [.glo "_law_receivers", .glo "_law_steps", .glo "_law_house_behind", .glo "_law_behind", .glo "_law_drawn_row", .glo "_law_is_row", .glo "_law_are_pairs_free", .glo "_law_are_neighbours_free", .glo "_law_is_last", .glo "law", .str "LETTERS" "abcdefghijklmnopqrstuvwxyz", .int "MOST_LETTERS_looks" (10), .int "MOST_STATES" (12), .int "MOST_RULES" (6), .int "MOST_LETTERS_rolework" (4), .int "MOST_HOUSES" (4), .str "KEPT" "kept", .str "DROPPED" "dropped", .glo "ENDS", .glo "PLAIN_CAUSES", .glo "KIND_CAUSES", .str "LEADER" "leader", .str "MEMBERS" "members", .str "OTHERS" "others", .str "RULE" "rule", .str "HEAR" "hear", .str "FORCE" "force", .str "FALL" "fall", .str "UP" "up", .int "DOWN" (-1)]
def fas3 : List He.Fa := [.int "NOT_SAID" (-1), .free "len", .free "isinstance", .free "all", .free "any", .free "sorted", .free "tuple", .free "range", .free "enumerate", .free "zip", .free "repr", .free "list", .free "int", .free "max", .free "min", .free "set", .free "dict", .free "str", .free "bool"]
def fas : List He.Fa := fas0 ++ fas1 ++ fas2 ++ fas3
def exs (K : PySem.W.Frag) : Bool := He.tupB K "ENDS" [.str "kept", .str "dropped", .str ""] && He.tupB K "PLAIN_CAUSES" [.str "able", .str "unable", .str "timer"] && He.tupB K "KIND_CAUSES" [.str "each", .str "some"]
def nms0 : List PySem.Str := ["ShelfError", "BadNumber", "BadProtocol", "BadStanding", "BadStep", "BadSteps", "LETTERS", "MOST_LETTERS_looks", "is_integer", "is_between", "is_name", "is_row", "is_row_looks", "is_one_of", "is_rising", "MOST_STATES", "MOST_RULES", "MOST_LETTERS_rolework", "MOST_HOUSES", "KEPT", "DROPPED", "ENDS", "PLAIN_CAUSES", "KIND_CAUSES", "LEADER", "MEMBERS", "OTHERS", "is_cause", "is_letter_rule", "is_rule"]
def nms1 : List PySem.Str := ["is_state", "is_up", "is_role_value", "is_protocol_value", "need_protocol", "need_both", "rules_of", "marks_in", "kinds_in", "role_at", "state_up", "houses_told", "RULE", "HEAR", "FORCE", "FALL", "UP", "DOWN", "NOT_SAID", "told_more", "first_house", "first_of", "is_there", "rule_at", "ruled", "letters_by", "fallen_house", "upped", "with_house", "rule_steps"]
def nms2 : List PySem.Str := ["hear_steps", "steps_of", "step_done", "step_like", "standing_by", "is_letter", "are_heard", "is_log", "are_told", "is_house_of", "is_standing_value", "need_standing", "steps_from", "behind", "is_row_standings", "standing_behind", "_law_deck", "_law_draw", "_law_pick", "_law_known", "_law_marks", "_law_with_ups", "_law_drawn_role", "_law_changed_role", "_law_drawn_protocol", "_law_ends", "_law_first", "_law_is_there", "_law_receivers", "_law_steps"]
def nms3 : List PySem.Str := ["_law_house_behind", "_law_behind", "_law_drawn_row", "_law_is_row", "_law_are_pairs_free", "_law_are_neighbours_free", "_law_is_last"]
def nms : List PySem.Str := nms0 ++ nms1 ++ nms2 ++ nms3
abbrev R : PySem.W.OpenRow := PySem.W.OpenLaw.row PySem.Challenge.rw_allshelves_k23_whole_steps_exchanged
abbrev hk : PySem.W.Hook := He.hookX 4 fas fns [] [] exs
def ob (s : PySem.W.SharedT) : He.AlX := He.obsX 4 fas fns [] [] exs (HandSHeadRun.getT s)
theorem ob_eq (s : PySem.W.SharedT) : ob s = hk.obs s.abs := He.obsX_eq (HandSHeadRun.getT_eq s)
theorem run (w : World) : HandSHeadRun.RunEq R (PySem.W.view R.prog [104]) hk ob 20000 nms w := by
  intro os
  kernel_rfl
end K23

-- text B0
set_option Elab.async false
set_option linter.all false
set_option maxRecDepth 100000
set_option maxHeartbeats 2000000
namespace K23
open PySem PySem.Spec PyProof.Rows L2
def frees : List Str := ["len", "isinstance", "all", "any", "sorted", "tuple", "range", "enumerate", "zip", "repr", "list", "int", "max", "min", "set", "dict", "str", "bool"]
def gints : List (Str × Int) := [("MOST_LETTERS_looks", 10), ("MOST_STATES", 12), ("MOST_RULES", 6), ("MOST_LETTERS_rolework", 4), ("MOST_HOUSES", 4), ("DOWN", -1), ("NOT_SAID", -1)]
def gstrs : List (Str × Str) := [("LETTERS", "abcdefghijklmnopqrstuvwxyz"), ("KEPT", "kept"), ("DROPPED", "dropped"), ("LEADER", "leader"), ("MEMBERS", "members"), ("OTHERS", "others"), ("RULE", "rule"), ("HEAR", "hear"), ("FORCE", "force"), ("FALL", "fall"), ("UP", "up")]
def gtups : List (Str × List Str) := [("ENDS", ["kept", "dropped", ""]), ("PLAIN_CAUSES", ["able", "unable", "timer"]), ("KIND_CAUSES", ["each", "some"])]
/-- what the top leaves -/
structure Top (K : PySem.W.Frag) (mg : Str → Option Value) : Prop where
  free : ∀ x ∈ frees, mg x = none
  int : ∀ p ∈ gints, ∃ t, mg p.1 = some (.int p.2 t)
  str : ∀ p ∈ gstrs, ∃ t, mg p.1 = some (.str p.2 t)
  tup : ∀ p ∈ gtups, ∃ a, mg p.1 = some (.ref a) ∧ ∀ H, SqT K H a (p.2.map V.str)
  defs : ∀ d ∈ fns, ∃ f fd, mg d.at_.1 = some (.ref f) ∧ FunD K d.name d.qual d.params d.body d.scope [] [] f fd
theorem fns_glo : (fns.map fun d => He.Fa.glo d.at_.1) = fas.take fns.length := by rfl
theorem fns_bare : (fns.all fun d => d.at_.2.isNone && (d.dfl.isEmpty && d.kwd.isEmpty)) = true := by rfl
theorem top_of {w : World} {K : PySem.W.Frag} {h : Heap} {mg : Str → Option Value} (X : K.In h) (G : h.Ns mainGlobals mg) (c : He.SaysX fas fns [] [] exs w h K) : Top K mg := by
  have mem : ∀ {f : He.Fa} (i : Nat), fas[i]? = some f → f.ok K = true := fun i e => c.t.d.fact i e
  refine ⟨?_, ?_, ?_, ?_, ?_⟩
  · intro x hx
    simp only [frees, List.mem_cons, List.not_mem_nil, or_false] at hx
    rcases hx with rfl | rfl | rfl | rfl | rfl | rfl | rfl | rfl | rfl | rfl | rfl | rfl | rfl | rfl | rfl | rfl | rfl | rfl
    · exact He.free_ok X G (mem 91 rfl)
    · exact He.free_ok X G (mem 92 rfl)
    · exact He.free_ok X G (mem 93 rfl)
    · exact He.free_ok X G (mem 94 rfl)
    · exact He.free_ok X G (mem 95 rfl)
    · exact He.free_ok X G (mem 96 rfl)
    · exact He.free_ok X G (mem 97 rfl)
    · exact He.free_ok X G (mem 98 rfl)
    · exact He.free_ok X G (mem 99 rfl)
    · exact He.free_ok X G (mem 100 rfl)
    · exact He.free_ok X G (mem 101 rfl)
    · exact He.free_ok X G (mem 102 rfl)
    · exact He.free_ok X G (mem 103 rfl)
    · exact He.free_ok X G (mem 104 rfl)
    · exact He.free_ok X G (mem 105 rfl)
    · exact He.free_ok X G (mem 106 rfl)
    · exact He.free_ok X G (mem 107 rfl)
    · exact He.free_ok X G (mem 108 rfl)
  · intro x hx
    simp only [gints, List.mem_cons, List.not_mem_nil, or_false] at hx
    rcases hx with rfl | rfl | rfl | rfl | rfl | rfl | rfl
    · exact He.int_ok X G (mem 71 rfl)
    · exact He.int_ok X G (mem 72 rfl)
    · exact He.int_ok X G (mem 73 rfl)
    · exact He.int_ok X G (mem 74 rfl)
    · exact He.int_ok X G (mem 75 rfl)
    · exact He.int_ok X G (mem 89 rfl)
    · exact He.int_ok X G (mem 90 rfl)
  · intro x hx
    simp only [gstrs, List.mem_cons, List.not_mem_nil, or_false] at hx
    rcases hx with rfl | rfl | rfl | rfl | rfl | rfl | rfl | rfl | rfl | rfl | rfl
    · exact He.str_ok X G (mem 70 rfl)
    · exact He.str_ok X G (mem 76 rfl)
    · exact He.str_ok X G (mem 77 rfl)
    · exact He.str_ok X G (mem 81 rfl)
    · exact He.str_ok X G (mem 82 rfl)
    · exact He.str_ok X G (mem 83 rfl)
    · exact He.str_ok X G (mem 84 rfl)
    · exact He.str_ok X G (mem 85 rfl)
    · exact He.str_ok X G (mem 86 rfl)
    · exact He.str_ok X G (mem 87 rfl)
    · exact He.str_ok X G (mem 88 rfl)
  · have h1 := c.more
    unfold exs at h1
    simp only [Bool.and_eq_true] at h1
    obtain ⟨⟨t0, t1⟩, t2⟩ := h1
    intro x hx
    simp only [gtups, List.mem_cons, List.not_mem_nil, or_false] at hx
    rcases hx with rfl | rfl | rfl
    · exact ⟨_, He.glo_ok X G (mem 78 rfl), fun H => He.tupB_ok t0 H⟩
    · exact ⟨_, He.glo_ok X G (mem 79 rfl), fun H => He.tupB_ok t1 H⟩
    · exact ⟨_, He.glo_ok X G (mem 80 rfl), fun H => He.tupB_ok t2 H⟩
  · intro d hd
    have b := List.all_eq_true.mp fns_bare d hd
    obtain ⟨fd, F⟩ := c.t.d.defs hd
    obtain ⟨at_, name, qual, params, body, scope, dfl, kwd⟩ := d
    obtain ⟨x, m⟩ := at_
    simp only [Bool.and_eq_true, Option.isNone_iff_eq_none, List.isEmpty_iff] at b
    obtain ⟨b1, b2, b3⟩ := b
    subst b1 b2 b3
    have hg : He.Fa.glo x ∈ fas := by
      have : He.Fa.glo x ∈ fns.map fun d => He.Fa.glo d.at_.1 := List.mem_map.mpr ⟨_, hd, rfl⟩
      rw [fns_glo] at this
      exact List.mem_of_mem_take this
    exact ⟨_, fd, He.glo_ok X G (c.t.d.facts hg), F⟩
section
variable {K : PySem.W.Frag} {mg : Str → Option Value}
theorem Top.f_len (T : Top K mg) : mg "len" = none := T.free _ (by decide)
theorem Top.f_isinstance (T : Top K mg) : mg "isinstance" = none := T.free _ (by decide)
theorem Top.f_all (T : Top K mg) : mg "all" = none := T.free _ (by decide)
theorem Top.f_any (T : Top K mg) : mg "any" = none := T.free _ (by decide)
theorem Top.f_sorted (T : Top K mg) : mg "sorted" = none := T.free _ (by decide)
theorem Top.f_tuple (T : Top K mg) : mg "tuple" = none := T.free _ (by decide)
theorem Top.f_range (T : Top K mg) : mg "range" = none := T.free _ (by decide)
theorem Top.f_enumerate (T : Top K mg) : mg "enumerate" = none := T.free _ (by decide)
theorem Top.f_zip (T : Top K mg) : mg "zip" = none := T.free _ (by decide)
theorem Top.f_repr (T : Top K mg) : mg "repr" = none := T.free _ (by decide)
theorem Top.f_list (T : Top K mg) : mg "list" = none := T.free _ (by decide)
theorem Top.f_int (T : Top K mg) : mg "int" = none := T.free _ (by decide)
theorem Top.f_max (T : Top K mg) : mg "max" = none := T.free _ (by decide)
theorem Top.f_min (T : Top K mg) : mg "min" = none := T.free _ (by decide)
theorem Top.f_set (T : Top K mg) : mg "set" = none := T.free _ (by decide)
theorem Top.f_dict (T : Top K mg) : mg "dict" = none := T.free _ (by decide)
theorem Top.f_str (T : Top K mg) : mg "str" = none := T.free _ (by decide)
theorem Top.f_bool (T : Top K mg) : mg "bool" = none := T.free _ (by decide)
theorem Top.g_LETTERS (T : Top K mg) : ∃ t, mg "LETTERS" = some (.str "abcdefghijklmnopqrstuvwxyz" t) := T.str ("LETTERS", "abcdefghijklmnopqrstuvwxyz") (by decide)
theorem Top.g_MOST_LETTERS_looks (T : Top K mg) : ∃ t, mg "MOST_LETTERS_looks" = some (.int (10) t) := T.int ("MOST_LETTERS_looks", 10) (by decide)
theorem Top.g_MOST_STATES (T : Top K mg) : ∃ t, mg "MOST_STATES" = some (.int (12) t) := T.int ("MOST_STATES", 12) (by decide)
theorem Top.g_MOST_RULES (T : Top K mg) : ∃ t, mg "MOST_RULES" = some (.int (6) t) := T.int ("MOST_RULES", 6) (by decide)
theorem Top.g_MOST_LETTERS_rolework (T : Top K mg) : ∃ t, mg "MOST_LETTERS_rolework" = some (.int (4) t) := T.int ("MOST_LETTERS_rolework", 4) (by decide)
theorem Top.g_MOST_HOUSES (T : Top K mg) : ∃ t, mg "MOST_HOUSES" = some (.int (4) t) := T.int ("MOST_HOUSES", 4) (by decide)
theorem Top.g_KEPT (T : Top K mg) : ∃ t, mg "KEPT" = some (.str "kept" t) := T.str ("KEPT", "kept") (by decide)
theorem Top.g_DROPPED (T : Top K mg) : ∃ t, mg "DROPPED" = some (.str "dropped" t) := T.str ("DROPPED", "dropped") (by decide)
theorem Top.g_ENDS (T : Top K mg) : ∃ a, mg "ENDS" = some (.ref a) ∧ ∀ H, SqT K H a ((["kept", "dropped", ""] : List Str).map V.str) := T.tup ("ENDS", ["kept", "dropped", ""]) (by decide)
theorem Top.g_PLAIN_CAUSES (T : Top K mg) : ∃ a, mg "PLAIN_CAUSES" = some (.ref a) ∧ ∀ H, SqT K H a ((["able", "unable", "timer"] : List Str).map V.str) := T.tup ("PLAIN_CAUSES", ["able", "unable", "timer"]) (by decide)
theorem Top.g_KIND_CAUSES (T : Top K mg) : ∃ a, mg "KIND_CAUSES" = some (.ref a) ∧ ∀ H, SqT K H a ((["each", "some"] : List Str).map V.str) := T.tup ("KIND_CAUSES", ["each", "some"]) (by decide)
theorem Top.g_LEADER (T : Top K mg) : ∃ t, mg "LEADER" = some (.str "leader" t) := T.str ("LEADER", "leader") (by decide)
theorem Top.g_MEMBERS (T : Top K mg) : ∃ t, mg "MEMBERS" = some (.str "members" t) := T.str ("MEMBERS", "members") (by decide)
theorem Top.g_OTHERS (T : Top K mg) : ∃ t, mg "OTHERS" = some (.str "others" t) := T.str ("OTHERS", "others") (by decide)
theorem Top.g_RULE (T : Top K mg) : ∃ t, mg "RULE" = some (.str "rule" t) := T.str ("RULE", "rule") (by decide)
theorem Top.g_HEAR (T : Top K mg) : ∃ t, mg "HEAR" = some (.str "hear" t) := T.str ("HEAR", "hear") (by decide)
theorem Top.g_FORCE (T : Top K mg) : ∃ t, mg "FORCE" = some (.str "force" t) := T.str ("FORCE", "force") (by decide)
theorem Top.g_FALL (T : Top K mg) : ∃ t, mg "FALL" = some (.str "fall" t) := T.str ("FALL", "fall") (by decide)
theorem Top.g_UP (T : Top K mg) : ∃ t, mg "UP" = some (.str "up" t) := T.str ("UP", "up") (by decide)
theorem Top.g_DOWN (T : Top K mg) : ∃ t, mg "DOWN" = some (.int (-1) t) := T.int ("DOWN", -1) (by decide)
theorem Top.g_NOT_SAID (T : Top K mg) : ∃ t, mg "NOT_SAID" = some (.int (-1) t) := T.int ("NOT_SAID", -1) (by decide)
theorem Top.e10 (T : Top K mg) : ∃ f fd, mg "is_integer" = some (.ref f) ∧ FunD K "is_integer" "is_integer" (defArgs s10) (defBody s10) (defScope s10) [] [] f fd := T.defs d10 (List.mem_of_getElem? (i := 0) rfl)
theorem Top.e11 (T : Top K mg) : ∃ f fd, mg "is_between" = some (.ref f) ∧ FunD K "is_between" "is_between" (defArgs s11) (defBody s11) (defScope s11) [] [] f fd := T.defs d11 (List.mem_of_getElem? (i := 1) rfl)
theorem Top.e12 (T : Top K mg) : ∃ f fd, mg "is_name" = some (.ref f) ∧ FunD K "is_name" "is_name" (defArgs s12) (defBody s12) (defScope s12) [] [] f fd := T.defs d12 (List.mem_of_getElem? (i := 2) rfl)
theorem Top.e13 (T : Top K mg) : ∃ f fd, mg "is_row_looks" = some (.ref f) ∧ FunD K "is_row" "is_row" (defArgs s13) (defBody s13) (defScope s13) [] [] f fd := T.defs d13 (List.mem_of_getElem? (i := 3) rfl)
theorem Top.e15 (T : Top K mg) : ∃ f fd, mg "is_one_of" = some (.ref f) ∧ FunD K "is_one_of" "is_one_of" (defArgs s15) (defBody s15) (defScope s15) [] [] f fd := T.defs d15 (List.mem_of_getElem? (i := 4) rfl)
theorem Top.e16 (T : Top K mg) : ∃ f fd, mg "is_rising" = some (.ref f) ∧ FunD K "is_rising" "is_rising" (defArgs s16) (defBody s16) (defScope s16) [] [] f fd := T.defs d16 (List.mem_of_getElem? (i := 5) rfl)
theorem Top.e30 (T : Top K mg) : ∃ f fd, mg "is_cause" = some (.ref f) ∧ FunD K "is_cause" "is_cause" (defArgs s30) (defBody s30) (defScope s30) [] [] f fd := T.defs d30 (List.mem_of_getElem? (i := 6) rfl)
theorem Top.e31 (T : Top K mg) : ∃ f fd, mg "is_letter_rule" = some (.ref f) ∧ FunD K "is_letter_rule" "is_letter_rule" (defArgs s31) (defBody s31) (defScope s31) [] [] f fd := T.defs d31 (List.mem_of_getElem? (i := 7) rfl)
theorem Top.e32 (T : Top K mg) : ∃ f fd, mg "is_rule" = some (.ref f) ∧ FunD K "is_rule" "is_rule" (defArgs s32) (defBody s32) (defScope s32) [] [] f fd := T.defs d32 (List.mem_of_getElem? (i := 8) rfl)
theorem Top.e33 (T : Top K mg) : ∃ f fd, mg "is_state" = some (.ref f) ∧ FunD K "is_state" "is_state" (defArgs s33) (defBody s33) (defScope s33) [] [] f fd := T.defs d33 (List.mem_of_getElem? (i := 9) rfl)
theorem Top.e34 (T : Top K mg) : ∃ f fd, mg "is_up" = some (.ref f) ∧ FunD K "is_up" "is_up" (defArgs s34) (defBody s34) (defScope s34) [] [] f fd := T.defs d34 (List.mem_of_getElem? (i := 10) rfl)
theorem Top.e35 (T : Top K mg) : ∃ f fd, mg "is_role_value" = some (.ref f) ∧ FunD K "is_role_value" "is_role_value" (defArgs s35) (defBody s35) (defScope s35) [] [] f fd := T.defs d35 (List.mem_of_getElem? (i := 11) rfl)
theorem Top.e36 (T : Top K mg) : ∃ f fd, mg "is_protocol_value" = some (.ref f) ∧ FunD K "is_protocol_value" "is_protocol_value" (defArgs s36) (defBody s36) (defScope s36) [] [] f fd := T.defs d36 (List.mem_of_getElem? (i := 12) rfl)
theorem Top.e37 (T : Top K mg) : ∃ f fd, mg "need_protocol" = some (.ref f) ∧ FunD K "need_protocol" "need_protocol" (defArgs s37) (defBody s37) (defScope s37) [] [] f fd := T.defs d37 (List.mem_of_getElem? (i := 13) rfl)
theorem Top.e38 (T : Top K mg) : ∃ f fd, mg "need_both" = some (.ref f) ∧ FunD K "need_both" "need_both" (defArgs s38) (defBody s38) (defScope s38) [] [] f fd := T.defs d38 (List.mem_of_getElem? (i := 14) rfl)
theorem Top.e39 (T : Top K mg) : ∃ f fd, mg "rules_of" = some (.ref f) ∧ FunD K "rules_of" "rules_of" (defArgs s39) (defBody s39) (defScope s39) [] [] f fd := T.defs d39 (List.mem_of_getElem? (i := 15) rfl)
theorem Top.e40 (T : Top K mg) : ∃ f fd, mg "marks_in" = some (.ref f) ∧ FunD K "marks_in" "marks_in" (defArgs s40) (defBody s40) (defScope s40) [] [] f fd := T.defs d40 (List.mem_of_getElem? (i := 16) rfl)
theorem Top.e41 (T : Top K mg) : ∃ f fd, mg "kinds_in" = some (.ref f) ∧ FunD K "kinds_in" "kinds_in" (defArgs s41) (defBody s41) (defScope s41) [] [] f fd := T.defs d41 (List.mem_of_getElem? (i := 17) rfl)
theorem Top.e42 (T : Top K mg) : ∃ f fd, mg "role_at" = some (.ref f) ∧ FunD K "role_at" "role_at" (defArgs s42) (defBody s42) (defScope s42) [] [] f fd := T.defs d42 (List.mem_of_getElem? (i := 18) rfl)
theorem Top.e43 (T : Top K mg) : ∃ f fd, mg "state_up" = some (.ref f) ∧ FunD K "state_up" "state_up" (defArgs s43) (defBody s43) (defScope s43) [] [] f fd := T.defs d43 (List.mem_of_getElem? (i := 19) rfl)
theorem Top.e44 (T : Top K mg) : ∃ f fd, mg "houses_told" = some (.ref f) ∧ FunD K "houses_told" "houses_told" (defArgs s44) (defBody s44) (defScope s44) [] [] f fd := T.defs d44 (List.mem_of_getElem? (i := 20) rfl)
theorem Top.e53 (T : Top K mg) : ∃ f fd, mg "told_more" = some (.ref f) ∧ FunD K "told_more" "told_more" (defArgs s53) (defBody s53) (defScope s53) [] [] f fd := T.defs d53 (List.mem_of_getElem? (i := 21) rfl)
theorem Top.e54 (T : Top K mg) : ∃ f fd, mg "first_house" = some (.ref f) ∧ FunD K "first_house" "first_house" (defArgs s54) (defBody s54) (defScope s54) [] [] f fd := T.defs d54 (List.mem_of_getElem? (i := 22) rfl)
theorem Top.e55 (T : Top K mg) : ∃ f fd, mg "first_of" = some (.ref f) ∧ FunD K "first_of" "first_of" (defArgs s55) (defBody s55) (defScope s55) [] [] f fd := T.defs d55 (List.mem_of_getElem? (i := 23) rfl)
theorem Top.e56 (T : Top K mg) : ∃ f fd, mg "is_there" = some (.ref f) ∧ FunD K "is_there" "is_there" (defArgs s56) (defBody s56) (defScope s56) [] [] f fd := T.defs d56 (List.mem_of_getElem? (i := 24) rfl)
theorem Top.e57 (T : Top K mg) : ∃ f fd, mg "rule_at" = some (.ref f) ∧ FunD K "rule_at" "rule_at" (defArgs s57) (defBody s57) (defScope s57) [] [] f fd := T.defs d57 (List.mem_of_getElem? (i := 25) rfl)
theorem Top.e58 (T : Top K mg) : ∃ f fd, mg "ruled" = some (.ref f) ∧ FunD K "ruled" "ruled" (defArgs s58) (defBody s58) (defScope s58) [] [] f fd := T.defs d58 (List.mem_of_getElem? (i := 26) rfl)
theorem Top.e59 (T : Top K mg) : ∃ f fd, mg "letters_by" = some (.ref f) ∧ FunD K "letters_by" "letters_by" (defArgs s59) (defBody s59) (defScope s59) [] [] f fd := T.defs d59 (List.mem_of_getElem? (i := 27) rfl)
theorem Top.e60 (T : Top K mg) : ∃ f fd, mg "fallen_house" = some (.ref f) ∧ FunD K "fallen_house" "fallen_house" (defArgs s60) (defBody s60) (defScope s60) [] [] f fd := T.defs d60 (List.mem_of_getElem? (i := 28) rfl)
theorem Top.e61 (T : Top K mg) : ∃ f fd, mg "upped" = some (.ref f) ∧ FunD K "upped" "upped" (defArgs s61) (defBody s61) (defScope s61) [] [] f fd := T.defs d61 (List.mem_of_getElem? (i := 29) rfl)
theorem Top.e62 (T : Top K mg) : ∃ f fd, mg "with_house" = some (.ref f) ∧ FunD K "with_house" "with_house" (defArgs s62) (defBody s62) (defScope s62) [] [] f fd := T.defs d62 (List.mem_of_getElem? (i := 30) rfl)
theorem Top.e63 (T : Top K mg) : ∃ f fd, mg "rule_steps" = some (.ref f) ∧ FunD K "rule_steps" "rule_steps" (defArgs s63) (defBody s63) (defScope s63) [] [] f fd := T.defs d63 (List.mem_of_getElem? (i := 31) rfl)
theorem Top.e64 (T : Top K mg) : ∃ f fd, mg "hear_steps" = some (.ref f) ∧ FunD K "hear_steps" "hear_steps" (defArgs s64) (defBody s64) (defScope s64) [] [] f fd := T.defs d64 (List.mem_of_getElem? (i := 32) rfl)
theorem Top.e65 (T : Top K mg) : ∃ f fd, mg "steps_of" = some (.ref f) ∧ FunD K "steps_of" "steps_of" (defArgs s65) (defBody s65) (defScope s65) [] [] f fd := T.defs d65 (List.mem_of_getElem? (i := 33) rfl)
theorem Top.e66 (T : Top K mg) : ∃ f fd, mg "step_done" = some (.ref f) ∧ FunD K "step_done" "step_done" (defArgs s66) (defBody s66) (defScope s66) [] [] f fd := T.defs d66 (List.mem_of_getElem? (i := 34) rfl)
theorem Top.e67 (T : Top K mg) : ∃ f fd, mg "step_like" = some (.ref f) ∧ FunD K "step_like" "step_like" (defArgs s67) (defBody s67) (defScope s67) [] [] f fd := T.defs d67 (List.mem_of_getElem? (i := 35) rfl)
theorem Top.e68 (T : Top K mg) : ∃ f fd, mg "standing_by" = some (.ref f) ∧ FunD K "standing_by" "standing_by" (defArgs s68) (defBody s68) (defScope s68) [] [] f fd := T.defs d68 (List.mem_of_getElem? (i := 36) rfl)
theorem Top.e69 (T : Top K mg) : ∃ f fd, mg "is_letter" = some (.ref f) ∧ FunD K "is_letter" "is_letter" (defArgs s69) (defBody s69) (defScope s69) [] [] f fd := T.defs d69 (List.mem_of_getElem? (i := 37) rfl)
theorem Top.e70 (T : Top K mg) : ∃ f fd, mg "are_heard" = some (.ref f) ∧ FunD K "are_heard" "are_heard" (defArgs s70) (defBody s70) (defScope s70) [] [] f fd := T.defs d70 (List.mem_of_getElem? (i := 38) rfl)
theorem Top.e71 (T : Top K mg) : ∃ f fd, mg "is_log" = some (.ref f) ∧ FunD K "is_log" "is_log" (defArgs s71) (defBody s71) (defScope s71) [] [] f fd := T.defs d71 (List.mem_of_getElem? (i := 39) rfl)
theorem Top.e72 (T : Top K mg) : ∃ f fd, mg "are_told" = some (.ref f) ∧ FunD K "are_told" "are_told" (defArgs s72) (defBody s72) (defScope s72) [] [] f fd := T.defs d72 (List.mem_of_getElem? (i := 40) rfl)
theorem Top.e73 (T : Top K mg) : ∃ f fd, mg "is_house_of" = some (.ref f) ∧ FunD K "is_house_of" "is_house_of" (defArgs s73) (defBody s73) (defScope s73) [] [] f fd := T.defs d73 (List.mem_of_getElem? (i := 41) rfl)
theorem Top.e74 (T : Top K mg) : ∃ f fd, mg "is_standing_value" = some (.ref f) ∧ FunD K "is_standing_value" "is_standing_value" (defArgs s74) (defBody s74) (defScope s74) [] [] f fd := T.defs d74 (List.mem_of_getElem? (i := 42) rfl)
theorem Top.e76 (T : Top K mg) : ∃ f fd, mg "need_standing" = some (.ref f) ∧ FunD K "need_standing" "need_standing" (defArgs s76) (defBody s76) (defScope s76) [] [] f fd := T.defs d76 (List.mem_of_getElem? (i := 43) rfl)
theorem Top.e77 (T : Top K mg) : ∃ f fd, mg "steps_from" = some (.ref f) ∧ FunD K "steps_from" "steps_from" (defArgs s77) (defBody s77) (defScope s77) [] [] f fd := T.defs d77 (List.mem_of_getElem? (i := 44) rfl)
theorem Top.e78 (T : Top K mg) : ∃ f fd, mg "behind" = some (.ref f) ∧ FunD K "behind" "behind" (defArgs s78) (defBody s78) (defScope s78) [] [] f fd := T.defs d78 (List.mem_of_getElem? (i := 45) rfl)
theorem Top.e79 (T : Top K mg) : ∃ f fd, mg "is_row_standings" = some (.ref f) ∧ FunD K "is_row" "is_row" (defArgs s79) (defBody s79) (defScope s79) [] [] f fd := T.defs d79 (List.mem_of_getElem? (i := 46) rfl)
theorem Top.e81 (T : Top K mg) : ∃ f fd, mg "standing_behind" = some (.ref f) ∧ FunD K "standing_behind" "standing_behind" (defArgs s81) (defBody s81) (defScope s81) [] [] f fd := T.defs d81 (List.mem_of_getElem? (i := 47) rfl)
theorem Top.e83 (T : Top K mg) : ∃ f fd, mg "_law_deck" = some (.ref f) ∧ FunD K "_law_deck" "_law_deck" (defArgs s83) (defBody s83) (defScope s83) [] [] f fd := T.defs d83 (List.mem_of_getElem? (i := 48) rfl)
theorem Top.e84 (T : Top K mg) : ∃ f fd, mg "_law_draw" = some (.ref f) ∧ FunD K "_law_draw" "_law_draw" (defArgs s84) (defBody s84) (defScope s84) [] [] f fd := T.defs d84 (List.mem_of_getElem? (i := 49) rfl)
theorem Top.e85 (T : Top K mg) : ∃ f fd, mg "_law_pick" = some (.ref f) ∧ FunD K "_law_pick" "_law_pick" (defArgs s85) (defBody s85) (defScope s85) [] [] f fd := T.defs d85 (List.mem_of_getElem? (i := 50) rfl)
theorem Top.e86 (T : Top K mg) : ∃ f fd, mg "_law_known" = some (.ref f) ∧ FunD K "_law_known" "_law_known" (defArgs s86) (defBody s86) (defScope s86) [] [] f fd := T.defs d86 (List.mem_of_getElem? (i := 51) rfl)
theorem Top.e87 (T : Top K mg) : ∃ f fd, mg "_law_marks" = some (.ref f) ∧ FunD K "_law_marks" "_law_marks" (defArgs s87) (defBody s87) (defScope s87) [] [] f fd := T.defs d87 (List.mem_of_getElem? (i := 52) rfl)
theorem Top.e88 (T : Top K mg) : ∃ f fd, mg "_law_with_ups" = some (.ref f) ∧ FunD K "_law_with_ups" "_law_with_ups" (defArgs s88) (defBody s88) (defScope s88) [] [] f fd := T.defs d88 (List.mem_of_getElem? (i := 53) rfl)
theorem Top.e89 (T : Top K mg) : ∃ f fd, mg "_law_drawn_role" = some (.ref f) ∧ FunD K "_law_drawn_role" "_law_drawn_role" (defArgs s89) (defBody s89) (defScope s89) [] [] f fd := T.defs d89 (List.mem_of_getElem? (i := 54) rfl)
theorem Top.e90 (T : Top K mg) : ∃ f fd, mg "_law_changed_role" = some (.ref f) ∧ FunD K "_law_changed_role" "_law_changed_role" (defArgs s90) (defBody s90) (defScope s90) [] [] f fd := T.defs d90 (List.mem_of_getElem? (i := 55) rfl)
theorem Top.e91 (T : Top K mg) : ∃ f fd, mg "_law_drawn_protocol" = some (.ref f) ∧ FunD K "_law_drawn_protocol" "_law_drawn_protocol" (defArgs s91) (defBody s91) (defScope s91) [] [] f fd := T.defs d91 (List.mem_of_getElem? (i := 56) rfl)
theorem Top.e92 (T : Top K mg) : ∃ f fd, mg "_law_ends" = some (.ref f) ∧ FunD K "_law_ends" "_law_ends" (defArgs s92) (defBody s92) (defScope s92) [] [] f fd := T.defs d92 (List.mem_of_getElem? (i := 57) rfl)
theorem Top.e93 (T : Top K mg) : ∃ f fd, mg "_law_first" = some (.ref f) ∧ FunD K "_law_first" "_law_first" (defArgs s93) (defBody s93) (defScope s93) [] [] f fd := T.defs d93 (List.mem_of_getElem? (i := 58) rfl)
theorem Top.e94 (T : Top K mg) : ∃ f fd, mg "_law_is_there" = some (.ref f) ∧ FunD K "_law_is_there" "_law_is_there" (defArgs s94) (defBody s94) (defScope s94) [] [] f fd := T.defs d94 (List.mem_of_getElem? (i := 59) rfl)
theorem Top.e95 (T : Top K mg) : ∃ f fd, mg "_law_receivers" = some (.ref f) ∧ FunD K "_law_receivers" "_law_receivers" (defArgs s95) (defBody s95) (defScope s95) [] [] f fd := T.defs d95 (List.mem_of_getElem? (i := 60) rfl)
theorem Top.e96 (T : Top K mg) : ∃ f fd, mg "_law_steps" = some (.ref f) ∧ FunD K "_law_steps" "_law_steps" (defArgs s96) (defBody s96) (defScope s96) [] [] f fd := T.defs d96 (List.mem_of_getElem? (i := 61) rfl)
theorem Top.e97 (T : Top K mg) : ∃ f fd, mg "_law_house_behind" = some (.ref f) ∧ FunD K "_law_house_behind" "_law_house_behind" (defArgs s97) (defBody s97) (defScope s97) [] [] f fd := T.defs d97 (List.mem_of_getElem? (i := 62) rfl)
theorem Top.e98 (T : Top K mg) : ∃ f fd, mg "_law_behind" = some (.ref f) ∧ FunD K "_law_behind" "_law_behind" (defArgs s98) (defBody s98) (defScope s98) [] [] f fd := T.defs d98 (List.mem_of_getElem? (i := 63) rfl)
theorem Top.e99 (T : Top K mg) : ∃ f fd, mg "_law_drawn_row" = some (.ref f) ∧ FunD K "_law_drawn_row" "_law_drawn_row" (defArgs s99) (defBody s99) (defScope s99) [] [] f fd := T.defs d99 (List.mem_of_getElem? (i := 64) rfl)
theorem Top.e100 (T : Top K mg) : ∃ f fd, mg "_law_is_row" = some (.ref f) ∧ FunD K "_law_is_row" "_law_is_row" (defArgs s100) (defBody s100) (defScope s100) [] [] f fd := T.defs d100 (List.mem_of_getElem? (i := 65) rfl)
theorem Top.e101 (T : Top K mg) : ∃ f fd, mg "_law_are_pairs_free" = some (.ref f) ∧ FunD K "_law_are_pairs_free" "_law_are_pairs_free" (defArgs s101) (defBody s101) (defScope s101) [] [] f fd := T.defs d101 (List.mem_of_getElem? (i := 66) rfl)
theorem Top.e102 (T : Top K mg) : ∃ f fd, mg "_law_are_neighbours_free" = some (.ref f) ∧ FunD K "_law_are_neighbours_free" "_law_are_neighbours_free" (defArgs s102) (defBody s102) (defScope s102) [] [] f fd := T.defs d102 (List.mem_of_getElem? (i := 67) rfl)
theorem Top.e103 (T : Top K mg) : ∃ f fd, mg "_law_is_last" = some (.ref f) ∧ FunD K "_law_is_last" "_law_is_last" (defArgs s103) (defBody s103) (defScope s103) [] [] f fd := T.defs d103 (List.mem_of_getElem? (i := 68) rfl)
theorem Top.e104 (T : Top K mg) : ∃ f fd, mg "law" = some (.ref f) ∧ FunD K "law" "law" (defArgs s104) (defBody s104) (defScope s104) [] [] f fd := T.defs d104 (List.mem_of_getElem? (i := 69) rfl)
end
end K23

-- text A12
set_option Elab.async false
set_option linter.all false
set_option maxRecDepth 100000
set_option maxHeartbeats 2000000
namespace K23
open PySem PySem.Spec PyProof.Rows L2

/-! ## 20. what is good to compare: found by instances -/
class SOk (z : Str) : Prop where
  ok : PyData.strOk z = true
class SOks (l : List Str) : Prop where
  ok : l.all PyData.strOk = true
instance : SOks [] := ⟨rfl⟩
instance {z l} [h : SOk z] [t : SOks l] : SOks (z :: l) := ⟨by show (PyData.strOk z && l.all PyData.strOk) = true; rw [h.ok, t.ok]; rfl⟩
class Gd (d : D) (n : outParam Nat) : Prop where
  ok : d.ok = true
  dp : d.dep ≤ n
class Gds (ds : List D) (n : outParam Nat) : Prop where
  ok : D.ok.oks ds = true
  dp : PyData.depthAll (D.py.pys ds) ≤ n
instance : Gd .non 0 := ⟨rfl, Nat.le_refl _⟩
instance {b} : Gd (.bl b) 0 := ⟨rfl, Nat.le_refl _⟩
instance {i} : Gd (.int i) 0 := ⟨rfl, Nat.le_refl _⟩
instance {z} [h : SOk z] : Gd (.str z) 0 := ⟨h.ok, Nat.le_refl _⟩
instance {l n} [h : Gds l n] : Gd (.tup l) (n + 1) := ⟨h.ok, Nat.succ_le_succ h.dp⟩
instance {l n} [h : Gds l n] : Gd (.lst l) (n + 1) := ⟨h.ok, Nat.succ_le_succ h.dp⟩
instance {l : List Str} [h : SOks l] : Gd (.ktp l) 1 := ⟨h.ok, by
  have key : ∀ l : List Str, PyData.depthAll (l.map .str) = 0 := fun l => by
    induction l with
    | nil => rfl
    | cons z l ih => show max 0 (PyData.depthAll (l.map .str)) = 0; rw [ih]; rfl
  show PyData.depthAll (l.map .str) + 1 ≤ 1
  rw [key]
  exact Nat.le_refl _⟩
instance : Gds [] 0 := ⟨rfl, Nat.le_refl _⟩
instance {d l n m} [h : Gd d n] [t : Gds l m] : Gds (d :: l) (max n m) :=
  ⟨by show (d.ok && D.ok.oks l) = true; rw [h.ok, t.ok]; rfl, Nat.max_le.mpr ⟨Nat.le_trans h.dp (Nat.le_max_left _ _), Nat.le_trans t.dp (Nat.le_max_right _ _)⟩⟩
theorem gds_map {α : Type} {f : α → D} {n : Nat} (l : List α) (h : ∀ x ∈ l, Gd (f x) n) : Gds (l.map f) n := by
  induction l with
  | nil => exact ⟨rfl, Nat.zero_le _⟩
  | cons x l ih =>
    have a := h x List.mem_cons_self
    have b := ih fun y hy => h y (List.mem_cons_of_mem _ hy)
    exact ⟨by show ((f x).ok && D.ok.oks (l.map f)) = true; rw [a.ok, b.ok]; rfl, Nat.max_le.mpr ⟨a.dp, b.dp⟩⟩
instance {α : Type} {f : α → D} {n : Nat} {l : List α} [h : ∀ x, Gd (f x) n] : Gds (l.map f) n := gds_map l fun x _ => h x
theorem Gd.k {d : D} {n : Nat} [h : Gd d n] : d.ok = true := h.ok
theorem Gd.d {d : D} {n : Nat} [h : Gd d n] (hn : n ≤ 60 := by decide) : d.dep ≤ 60 := Nat.le_trans h.dp hn
theorem Gd.m {d e : D} {n m : Nat} [h : Gd d n] [g : Gd e m] (hn : min n m ≤ 60 := by decide) : min d.dep e.dep ≤ 60 := by
  have a := h.dp
  have b := g.dp
  omega
instance {a b : List D} {n m : Nat} [h : Gds a n] [g : Gds b m] : Gds (a ++ b) (max n m) := by
  have e1 : ∀ l : List D, D.ok.oks l = l.all D.ok := oks_all
  have e2 : ∀ a b : List D, PyData.depthAll (D.py.pys (a ++ b)) = max (PyData.depthAll (D.py.pys a)) (PyData.depthAll (D.py.pys b)) := fun a b => by
    induction a with
    | nil => show _ = max 0 _; rw [Nat.max_eq_right (Nat.zero_le _)]; rfl
    | cons d l ih => show max d.py.depth (PyData.depthAll (D.py.pys (l ++ b))) = max (max d.py.depth (PyData.depthAll (D.py.pys l))) _; rw [ih, Nat.max_assoc]
  exact ⟨by rw [e1, List.all_append, ← e1, ← e1, h.ok, g.ok]; rfl, by rw [e2]; exact Nat.max_le.mpr ⟨Nat.le_trans h.dp (Nat.le_max_left _ _), Nat.le_trans g.dp (Nat.le_max_right _ _)⟩⟩
/-- no list within -/
class Im (d : D) : Prop where
  k : d.imm = true
class Ims (l : List D) : Prop where
  k : D.imm.imms l = true
instance : Im .non := ⟨rfl⟩
instance {b} : Im (.bl b) := ⟨rfl⟩
instance {i} : Im (.int i) := ⟨rfl⟩
instance {z} : Im (.str z) := ⟨rfl⟩
instance {z} : Im (.ktp z) := ⟨rfl⟩
instance {l} [h : Ims l] : Im (.tup l) := ⟨h.k⟩
instance : Ims [] := ⟨rfl⟩
instance {d l} [h : Im d] [t : Ims l] : Ims (d :: l) := ⟨by show (d.imm && D.imm.imms l) = true; rw [h.k, t.k]; rfl⟩
instance {a b} [h : Ims a] [t : Ims b] : Ims (a ++ b) := ⟨by rw [imms_all, List.all_append, ← imms_all, ← imms_all, h.k, t.k]; rfl⟩
instance {α : Type} {f : α → D} {l : List α} [h : ∀ x, Im (f x)] : Ims (l.map f) := ⟨by rw [imms_all, List.all_map]; exact List.all_eq_true.mpr fun a _ => (h a).k⟩
/-- == of strings -/
theorem eqv_str (a b : Str) : D.eqv (.str a) (.str b) = decide (a = b) := by
  show (a == b) = decide (a = b)
  exact Bool.eq_iff_iff.mpr (by simp)
theorem eqv_int (a b : Int) : D.eqv (.int a) (.int b) = decide (a = b) := by
  show (a == b) = decide (a = b)
  exact Bool.eq_iff_iff.mpr (by simp)
/-- no truth, no address within: == is sameness -/
def D.nb : D → Bool
  | .bl _ | .adr _ | .ktp _ => false
  | .tup l | .lst l => nbs l
  | _ => true
where nbs : List D → Bool
  | [] => true
  | d :: l => D.nb d && nbs l
mutual
theorem eqv_nb : ∀ (d e : D), d.nb = true → e.nb = true → (D.eqv d e = true ↔ d = e)
  | .non, e, _, h => by cases e <;> first | (cases h; done) | simp [D.eqv, D.py, PyData.eqv]
  | .int i, e, _, h => by cases e <;> first | (cases h; done) | simp [D.eqv, D.py, PyData.eqv]
  | .str i, e, _, h => by cases e <;> first | (cases h; done) | simp [D.eqv, D.py, PyData.eqv]
  | .tup l, .tup m, h, k => by
    show PyData.eqvAll (D.py.pys l) (D.py.pys m) = true ↔ _
    rw [eqvs_nb l m h k]
    exact ⟨fun z => by rw [z], fun z => by cases z; rfl⟩
  | .lst l, .lst m, h, k => by
    show PyData.eqvAll (D.py.pys l) (D.py.pys m) = true ↔ _
    rw [eqvs_nb l m h k]
    exact ⟨fun z => by rw [z], fun z => by cases z; rfl⟩
  | .tup l, .non, _, _ => by simp [D.eqv, D.py, PyData.eqv]
  | .tup l, .int _, _, _ => by simp [D.eqv, D.py, PyData.eqv]
  | .tup l, .str _, _, _ => by simp [D.eqv, D.py, PyData.eqv]
  | .tup l, .lst _, _, _ => by simp [D.eqv, D.py, PyData.eqv]
  | .lst l, .non, _, _ => by simp [D.eqv, D.py, PyData.eqv]
  | .lst l, .int _, _, _ => by simp [D.eqv, D.py, PyData.eqv]
  | .lst l, .str _, _, _ => by simp [D.eqv, D.py, PyData.eqv]
  | .lst l, .tup _, _, _ => by simp [D.eqv, D.py, PyData.eqv]
theorem eqvs_nb : ∀ (l m : List D), D.nb.nbs l = true → D.nb.nbs m = true → (PyData.eqvAll (D.py.pys l) (D.py.pys m) = true ↔ l = m)
  | [], [], _, _ => by simp [D.py.pys, PyData.eqvAll]
  | [], _ :: _, _, _ => by simp [D.py.pys, PyData.eqvAll]
  | _ :: _, [], _, _ => by simp [D.py.pys, PyData.eqvAll]
  | d :: l, e :: m, h, k => by
    obtain ⟨h1, h2⟩ := Bool.and_eq_true_iff.mp h
    obtain ⟨k1, k2⟩ := Bool.and_eq_true_iff.mp k
    show (PyData.eqv d.py e.py && PyData.eqvAll (D.py.pys l) (D.py.pys m)) = true ↔ _
    rw [Bool.and_eq_true, eqvs_nb l m h2 k2]
    have := eqv_nb d e h1 k1
    unfold D.eqv at this
    rw [this]
    exact ⟨fun z => by rw [z.1, z.2], fun z => by cases z; exact ⟨rfl, rfl⟩⟩
end
theorem nbs_map {α : Type} {f : α → D} (l : List α) (h : ∀ x ∈ l, (f x).nb = true) : D.nb.nbs (l.map f) = true := by
  induction l with
  | nil => rfl
  | cons x l ih =>
    show ((f x).nb && D.nb.nbs (l.map f)) = true
    rw [h x List.mem_cons_self, ih fun y hy => h y (List.mem_cons_of_mem _ hy)]
    rfl
theorem eqv_of {α : Type} [DecidableEq α] {f : α → D} (inj : ∀ a b, f a = f b → a = b) (nb : ∀ a, (f a).nb = true) (a b : α) : D.eqv (f a) (f b) = decide (a = b) := by
  rw [Bool.eq_iff_iff, eqv_nb _ _ (nb a) (nb b), decide_eq_true_iff]
  exact ⟨inj a b, fun h => by rw [h]⟩
theorem has_of {α : Type} [DecidableEq α] {f : α → D} (inj : ∀ a b, f a = f b → a = b) (nb : ∀ a, (f a).nb = true) (l : List α) (a : α) : D.has (l.map f) (f a) = decide (a ∈ l) := by
  unfold D.has
  rw [List.any_map, Bool.eq_iff_iff, List.any_eq_true, decide_eq_true_iff]
  refine ⟨fun ⟨x, hx, e⟩ => ?_, fun h => ⟨a, h, ?_⟩⟩
  · have : D.eqv (f x) (f a) = true := e
    rw [eqv_of inj nb, decide_eq_true_iff] at this
    exact this ▸ hx
  · show D.eqv (f a) (f a) = true
    rw [eqv_of inj nb]
    simp
theorem inj_map {α : Type} {f : α → D} (inj : ∀ a b, f a = f b → a = b) : ∀ {l m : List α}, l.map f = m.map f → l = m
  | [], [], _ => rfl
  | [], _ :: _, h => by cases h
  | _ :: _, [], h => by cases h
  | x :: l, y :: m, h => by
    rw [List.map_cons, List.map_cons, List.cons.injEq] at h
    rw [inj x y h.1, inj_map inj h.2]
section
variable {X : Cx} {M : Md} {ds : List (Option D)} {a b c e : Expr} {pos p : Pos}
theorem bq_eq {x y : D} (hu : X.A.units + 64 < cLine) (ha : BE X M ds a x) (hb : BE X M ds b y) (hx : x.ok = true := by exact Gd.k) (hy : y.ok = true := by exact Gd.k) (hm : min x.dep y.dep ≤ 60 := by exact Gd.m) : BE X M ds (.Compare a [.Eq] [b] pos) (.bl (D.eqv x y)) := be_eq hu ha hb hx hy hm
theorem bq_ne {x y : D} (hu : X.A.units + 64 < cLine) (ha : BE X M ds a x) (hb : BE X M ds b y) (hx : x.ok = true := by exact Gd.k) (hy : y.ok = true := by exact Gd.k) (hm : min x.dep y.dep ≤ 60 := by exact Gd.m) : BE X M ds (.Compare a [.NotEq] [b] pos) (.bl (!D.eqv x y)) := be_ne hu ha hb hx hy hm
theorem bq_eqI {i j : Int} (hu : X.A.units + 64 < cLine) (ha : BE X M ds a (.int i)) (hb : BE X M ds b (.int j)) : BE X M ds (.Compare a [.Eq] [b] pos) (.bl (decide (i = j))) := by
  rw [← eqv_int]
  exact be_eq hu ha hb rfl rfl (Nat.zero_le _)
theorem bq_neI {i j : Int} (hu : X.A.units + 64 < cLine) (ha : BE X M ds a (.int i)) (hb : BE X M ds b (.int j)) : BE X M ds (.Compare a [.NotEq] [b] pos) (.bl (!decide (i = j))) := by
  rw [← eqv_int]
  exact be_ne hu ha hb rfl rfl (Nat.zero_le _)
theorem bq_eqS {i j : Str} (hu : X.A.units + 64 < cLine) (ha : BE X M ds a (.str i)) (hb : BE X M ds b (.str j)) (hx : SOk i := by infer_instance) (hy : SOk j := by infer_instance) : BE X M ds (.Compare a [.Eq] [b] pos) (.bl (decide (i = j))) := by
  rw [← eqv_str]
  exact be_eq hu ha hb hx.ok hy.ok (Nat.zero_le _)
theorem bq_neS {i j : Str} (hu : X.A.units + 64 < cLine) (ha : BE X M ds a (.str i)) (hb : BE X M ds b (.str j)) (hx : SOk i := by infer_instance) (hy : SOk j := by infer_instance) : BE X M ds (.Compare a [.NotEq] [b] pos) (.bl (!decide (i = j))) := by
  rw [← eqv_str]
  exact be_ne hu ha hb hx.ok hy.ok (Nat.zero_le _)
theorem bq_in {x y : D} {es : List D} (hu : X.A.units + 64 < cLine) (ha : BE X M ds a x) (hb : BE X M ds b y) (hs : y.seq = some es := by rfl) (hx : x.ok = true := by exact Gd.k) (hy : y.ok = true := by exact Gd.k) (hm : x.dep ≤ 60 := by exact Gd.d) (hk : behindInMarks .In b = false := by rfl) : BE X M ds (.Compare a [.In] [b] pos) (.bl (D.has es x)) := be_in hu ha hb hs hx hy hm hk
theorem bq_nin {x y : D} {es : List D} (hu : X.A.units + 64 < cLine) (ha : BE X M ds a x) (hb : BE X M ds b y) (hs : y.seq = some es := by rfl) (hx : x.ok = true := by exact Gd.k) (hy : y.ok = true := by exact Gd.k) (hm : x.dep ≤ 60 := by exact Gd.d) (hk : behindInMarks .NotIn b = false := by rfl) : BE X M ds (.Compare a [.NotIn] [b] pos) (.bl (!D.has es x)) := be_nin hu ha hb hs hx hy hm hk
/-- .. among things of one kind -/
theorem bq_inK {α : Type} [DecidableEq α] {f : α → D} {l : List α} {t : α} {y : D} [ii : Decidable (t ∈ l)] (k : ∀ a b, f a = f b → a = b) (nb : ∀ a, (f a).nb = true) (hu : X.A.units + 64 < cLine) (ha : BE X M ds a (f t)) (hb : BE X M ds b y) (hs : y.seq = some (l.map f) := by rfl) (hx : (f t).ok = true := by exact Gd.k) (hy : y.ok = true := by exact Gd.k) (hm : (f t).dep ≤ 60 := by exact Gd.d) (hk : behindInMarks .In b = false := by rfl) :
    BE X M ds (.Compare a [.In] [b] pos) (.bl (decide (t ∈ l))) := by
  rw [show @decide (t ∈ l) ii = D.has (l.map f) (f t) from (decide_eq_decide.mpr Iff.rfl).trans (has_of k nb l t).symm]
  exact be_in hu ha hb hs hx hy hm hk
theorem bq_ninK {α : Type} [DecidableEq α] {f : α → D} {l : List α} {t : α} {y : D} [ii : Decidable (t ∈ l)] (k : ∀ a b, f a = f b → a = b) (nb : ∀ a, (f a).nb = true) (hu : X.A.units + 64 < cLine) (ha : BE X M ds a (f t)) (hb : BE X M ds b y) (hs : y.seq = some (l.map f) := by rfl) (hx : (f t).ok = true := by exact Gd.k) (hy : y.ok = true := by exact Gd.k) (hm : (f t).dep ≤ 60 := by exact Gd.d) (hk : behindInMarks .NotIn b = false := by rfl) :
    BE X M ds (.Compare a [.NotIn] [b] pos) (.bl (!decide (t ∈ l))) := by
  rw [show @decide (t ∈ l) ii = D.has (l.map f) (f t) from (decide_eq_decide.mpr Iff.rfl).trans (has_of k nb l t).symm]
  exact be_nin hu ha hb hs hx hy hm hk
theorem tq_eq {x y : D} (hu : X.A.units + 64 < cLine) (ha : BE X M ds a x) (hb : BE X M ds b y) (hx : x.ok = true := by exact Gd.k) (hy : y.ok = true := by exact Gd.k) (hm : min x.dep y.dep ≤ 60 := by exact Gd.m) : BTE X M ds (.Compare a [.Eq] [b] pos) (D.eqv x y) := bt_eq hu ha hb hx hy hm
theorem tq_ne {x y : D} (hu : X.A.units + 64 < cLine) (ha : BE X M ds a x) (hb : BE X M ds b y) (hx : x.ok = true := by exact Gd.k) (hy : y.ok = true := by exact Gd.k) (hm : min x.dep y.dep ≤ 60 := by exact Gd.m) : BTE X M ds (.Compare a [.NotEq] [b] pos) (!D.eqv x y) := bt_ne hu ha hb hx hy hm
theorem tq_eqI {i j : Int} (hu : X.A.units + 64 < cLine) (ha : BE X M ds a (.int i)) (hb : BE X M ds b (.int j)) : BTE X M ds (.Compare a [.Eq] [b] pos) (decide (i = j)) := by
  rw [← eqv_int]
  exact bt_eq hu ha hb rfl rfl (Nat.zero_le _)
theorem tq_neI {i j : Int} (hu : X.A.units + 64 < cLine) (ha : BE X M ds a (.int i)) (hb : BE X M ds b (.int j)) : BTE X M ds (.Compare a [.NotEq] [b] pos) (!decide (i = j)) := by
  rw [← eqv_int]
  exact bt_ne hu ha hb rfl rfl (Nat.zero_le _)
theorem tq_eqS {i j : Str} (hu : X.A.units + 64 < cLine) (ha : BE X M ds a (.str i)) (hb : BE X M ds b (.str j)) (hx : SOk i := by infer_instance) (hy : SOk j := by infer_instance) : BTE X M ds (.Compare a [.Eq] [b] pos) (decide (i = j)) := by
  rw [← eqv_str]
  exact bt_eq hu ha hb hx.ok hy.ok (Nat.zero_le _)
theorem tq_neS {i j : Str} (hu : X.A.units + 64 < cLine) (ha : BE X M ds a (.str i)) (hb : BE X M ds b (.str j)) (hx : SOk i := by infer_instance) (hy : SOk j := by infer_instance) : BTE X M ds (.Compare a [.NotEq] [b] pos) (!decide (i = j)) := by
  rw [← eqv_str]
  exact bt_ne hu ha hb hx.ok hy.ok (Nat.zero_le _)
theorem tq_in {x y : D} {es : List D} (hu : X.A.units + 64 < cLine) (ha : BE X M ds a x) (hb : BE X M ds b y) (hs : y.seq = some es := by rfl) (hx : x.ok = true := by exact Gd.k) (hy : y.ok = true := by exact Gd.k) (hm : x.dep ≤ 60 := by exact Gd.d) (hk : behindInMarks .In b = false := by rfl) : BTE X M ds (.Compare a [.In] [b] pos) (D.has es x) := bt_in hu ha hb hs hx hy hm hk
theorem tq_nin {x y : D} {es : List D} (hu : X.A.units + 64 < cLine) (ha : BE X M ds a x) (hb : BE X M ds b y) (hs : y.seq = some es := by rfl) (hx : x.ok = true := by exact Gd.k) (hy : y.ok = true := by exact Gd.k) (hm : x.dep ≤ 60 := by exact Gd.d) (hk : behindInMarks .NotIn b = false := by rfl) : BTE X M ds (.Compare a [.NotIn] [b] pos) (!D.has es x) := bt_nin hu ha hb hs hx hy hm hk
theorem tq_inK {α : Type} [DecidableEq α] {f : α → D} {l : List α} {t : α} {y : D} [ii : Decidable (t ∈ l)] (k : ∀ a b, f a = f b → a = b) (nb : ∀ a, (f a).nb = true) (hu : X.A.units + 64 < cLine) (ha : BE X M ds a (f t)) (hb : BE X M ds b y) (hs : y.seq = some (l.map f) := by rfl) (hx : (f t).ok = true := by exact Gd.k) (hy : y.ok = true := by exact Gd.k) (hm : (f t).dep ≤ 60 := by exact Gd.d) (hk : behindInMarks .In b = false := by rfl) :
    BTE X M ds (.Compare a [.In] [b] pos) (decide (t ∈ l)) := by
  rw [show @decide (t ∈ l) ii = D.has (l.map f) (f t) from (decide_eq_decide.mpr Iff.rfl).trans (has_of k nb l t).symm]
  exact bt_in hu ha hb hs hx hy hm hk
theorem tq_ninK {α : Type} [DecidableEq α] {f : α → D} {l : List α} {t : α} {y : D} [ii : Decidable (t ∈ l)] (k : ∀ a b, f a = f b → a = b) (nb : ∀ a, (f a).nb = true) (hu : X.A.units + 64 < cLine) (ha : BE X M ds a (f t)) (hb : BE X M ds b y) (hs : y.seq = some (l.map f) := by rfl) (hx : (f t).ok = true := by exact Gd.k) (hy : y.ok = true := by exact Gd.k) (hm : (f t).dep ≤ 60 := by exact Gd.d) (hk : behindInMarks .NotIn b = false := by rfl) :
    BTE X M ds (.Compare a [.NotIn] [b] pos) (!decide (t ∈ l)) := by
  rw [show @decide (t ∈ l) ii = D.has (l.map f) (f t) from (decide_eq_decide.mpr Iff.rfl).trans (has_of k nb l t).symm]
  exact bt_nin hu ha hb hs hx hy hm hk
/-- a <= m <= b -/
theorem be_between {i j k : Int} (ha : BE X M ds a (.int i)) (hb : BE X M ds b (.int j)) (hc : BE X M ds c (.int k)) (hm : lastMarks [.LtE, .LtE] [b, c] = false := by with_unfolding_all rfl) : BE X M ds (.Compare a [.LtE, .LtE] [b, c] pos) (.bl (decide (i ≤ j) && decide (j ≤ k))) :=
  .of (pe_chain op_le op_le ha.pe hb.pe hc.pe hm) fun σ H Q en w q => ⟨en, w, fun x v H1 p1 e1 w1 i1 => ⟨en.mono e1 fun _ z => z, w1, fun y u H2 p2 e2 w2 i2 => by
    subst p1 p2
    cases i1; cases i2
    refine ⟨i, j, rfl, rfl, decide (i ≤ j), rfl, ?_⟩
    by_cases h : i ≤ j
    · rw [if_pos (decide_eq_true h)]
      refine ⟨(en.mono e1 fun _ z => z).mono e2 fun _ z => z, w2, fun z t H3 p3 e3 w3 i3 => ?_⟩
      subst p3
      cases i3
      exact ⟨j, k, rfl, rfl, q _ _ H3 (by simp [h]) ((e1.trans e2).trans e3) w3 (.bl _)⟩
    · rw [if_neg (by simp [h])]
      exact q _ _ H2 (by simp [h]) (e1.trans e2) w2 (.bl _)⟩⟩
theorem bt_between {i j k : Int} (ha : BE X M ds a (.int i)) (hb : BE X M ds b (.int j)) (hc : BE X M ds c (.int k)) (hm : lastMarks [.LtE, .LtE] [b, c] = false := by with_unfolding_all rfl) : BTE X M ds (.Compare a [.LtE, .LtE] [b, c] pos) (decide (i ≤ j) && decide (j ≤ k)) :=
  .of (pt_chain op_le op_le ha.pe hb.pe hc.pe hm) fun σ H Q en w q => ⟨en, w, fun x v H1 p1 e1 w1 i1 => ⟨en.mono e1 fun _ z => z, w1, fun y u H2 p2 e2 w2 i2 => by
    subst p1 p2
    cases i1; cases i2
    refine ⟨i, j, rfl, rfl, decide (i ≤ j), rfl, ?_⟩
    by_cases h : i ≤ j
    · rw [if_pos (decide_eq_true h)]
      refine ⟨(en.mono e1 fun _ z => z).mono e2 fun _ z => z, w2, fun z t H3 p3 e3 w3 i3 => ?_⟩
      subst p3
      cases i3
      exact ⟨j, k, rfl, rfl, _, rfl, q _ H3 (by simp [h]) ((e1.trans e2).trans e3) w3⟩
    · rw [if_neg (by simp [h])]
      exact ⟨_, rfl, q _ H2 (by simp [h]) (e1.trans e2) w2⟩⟩⟩
/-- one sign in a text -/
theorem be_inS {t : Nat} {y : Str} (ha : BE X M ds a (.str ⟨#[t]⟩)) (hb : BE X M ds b (.str y)) (hk : behindInMarks .In b = false := by rfl) : BE X M ds (.Compare a [.In] [b] pos) (.bl (decide (t ∈ y.cps.toList))) :=
  be_cmp op_inS hk ha hb (Op2.pure fun v u H Q i1 i2 k => by cases i1; cases i2; exact ⟨t, y, rfl, rfl, k _ _ rfl (.bl _)⟩)
/-- a, b, .. = e -/
theorem st_unpack {tg : Expr} {d : D} {ds2 : List (Option D)} {is : List Nat} {rest : List Stmt} {E : Ends} (h : BE X M ds e d) (g : BG X M tg d ds ds2 is) (k : ST X M ds2 rest E) (hs : swapsWithSole [tg] e pos.line X.env = pure false := by rfl) (hw : swappedStores [tg] e X.env = pure none := by rfl)
    (h1 : (assignEach [tg] X.env).map (·.2) = [assign tg X.env] := by rfl) : ST X M ds (.Assign [tg] e pos :: rest) E :=
  st_of (ps_asg h.pe g.pg hs hw h1) fun σ H en w => ⟨en, w, fun x v H1 p1 e1 w1 i1 => by
    subst p1
    exact ⟨en.mono e1 fun _ z => z, i1, fun σ' en' _ => k.go _ _ en' w1⟩⟩
/-- a, b = x, y: plain names -/
theorem st_par {i j : Nat} {x y : Str} {d1 d2 : D} {a2 : Expr} {px py pt : Pos} {kt k2 pt2} {rest : List Stmt} {E : Ends} (hc : X.calm = true) (ha : BE X M ds a d1) (hb : BE X M ds b d2) (k : ST X M ((ds.set i (some d1)).set j (some d2)) rest E) (hN : X.N.Nodup) (hi : X.N[i]? = some x := by rfl) (hj : X.N[j]? = some y := by rfl) (hij : i ≠ j := by decide)
    (hx : X.env.scope.names.lookup x = some .local := by rfl) (hy : X.env.scope.names.lookup y = some .local := by rfl) (hw : swappedStores [.Tuple [.Name x px, .Name y py] kt pt] (.Tuple [a, b] k2 pt2) X.env = pure (some [x, y]) := by rfl)
    (hs : swapsWithSole [.Tuple [.Name x px, .Name y py] kt pt] (.Tuple [a, b] k2 pt2) pos.line X.env = pure false := by rfl) (he : starEach [a, b] X.env = (false, eval a X.env) :: starEach [b] X.env := by rfl) (he2 : starEach [b] X.env = (false, eval b X.env) :: starEach [] X.env := by rfl) :
    ST X M ds (.Assign [.Tuple [.Name x px, .Name y py] kt pt] (.Tuple [a, b] k2 pt2) pos :: rest) E :=
  st_of (ps_par hc hN hi hj hij hx hy (bae ha (bae hb ba_nil he2) he).pa hw hs) fun σ H en w => ⟨en, w, fun l vs H1 p e1 w1 i1 => by
    subst p
    obtain ⟨v, u, rfl, i2, i3⟩ := i1.two
    exact ⟨v, u, rfl, k.go _ _ (((en.mono e1 fun _ z => z).set i2).set i3) w1⟩⟩
end
end K23

-- text A13
set_option Elab.async false
set_option linter.all false
set_option maxRecDepth 100000
set_option maxHeartbeats 2000000
namespace K23
open PySem PySem.Spec PyProof.Rows L2

/-! ## 23. comprehensions with two clauses -/
theorem any_it {J : It} {n : Nat} {G : Hp → Prop} {Y : Nat → Hp → V → Hp → Prop} (w : Walk J n G Y) (St : (Hp → Prop) → V → Hp → Prop) {H0 : Hp} {Qd : Hp → Prop} (Pv : Nat → Hp → Prop) (h0 : Pv 0 H0) (hG : ∀ i H, i ≤ n → Pv i H → G H)
    (hs : ∀ i x H H', i < n → Pv i H → Y i H x H' → St (Pv (i + 1)) x H') (hd : ∀ H, Pv n H → Qd H) :
    ∃ W : Nat → Nat → Hp → Prop, (∃ m, W 0 m H0) ∧ ∀ i m H, W i m H → (J.stop i H ∧ Qd H) ∨ (J.go i H ∧ ∃ Nx : Hp → Prop, (∀ H', Nx H' → ∃ m', m' < m ∧ W (i + 1) m' H') ∧ ∀ x H', J.yld i H x H' → St Nx x H') := by
  refine ⟨fun i m H => (i + m = n) ∧ Pv i H, ⟨n, Nat.zero_add n, h0⟩, fun i m H ⟨e, p⟩ => ?_⟩
  have le : i ≤ n := by omega
  rcases Nat.eq_or_lt_of_le le with eq | lt
  · exact .inl ⟨by rw [eq]; exact w.stops H (hG i H le p), hd H (eq ▸ p)⟩
  · exact .inr ⟨w.goes i H lt (hG i H le p), Pv (i + 1), fun H' p' => ⟨m - 1, by omega, by omega, p'⟩, fun x H' y => hs i x H H' lt p (w.yields i H x H' lt (hG i H le p) y)⟩
section
variable {α β : Type} {X : Cx} {M : Md} {ds : List (Option D)} {elt tg iter tg1 iter1 : Expr} {scope : Scope} {own : List (Str × Nat)} {pos : Pos}
structure Lc2 (X : Cx) (M : Md) (ds : List (Option D)) (elt tg tg1 iter1 : Expr) (scope : Scope) (own : List (Str × Nat)) (vs1 : List Nat) (φ : α → D) (ys : List α) (is is1 : List Nat) (g : α → List (Option D)) (ψ : β → D) (zs : α → List β) (g1 : α → β → List (Option D)) (f : α → β → D) : Prop where
  calm : X.calm = true
  nd : X.N.Nodup
  ok : BlkOk X.N X.env.scope scope own
  sub : ∀ i ∈ is, i ∈ own.map (·.2)
  hv : ∀ i ∈ vs1, i ∈ own.map (·.2)
  sub1 : ∀ i ∈ is1, i ∈ vs1
  bind : ∀ y ∈ ys, ∀ X', Blk X X' scope → ∀ M', BG X' M' tg (φ y) (wipeD ds (own.map (·.2))) (g y) is
  inner : ∀ y ∈ ys, ∀ X', Blk X X' scope → ∀ M', BIE X' M' (g y) tg1 iter1 ((zs y).map ψ)
  bind1 : ∀ y ∈ ys, ∀ z ∈ zs y, ∀ X', Blk X X' scope → ∀ M', BG X' M' tg1 (ψ z) (wipeD (g y) vs1) (g1 y z) is1
  el : ∀ y ∈ ys, ∀ z ∈ zs y, ∀ X', Blk X X' scope → ∀ M', BE X' M' (g1 y z) elt (f y z)
  imm0 : ∀ y ∈ ys, (φ y).imm = true
  imm : ∀ y ∈ ys, ∀ z ∈ zs y, (f y z).imm = true
  size : (ys.flatMap fun y => (zs y).map (f y)).length ≤ sizeLine
theorem Ex.opened {B : Addr → Prop} {H1 H H' : Hp} {q : Addr} (x : Ex B H1 H) (e : Ex (fun a => B a ∨ a = q) H H') (n : H1 q = none) : Ex B H1 H' :=
  ⟨fun a o h nb => e.old a o (x.old a o h nb) fun z => z.elim nb fun z => (by rw [z, n] at h; cases h), fun a xs h => e.tup a xs (x.tup a xs h), fun a o u h => e.frz a o u (x.frz a o u h), fun a h => e.dom a (x.dom a h)⟩
variable {vs1 is is1 : List Nat} {φ : α → D} {ys : List α} {g : α → List (Option D)} {ψ : β → D} {zs : α → List β} {g1 : α → β → List (Option D)} {f : α → β → D}
theorem imms_app (a b : List D) : D.imm.imms (a ++ b) = (D.imm.imms a && D.imm.imms b) := by
  rw [imms_all, imms_all, imms_all, List.all_append]
/-- what stands in the new list: all of the first i, and j of the next -/
def part2 (ys : List α) (zs : α → List β) (f : α → β → D) (i : Nat) : List D := (ys.take i).flatMap fun y => (zs y).map (f y)
theorem part2_next {i : Nat} {y : α} (h : ys[i]? = some y) : part2 ys zs f (i + 1) = part2 ys zs f i ++ (zs y).map (f y) := by
  unfold part2
  rw [List.take_succ, h]
  simp
theorem be_lc2 (L : Lc2 X M ds elt tg tg1 iter1 scope own vs1 φ ys is is1 g ψ zs g1 f) (hi : BIE X M ds tg iter (ys.map φ)) (hs : ∀ x, foldedSetIterable iter X.env x = pure x := by intro _; rfl) (hs1 : ∀ env x, foldedSetIterable iter1 env x = pure x := by intro _ _; rfl) :
    BE X M ds (.ListComp elt [⟨tg, iter, [], 0⟩, ⟨tg1, iter1, [], 0⟩] scope pos) (.lst (ys.flatMap fun y => (zs y).map (f y))) := by
  let gg : TG := fun v σ H Q => ∃ y M', y ∈ ys ∧ tG X.K M' (φ y) (wipeD ds (own.map (·.2))) (g y) is v σ H Q
  let gg1 : TG := fun v σ H Q => ∃ y z M', y ∈ ys ∧ z ∈ zs y ∧ tG X.K M' (ψ z) (wipeD (g y) vs1) (g1 y z) is1 v σ H Q
  let ii1 : TI := fun σ H R => ∃ y M', y ∈ ys ∧ iD X.K M' (g y) (fun q => q = (zs y).map ψ) σ H R
  let ee : TE := fun σ H Q => ∃ y z M', y ∈ ys ∧ z ∈ zs y ∧ tD X.K M' (g1 y z) (fun q => q = f y z) σ H Q
  refine .of (pe_lc2 (g := gg) (g1 := gg1) (wi1 := ii1) (te := ee) L.calm L.nd hi.pi L.ok L.hv ?_ (fun _ _ _ _ _ => pts_nil) ?_ ?_ (fun _ _ _ _ _ => pts_nil) ?_ hs hs1) ?_
  · exact fun s H C cl fp => ⟨fun pins s' σ H' v u Q I r ⟨y, M', hy, q⟩ => (L.bind y hy _ ⟨s, H, C, cl, fp, rfl⟩ M').pg.run pins s' σ H' v u Q I r q⟩
  · exact fun s H C cl fp => ⟨fun pins s' σ H' R I ⟨y, M', hy, q⟩ => (L.inner y hy _ ⟨s, H, C, cl, fp, rfl⟩ M').pi.run pins s' σ H' R I q⟩
  · exact fun s H C cl fp => ⟨fun pins s' σ H' v u Q I r ⟨y, z, M', hy, hz, q⟩ => (L.bind1 y hy z hz _ ⟨s, H, C, cl, fp, rfl⟩ M').pg.run pins s' σ H' v u Q I r q⟩
  · exact fun s H C cl fp => ⟨fun pins s' σ H' Q I ⟨y, z, M', hy, hz, q⟩ => (L.el y hy z hz _ ⟨s, H, C, cl, fp, rfl⟩ M').pe.run pins s' σ H' Q I q⟩
  · intro σ H Q en w k
    refine ⟨en, w, fun J H1 q qe e1 w1 wk D0 nD => ?_⟩
    subst qe
    have nS : ¬ M.S D0 := Md.freeS w1 nD
    have nd : ¬ M.dep D0 := Md.free w1 nD
    have en1 : En X.K (fun a => M.S a ∨ a = D0) H1 σ ds := (en.mono e1 fun _ z => z).sub fun a o h z => z.elim (fun z => z) fun z => by rw [z, nD] at h; cases h
    have total : ∀ i, i ≤ ys.length → (part2 ys zs f i).length ≤ sizeLine := fun i hi => by
      refine Nat.le_trans ?_ L.size
      have e : ys = ys.take i ++ ys.drop i := (List.take_append_drop i ys).symm
      conv => rhs; rw [e]
      rw [List.flatMap_append, List.length_append]
      exact Nat.le_add_right _ _
    -- what is known between turns
    let Kn : List D → Hp → Prop := fun l H' => Ex M.S H1 H' ∧ ∃ hi : D.imm.imms l = true, (M.push X.K D0 l hi).W H'
    have start0 : Kn [] (upd H1 D0 (.lst [])) := ⟨Ex.new nD, rfl, Md.new w1 nD, [], upd_same, .nil⟩
    rw [List.length_map] at wk
    refine any_it wk _ (fun i H' => Kn (part2 ys zs f i) H' ∧ Ex (fun a => M.S a ∨ a = D0) H1 H') ?_ (fun i H' _ p => p.1.1) ?_ ?_
    · exact ⟨start0, Ex.new nD⟩
    · rintro i x H' H2 hi' ⟨⟨x1, im, w'⟩, xo⟩ ⟨e2, y0, hy0, isx⟩
      obtain ⟨y, hyi, rfl⟩ := getElem_map_some hy0
      have hy : y ∈ ys := List.mem_of_getElem? hyi
      have w2 : (M.push X.K D0 _ im).W H2 := Md.pure w' e2
      have en2 : En X.K (M.push X.K D0 (part2 ys zs f i) im).S H2 (wipe σ (own.map (·.2))) (wipeD ds (own.map (·.2))) := ((en1.mono xo fun _ z => z).mono (B := NoA) e2 fun _ z => z.elim).wipe _
      refine ⟨y, M.push X.K D0 _ im, hy, en2, isx.imm (Ex.refl (B := NoA) H2) (L.imm0 y hy), fun σ2 en3 wp => ⟨by rw [wp _ L.sub, wipe_wipe], ?_⟩⟩
      show ∃ y1 M1, y1 ∈ ys ∧ _
      refine ⟨y, M.push X.K D0 _ im, hy, en3, w2, fun J1 H4 q4 q4e e4 w4 wk1 => ?_⟩
      subst q4e
      have en4 : En X.K (fun a => M.S a ∨ a = D0) H4 σ2 (g y) := en3.mono e4 fun _ z => z
      have x4 : Ex M.S H1 H4 := Ex.opened (x1.trans e2.pure) e4 nD
      have xo4 : Ex (fun a => M.S a ∨ a = D0) H1 H4 := (xo.trans e2.pure).trans e4
      rw [List.length_map] at wk1
      refine any_it wk1 _ (fun j H' => Kn (part2 ys zs f i ++ ((zs y).take j).map (f y)) H' ∧ Ex (fun a => M.S a ∨ a = D0) H4 H') ?_ (fun j H' _ p => p.2) ?_ ?_
      · refine ⟨?_, Ex.refl H4⟩
        rw [List.take_zero, List.map_nil, List.append_nil]
        exact ⟨x4, im, w4⟩
      · rintro j t H5 H6 hj ⟨⟨x5, im5, w5⟩, e5⟩ ⟨e6, z0, hz0, isz⟩
        obtain ⟨z, hzj, rfl⟩ := getElem_map_some hz0
        have hz : z ∈ zs y := List.mem_of_getElem? hzj
        have w6 : (M.push X.K D0 _ im5).W H6 := Md.pure w5 e6
        have en6 : En X.K (M.push X.K D0 _ im5).S H6 (wipe σ2 vs1) (wipeD (g y) vs1) := ((en4.mono e5 fun _ z => z).mono (B := NoA) e6 fun _ z => z.elim).wipe _
        refine ⟨y, z, M.push X.K D0 _ im5, hy, hz, en6, isz, fun σ3 en7 wp3 => ⟨by rw [wp3 _ L.sub1, wipe_wipe], ?_⟩⟩
        show ∃ y1 z1 M1, y1 ∈ ys ∧ z1 ∈ zs y1 ∧ _
        refine ⟨y, z, M.push X.K D0 _ im5, hy, hz, en7, w6, fun d v H7 pd e7 w7 i7 => ?_⟩
        subst pd
        obtain ⟨w7, acc, hD, is7⟩ := w7
        have x7 : Ex M.S H1 H7 := Ex.opened (x5.trans e6.pure) e7 nD
        have imd := L.imm y hy z hz
        have up : Ex (fun a => a = D0) H7 (upd H7 D0 (.lst (acc ++ [v]))) := Ex.put hD rfl (fun _ z => nomatch z) fun _ _ z => nomatch z
        have tk : ((zs y).take (j + 1)).map (f y) = ((zs y).take j).map (f y) ++ [f y z] := by rw [List.take_succ, hzj]; simp
        have lim : acc.length < sizeLine := by
          have a1 := is7.length
          have a2 := total (i + 1) (by omega)
          rw [part2_next hyi, List.length_append, List.length_map] at a2
          rw [List.length_append, List.length_map, List.length_take] at a1
          omega
        have im8 : D.imm.imms (part2 ys zs f i ++ ((zs y).take (j + 1)).map (f y)) = true := by
          rw [tk, ← List.append_assoc, imms_app, im5]
          show (true && (f y z).imm && true) = true
          rw [imd]
          rfl
        refine ⟨acc, hD, lim, ⟨Ex.opened x7 (up.wide fun _ z => .inr z) nD, im8, M.ext _ _ (fun a => a = D0) w7 (fun a z d => nd (z ▸ d)) up, acc ++ [v], upd_same, ?_⟩, ((e5.trans e6.pure).trans e7).trans (up.wide fun _ z => .inr z)⟩
        rw [tk, ← List.append_assoc]
        exact (Iss.imm (S := NoA) up im5 is7).append (.cons (i7.imm up imd) .nil)
      · rintro H5 ⟨kn5, e5⟩
        rw [List.take_length, ← part2_next hyi] at kn5
        exact ⟨kn5, xo4.trans e5⟩
    · rintro H' ⟨⟨x, im, w', acc, hD, is'⟩, _⟩
      have e : part2 ys zs f ys.length = ys.flatMap fun y => (zs y).map (f y) := by
        unfold part2
        rw [List.take_length]
      rw [e] at im is'
      exact k _ _ H' rfl (e1.trans x) w' (.lst hD nS (is'.imm (Ex.refl (B := NoA) H') im))
end

/-! ## 24. iterations over things of one kind -/
section
variable {α β : Type} {X : Cx} {M : Md} {ds : List (Option D)} {tg iter a b e e2 : Expr} {p pos tpos : Pos} {elts : List Expr} {kk : Nat}
theorem BI.is {ys zs : List D} (h : BIE X M ds tg iter ys) (e : ys = zs) : BIE X M ds tg iter zs := by rw [← e]; exact h
theorem bie_lst {es : List D} (h : BE X M ds iter (.lst es)) : BIE X M ds tg iter es := bi_lst (h.imp fun _ q => ⟨es, q, rfl⟩)
theorem bie_tup {es : List D} (h : BE X M ds iter (.tup es)) : BIE X M ds tg iter es := bi_tup (h.imp fun _ q => ⟨es, q, rfl⟩)
def natD (n : Nat) : D := .int n
theorem rngD_nat (lo n : Nat) : rngD lo n = (List.range' lo n).map natD := by
  unfold rngD
  rw [List.range'_eq_map_range, List.map_map]
  rfl
theorem bie_rng1 {n : Nat} (hm : X.mg "range" = none) (ha : BE X M ds a (.int n)) (hn : n < 2 ^ 62 := by omega) (hg : Gl X "range" := by rfl) (he : starEach [a] X.env = (false, eval a X.env) :: starEach [] X.env := by rfl) (hs : starEach [a] X.env = [(false, eval a X.env)] := by rfl) :
    BIE X M ds tg (.Call (.Name "range" p) [a] [] pos) ((List.range n).map natD) :=
  (bi_range1 (N := fun i => i = n) hm (ha.imp fun _ q => ⟨n, q, rfl⟩) (fun i q => by omega) hg he hs).imp fun y ⟨i, q, e⟩ => by
    subst q
    rw [e, Int.toNat_natCast, show (0 : Int) = ((0 : Nat) : Int) from rfl, rngD_nat, List.range_eq_range']
theorem bie_rng2 {lo hi : Nat} (hm : X.mg "range" = none) (ha : BE X M ds a (.int lo)) (hb : BE X M ds b (.int hi)) (hl : lo < 2 ^ 62 := by omega) (hh : hi < 2 ^ 62 := by omega) (hg : Gl X "range" := by rfl) (he : starEach [a, b] X.env = (false, eval a X.env) :: starEach [b] X.env := by rfl) (he2 : starEach [b] X.env = (false, eval b X.env) :: starEach [] X.env := by rfl)
    (hs : starEach [a, b] X.env = [(false, eval a X.env), (false, eval b X.env)] := by rfl) (hs2 : starEach [b] X.env = [(false, eval b X.env)] := by rfl) : BIE X M ds tg (.Call (.Name "range" p) [a, b] [] pos) ((List.range' lo (hi - lo)).map natD) :=
  (bi_range2 hm ha hb (by omega) hg he he2 hs hs2).imp fun y e => by
    rw [e, show ((hi : Int) - (lo : Int)).toNat = hi - lo by omega, rngD_nat]
theorem enumD_map (f : α → D) (l : List α) : enumD (l.map f) = l.zipIdx.map fun p => .tup [.int (p.2 : Nat), f p.1] := by
  unfold enumD
  rw [List.zipIdx_map, List.map_map]
  rfl
theorem bie_enum {f : α → D} {l : List α} (hm : X.mg "enumerate" = none) (ha : BE X M ds e (.tup (l.map f))) (hg : Gl X "enumerate" := by rfl) (he : starEach [e] X.env = (false, eval e X.env) :: starEach [] X.env := by rfl) (hs : starEach [e] X.env = [(false, eval e X.env)] := by rfl) :
    BIE X M ds (.Tuple elts kk tpos) (.Call (.Name "enumerate" p) [e] [] pos) (l.zipIdx.map fun p => .tup [.int (p.2 : Nat), f p.1]) := (bi_enum hm ha hg he hs).is (enumD_map f l)
theorem zipD_map (f : α → D) (g : β → D) : ∀ (l : List α) (m : List β), zipD (l.map f) (m.map g) = (l.zip m).map fun p => .tup [f p.1, g p.2]
  | [], _ => rfl
  | _ :: _, [] => rfl
  | x :: l, y :: m => congrArg (D.tup [f x, g y] :: ·) (zipD_map f g l m)
theorem bie_zip {f : α → D} {g : β → D} {l : List α} {m : List β} (hm : X.mg "zip" = none) (ha : BE X M ds e (.tup (l.map f))) (hb : BE X M ds e2 (.tup (m.map g))) (hg : Gl X "zip" := by rfl) (he : starEach [e, e2] X.env = (false, eval e X.env) :: starEach [e2] X.env := by rfl) (he2 : starEach [e2] X.env = (false, eval e2 X.env) :: starEach [] X.env := by rfl)
    (hpl : (backTo pos (starEach [e2] X.env)).any (·.1) = false := by rfl) : BIE X M ds (.Tuple elts kk tpos) (.Call (.Name "zip" p) [e, e2] [] pos) ((l.zip m).map fun p => .tup [f p.1, g p.2]) := (bi_zip hm ha hb hg he he2 hpl).is (zipD_map f g l m)
/-- a comprehension without a condition -/
theorem be_map {elt tg iter : Expr} {scope : Scope} {own : List (Str × Nat)} {φ f : α → D} {ys : List α} {is : List Nat} {g : α → List (Option D)} (L : Lc X M ds elt tg [] scope own φ (fun y => y ∈ ys) is g (fun _ => true) fun y d => d = f y) (hi : BIE X M ds tg iter (ys.map φ)) (hz : ys.length ≤ sizeLine) (hs : ∀ x, foldedSetIterable iter X.env x = pure x := by intro _; rfl) :
    BE X M ds (.ListComp elt [⟨tg, iter, [], 0⟩] scope pos) (.lst (ys.map f)) :=
  (be_lc L hi hz hs).is (by rw [List.filter_eq_self.mpr fun _ _ => rfl])
theorem be_allM {ys : List α} {t : α → Bool} (hc : X.calm = true) (hm : X.mg "all" = none) (ha : BE X M ds e (.lst (ys.map fun y => .bl (t y)))) (hg : Gl X "all" := by rfl) (he : starEach [e] X.env = (false, eval e X.env) :: starEach [] X.env := by rfl) (hpl : (backTo pos (starEach [] X.env)).any (·.1) = false := by rfl) :
    BE X M ds (.Call (.Name "all" p) [e] [] pos) (.bl (ys.all t)) :=
  (be_all (bs := ys.map t) hc hm (ha.is (by rw [List.map_map]; rfl)) hg he hpl).is (by rw [List.all_map]; rfl)
theorem be_anyM {ys : List α} {t : α → Bool} (hc : X.calm = true) (hm : X.mg "any" = none) (ha : BE X M ds e (.lst (ys.map fun y => .bl (t y)))) (hg : Gl X "any" := by rfl) (he : starEach [e] X.env = (false, eval e X.env) :: starEach [] X.env := by rfl) (hpl : (backTo pos (starEach [] X.env)).any (·.1) = false := by rfl) :
    BE X M ds (.Call (.Name "any" p) [e] [] pos) (.bl (ys.any t)) :=
  (be_any (bs := ys.map t) hc hm (ha.is (by rw [List.map_map]; rfl)) hg he hpl).is (by rw [List.any_map]; rfl)
/-- < of data -/
def dlt (a b : D) : Bool := PySem.W.dataLt a.py b.py
def rLtQ (K : PySem.W.Frag) (S : Addr → Prop) : R2 := fun x y H Q => ∃ d e, Is K S H x d ∧ Is K S H y e ∧ d.ok = true ∧ e.ok = true ∧ PySem.W.alike d.py e.py = true ∧ d.py ≠ .none ∧ min d.dep e.dep ≤ 60 ∧ Q (.bl (dlt d e)) H
theorem op_ltQ {S : Addr → Prop} (hu : X.A.units + 64 < cLine) : OpR X (compareOp .Lt) (rLtQ X.K S) := by
  rintro pins s σ H x y v u Q I rx ry ⟨d, e, hd, he, sd, se, al, nn, hm, q⟩
  obtain ⟨as, r1⟩ := Dp.reads I d.py x v (hd.dp sd) rx
  obtain ⟨bs, r2⟩ := Dp.reads I e.py y u (he.dp se) ry
  have := PySem.W.rcLt_alike d.py e.py X.A s v u as bs r1 r2 al nn (by unfold D.dep at hm; omega) X.prog X.w X.xe (EP X pins σ Q) ⟨.bl _, H, I, rfl, q⟩
  exact this
theorem be_ltD {x y : D} (hu : X.A.units + 64 < cLine) (ha : BE X M ds a x) (hb : BE X M ds b y) (hx : x.ok = true) (hy : y.ok = true) (al : PySem.W.alike x.py y.py = true) (nn : x.py ≠ .none) (hm : x.dep ≤ 60) : BE X M ds (.Compare a [.Lt] [b] pos) (.bl (dlt x y)) :=
  be_cmp (op_ltQ (S := M.S) hu) (nomark _) ha hb (Op2.pure fun v u H Q i1 i2 k => ⟨x, y, i1, i2, hx, hy, al, nn, Nat.le_trans (Nat.min_le_left _ _) hm, k _ _ rfl (.bl _)⟩)
end
end K23

-- text C0
set_option Elab.async false
set_option linter.all false
set_option maxRecDepth 100000
set_option maxHeartbeats 2000000
namespace K23
open PySem PySem.Spec PyProof.Rows L2

/-! ## 21. things that stand as data, can be compared and sorted -/
structure Kd {α : Type} (f : α → D) : Prop where
  inj : ∀ a b, f a = f b → a = b
  nb : ∀ a, (f a).nb = true
  im : ∀ a, (f a).imm = true
  ok : ∀ a, (f a).ok = true
  dp : ∀ a, (f a).dep ≤ 60
  al : ∀ a b, PySem.W.alike (f a).py (f b).py = true
  so : (∀ a, ∃ x r, (f a).py = .tuple (x :: r)) ∨ (∀ a, (f a).py ≠ .none ∧ ∀ xs, (f a).py ≠ .tuple xs)
def srt {α : Type} (f : α → D) (l : List α) : List α := l.mergeSort fun a b => dle (f a) (f b)
theorem dle_eq (a b : D) : dle a b = !dlt b a := rfl
section
variable {α : Type} {f : α → D}
theorem sortD_map (f : α → D) (l : List α) : sortD (l.map f) = (srt f l).map f :=
  (PySem.W.sort_maps (r := fun a b => dle (f a) (f b)) (s := dle) f (l := l) fun _ _ _ _ => rfl).symm
theorem Kd.sortd (k : Kd f) (l : List α) : Sortd (l.map f) where
  ok := fun d hd => by obtain ⟨a, _, rfl⟩ := List.mem_map.mp hd; exact k.ok a
  al := by rw [List.map_map]; exact PySem.W.AllAlike.of fun a b => k.al a b
  so := by
    rw [List.map_map]
    rcases k.so with h | h
    · exact PySem.W.Sortable.tuples fun a => h a
    · exact PySem.W.Sortable.others fun a => h a
  dp := fun d hd => by obtain ⟨a, _, rfl⟩ := List.mem_map.mp hd; exact k.dp a
theorem dle_trans (a b c : D) (h : dle a b = true) (k : dle b c = true) : dle a c = true := by
  simp only [dle_eq, dlt, Bool.not_eq_true'] at *
  by_cases e : PySem.W.dataLt a.py b.py = true
  · cases q : PySem.W.dataLt c.py a.py with
    | false => rfl
    | true => rw [show PySem.W.dataLt c.py b.py = true from PyProof.Rows.lex_trans _ _ _ q e] at k; cases k
  · have z : PySem.W.keyToks a.py = PySem.W.keyToks b.py := PyProof.Rows.lex_total _ _ (Bool.eq_false_iff.mpr e) h
    unfold PySem.W.dataLt at *
    rw [z]
    exact k
theorem dle_total (a b : D) : (dle a b || dle b a) = true := by
  simp only [dle_eq, dlt]
  cases h : PySem.W.dataLt b.py a.py with
  | false => rfl
  | true =>
    cases k : PySem.W.dataLt a.py b.py with
    | false => rfl
    | true =>
      have := PyProof.Rows.lex_trans _ _ _ h k
      rw [PyProof.Rows.lex_irrefl] at this
      cases this
theorem lex_last (t : List (Int ⊕ List Nat)) : PyProof.Rows.lexLt PyProof.Rows.itemOrd (t ++ [.inl 0]) (t ++ [.inl 1]) = true := by
  rw [PySem.W.lex_pre]
  rfl
theorem Kd.anti (k : Kd f) (a b : α) (h : dle (f a) (f b) = true) (g : dle (f b) (f a) = true) : a = b := by
  simp only [dle_eq, dlt, Bool.not_eq_true'] at h g
  have z : PySem.W.keyToks (f a).py = PySem.W.keyToks (f b).py := PyProof.Rows.lex_total _ _ g h
  cases q : D.eqv (f a) (f b) with
  | true => exact k.inj a b ((eqv_nb _ _ (k.nb a) (k.nb b)).mp q)
  | false =>
    have t := (PySem.W.toks_eqv (f a).py (f b).py (k.al a b)).2 q [.inl 0] [.inl 1]
    rw [z, lex_last, PyProof.Rows.lex_irrefl] at t
    cases t
theorem srt_perm (f : α → D) (l : List α) : (srt f l).Perm l := List.mergeSort_perm l _
theorem srt_sorted (f : α → D) (l : List α) : (srt f l).Pairwise fun a b => dle (f a) (f b) = true :=
  List.pairwise_mergeSort (le := fun a b => dle (f a) (f b)) (fun a b c h k => dle_trans _ _ _ h k) (fun a b => dle_total _ _) l
theorem srt_len (f : α → D) (l : List α) : (srt f l).length = l.length := (srt_perm f l).length_eq
theorem srt_mem {l : List α} {a : α} : a ∈ srt f l ↔ a ∈ l := (srt_perm f l).mem_iff
theorem srt_nodup {l : List α} (h : l.Nodup) : (srt f l).Nodup := (srt_perm f l).nodup_iff.mpr h
theorem Kd.uniq (k : Kd f) : ∀ {l m : List α}, l.Perm m → l.Pairwise (fun a b => dle (f a) (f b) = true) → m.Pairwise (fun a b => dle (f a) (f b) = true) → l = m
  | [], m, p, _, _ => (List.nil_perm.mp p).symm
  | x :: l, [], p, _, _ => absurd p.length_eq (by simp)
  | x :: l, y :: m, p, hl, hm => by
    have e : x = y := by
      have hx : x ∈ y :: m := p.mem_iff.mp List.mem_cons_self
      have hy : y ∈ x :: l := p.mem_iff.mpr List.mem_cons_self
      rcases List.mem_cons.mp hx with e | hx
      · exact e
      rcases List.mem_cons.mp hy with e | hy
      · exact e.symm
      exact k.anti x y ((List.pairwise_cons.mp hl).1 y hy) ((List.pairwise_cons.mp hm).1 x hx)
    subst e
    rw [k.uniq (List.Perm.cons_inv p) (List.pairwise_cons.mp hl).2 (List.pairwise_cons.mp hm).2]
theorem Kd.srt_eq (k : Kd f) {l m : List α} (p : l.Perm m) : srt f l = srt f m :=
  k.uniq (((srt_perm f l).trans p).trans (srt_perm f m).symm) (srt_sorted f l) (srt_sorted f m)
/-- in strict order -/
def Up (f : α → D) (l : List α) : Prop := l.Pairwise fun a b => dlt (f a) (f b) = true
theorem Kd.lt_of (k : Kd f) {a b : α} (h : dle (f a) (f b) = true) (n : a ≠ b) : dlt (f a) (f b) = true := by
  cases q : dlt (f a) (f b) with
  | true => rfl
  | false => exact absurd (k.anti a b h (by rw [dle_eq, q]; rfl)) n
theorem le_of_lt {a b : D} (h : dlt a b = true) : dle a b = true := by
  rw [dle_eq]
  cases q : dlt b a with
  | false => rfl
  | true =>
    have := PyProof.Rows.lex_trans _ _ _ h q
    rw [PyProof.Rows.lex_irrefl] at this
    cases this
theorem dlt_irrefl (a : D) : dlt a a = false := PyProof.Rows.lex_irrefl _
theorem dlt_trans {a b c : D} (h : dlt a b = true) (k : dlt b c = true) : dlt a c = true := PyProof.Rows.lex_trans _ _ _ h k
theorem Kd.up (k : Kd f) {l : List α} (h : l.Nodup) : Up f (srt f l) :=
  ((srt_sorted f l).and (srt_nodup (f := f) h)).imp fun ⟨a, b⟩ => k.lt_of a b
theorem Up.nodup {l : List α} (h : Up f l) : l.Nodup := h.imp fun {a b} q e => by
  subst e
  rw [dlt_irrefl] at q
  cases q
theorem Kd.srt_id (k : Kd f) {l : List α} (h : Up f l) : srt f l = l :=
  k.uniq (srt_perm f l) (srt_sorted f l) (h.imp le_of_lt)
/-- two rows in strict order with the same members are the same -/
theorem Kd.up_eq (k : Kd f) {l m : List α} (h : Up f l) (g : Up f m) (e : ∀ a, a ∈ l ↔ a ∈ m) : l = m :=
  k.uniq ((List.perm_ext_iff_of_nodup h.nodup g.nodup).mpr e) (h.imp le_of_lt) (g.imp le_of_lt)
end

/-! ## 22. the things of the program -/
def WORDS : List Str := ["", "able", "unable", "timer", "each", "some", "keep", "drop", "kept", "dropped", "ask", "yes", "no", "what", "go", "a", "b", "m", "one", "two", "three", "leader", "members", "others", "rule", "hear", "force", "fall", "up"]
theorem words_ok : (WORDS.all fun z => PyData.strOk z) = true := by decide +kernel
/-- a word that the protocols use -/
structure Wd where
  s : Str
  ok : s ∈ WORDS
theorem Wd.ext {a b : Wd} (h : a.s = b.s) : a = b := by cases a; cases b; cases h; rfl
instance : DecidableEq Wd := fun a b => if h : a.s = b.s then isTrue (Wd.ext h) else isFalse fun e => h (by rw [e])
instance {a : Wd} : SOk a.s := ⟨List.all_eq_true.mp words_ok _ a.ok⟩
instance : SOk "" := ⟨by decide +kernel⟩
instance : SOk "able" := ⟨by decide +kernel⟩
instance : SOk "each" := ⟨by decide +kernel⟩
instance : SOk "some" := ⟨by decide +kernel⟩
instance : SOk "unable" := ⟨by decide +kernel⟩
instance : SOk "timer" := ⟨by decide +kernel⟩
instance : SOk "leader" := ⟨by decide +kernel⟩
instance : SOk "members" := ⟨by decide +kernel⟩
instance : SOk "others" := ⟨by decide +kernel⟩
instance : SOk "rule" := ⟨by decide +kernel⟩
instance : SOk "hear" := ⟨by decide +kernel⟩
instance : SOk "force" := ⟨by decide +kernel⟩
instance : SOk "fall" := ⟨by decide +kernel⟩
instance : SOk "up" := ⟨by decide +kernel⟩
instance : SOk "kept" := ⟨by decide +kernel⟩
instance : SOk "dropped" := ⟨by decide +kernel⟩
instance : SOk "oneround" := ⟨by decide +kernel⟩
instance : SOk "lazy" := ⟨by decide +kernel⟩
def Wd.d (a : Wd) : D := .str a.s
abbrev wd (s : Str) (h : s ∈ WORDS := by decide +kernel) : Wd := ⟨s, h⟩
inductive Cause where
  | able | unable | timer | some (k : Wd) | each (k : Wd)
deriving DecidableEq
def Cause.items : Cause → List D
  | .able => [.str "able"]
  | .unable => [.str "unable"]
  | .timer => [.str "timer"]
  | .some k => [.str "some", .str k.s]
  | .each k => [.str "each", .str k.s]
def Cause.d (c : Cause) : D := .tup c.items
/-- a letter that a rule sends: its kind, whom to -/
abbrev Sd := Wd × Wd
def sdD (p : Sd) : D := .tup [.str p.1.s, .str p.2.s]
structure Rule where
  cause : Cause
  mark : Wd
  forced : Bool
  sends : List Sd
  goes : Nat
deriving DecidableEq
def Rule.d (r : Rule) : D := .tup [r.cause.d, .str r.mark.s, .bl r.forced, .tup (r.sends.map sdD), .int r.goes]
structure State where
  fin : Wd
  rules : List Rule
deriving DecidableEq
def State.d (s : State) : D := .tup [.str s.fin.s, .tup (s.rules.map Rule.d)]
abbrev UpP := Wd × Nat
def upD (p : UpP) : D := .tup [.str p.1.s, .int p.2]
structure Role where
  states : List State
  ups : List UpP
deriving DecidableEq
def Role.d (r : Role) : D := .tup [.tup (r.states.map State.d), .tup (r.ups.map upD)]
structure Proto where
  leader : Role
  member : Role
deriving DecidableEq
def Proto.d (p : Proto) : D := .tup [p.leader.d, p.member.d]
/-- a number, or -1 -/
def onI : Option Nat → Int
  | none => -1
  | some n => n
def onD (o : Option Nat) : D := .int (onI o)
/-- what a house has heard: from whom, of which kind -/
abbrev Hd := Nat × Wd
def hdD (p : Hd) : D := .tup [.int p.1, .str p.2.s]
structure House where
  state : Option Nat
  heard : List Hd
  log : List Wd
  forced : Nat
  able : Bool
  said : Option Nat
  whole : Bool
  told : List Wd
deriving DecidableEq
def House.d (h : House) : D := .tup [onD h.state, .tup (h.heard.map hdD), .tup (h.log.map Wd.d), .int h.forced, .bl h.able, onD h.said, .bl h.whole, .tup (h.told.map Wd.d)]
/-- from whom, to whom, of which kind -/
structure Letter where
  src : Nat
  dst : Nat
  kind : Wd
deriving DecidableEq
def Letter.d (l : Letter) : D := .tup [.int l.src, .int l.dst, .str l.kind.s]
structure Standing where
  houses : List House
  sent : List Letter
deriving DecidableEq
def Standing.d (s : Standing) : D := .tup [.tup (s.houses.map House.d), .tup (s.sent.map Letter.d)]
inductive Step where
  | rule (h r : Nat) | hear (h src : Nat) (kind : Wd) | force (h : Nat) | fall (h left : Nat) | up (h : Nat)
deriving DecidableEq
def Step.items : Step → List D
  | .rule h r => [.str "rule", .int h, .int r]
  | .hear h g k => [.str "hear", .int h, .int g, .str k.s]
  | .force h => [.str "force", .int h]
  | .fall h l => [.str "fall", .int h, .int l]
  | .up h => [.str "up", .int h]
def Step.d (s : Step) : D := .tup s.items
def Step.h : Step → Nat
  | .rule h _ | .hear h _ _ | .force h | .fall h _ | .up h => h
instance {a : Wd} : Gd a.d 0 := inferInstanceAs (Gd (.str a.s) 0)
instance {c : Cause} : Gd c.d 1 := match c with
  | .able => inferInstanceAs (Gd (.tup [.str "able"]) 1)
  | .unable => inferInstanceAs (Gd (.tup [.str "unable"]) 1)
  | .timer => inferInstanceAs (Gd (.tup [.str "timer"]) 1)
  | .some k => inferInstanceAs (Gd (.tup [.str "some", .str k.s]) 1)
  | .each k => inferInstanceAs (Gd (.tup [.str "each", .str k.s]) 1)
instance {p : Sd} : Gd (sdD p) 1 := inferInstanceAs (Gd (.tup [.str p.1.s, .str p.2.s]) 1)
instance {p : UpP} : Gd (upD p) 1 := inferInstanceAs (Gd (.tup [.str p.1.s, .int p.2]) 1)
instance {p : Hd} : Gd (hdD p) 1 := inferInstanceAs (Gd (.tup [.int p.1, .str p.2.s]) 1)
instance {p : Letter} : Gd p.d 1 := inferInstanceAs (Gd (.tup [.int p.src, .int p.dst, .str p.kind.s]) 1)
instance {o : Option Nat} : Gd (onD o) 0 := by
  cases o <;> exact ⟨rfl, Nat.le_refl _⟩
instance {r : Rule} : Gd r.d 3 := ⟨(inferInstance : Gd (.tup [r.cause.d, .str r.mark.s, .bl r.forced, .tup (r.sends.map sdD), .int r.goes]) _).ok, (inferInstance : Gd (.tup [r.cause.d, .str r.mark.s, .bl r.forced, .tup (r.sends.map sdD), .int r.goes]) _).dp⟩
instance {r : State} : Gd r.d 5 := ⟨(inferInstance : Gd (.tup [.str r.fin.s, .tup (r.rules.map Rule.d)]) _).ok, (inferInstance : Gd (.tup [.str r.fin.s, .tup (r.rules.map Rule.d)]) _).dp⟩
instance {r : Role} : Gd r.d 7 := ⟨(inferInstance : Gd (.tup [.tup (r.states.map State.d), .tup (r.ups.map upD)]) _).ok, (inferInstance : Gd (.tup [.tup (r.states.map State.d), .tup (r.ups.map upD)]) _).dp⟩
instance {p : Proto} : Gd p.d 8 := inferInstanceAs (Gd (.tup [p.leader.d, p.member.d]) 8)
instance {h : House} : Gd h.d 3 := ⟨(inferInstance : Gd (.tup [onD h.state, .tup (h.heard.map hdD), .tup (h.log.map Wd.d), .int h.forced, .bl h.able, onD h.said, .bl h.whole, .tup (h.told.map Wd.d)]) _).ok, (inferInstance : Gd (.tup [onD h.state, .tup (h.heard.map hdD), .tup (h.log.map Wd.d), .int h.forced, .bl h.able, onD h.said, .bl h.whole, .tup (h.told.map Wd.d)]) _).dp⟩
instance {s : Standing} : Gd s.d 5 := ⟨(inferInstance : Gd (.tup [.tup (s.houses.map House.d), .tup (s.sent.map Letter.d)]) _).ok, (inferInstance : Gd (.tup [.tup (s.houses.map House.d), .tup (s.sent.map Letter.d)]) _).dp⟩
instance {s : Step} : Gd s.d 1 := match s with
  | .rule h r => inferInstanceAs (Gd (.tup [.str "rule", .int h, .int r]) 1)
  | .hear h g k => inferInstanceAs (Gd (.tup [.str "hear", .int h, .int g, .str k.s]) 1)
  | .force h => inferInstanceAs (Gd (.tup [.str "force", .int h]) 1)
  | .fall h l => inferInstanceAs (Gd (.tup [.str "fall", .int h, .int l]) 1)
  | .up h => inferInstanceAs (Gd (.tup [.str "up", .int h]) 1)
instance {a : Wd} : Im a.d := ⟨rfl⟩
instance {c : Cause} : Im c.d := by cases c <;> exact ⟨rfl⟩
instance {p : Sd} : Im (sdD p) := ⟨rfl⟩
instance {p : UpP} : Im (upD p) := ⟨rfl⟩
instance {p : Hd} : Im (hdD p) := ⟨rfl⟩
instance {p : Letter} : Im p.d := ⟨rfl⟩
instance {o : Option Nat} : Im (onD o) := by cases o <;> exact ⟨rfl⟩
instance {r : Rule} : Im r.d := inferInstanceAs (Im (.tup [r.cause.d, .str r.mark.s, .bl r.forced, .tup (r.sends.map sdD), .int r.goes]))
instance {r : State} : Im r.d := inferInstanceAs (Im (.tup [.str r.fin.s, .tup (r.rules.map Rule.d)]))
instance {r : Role} : Im r.d := inferInstanceAs (Im (.tup [.tup (r.states.map State.d), .tup (r.ups.map upD)]))
instance {p : Proto} : Im p.d := inferInstanceAs (Im (.tup [p.leader.d, p.member.d]))
instance {h : House} : Im h.d := inferInstanceAs (Im (.tup [onD h.state, .tup (h.heard.map hdD), .tup (h.log.map Wd.d), .int h.forced, .bl h.able, onD h.said, .bl h.whole, .tup (h.told.map Wd.d)]))
instance {s : Standing} : Im s.d := inferInstanceAs (Im (.tup [.tup (s.houses.map House.d), .tup (s.sent.map Letter.d)]))
instance {s : Step} : Im s.d := by cases s <;> exact ⟨rfl⟩
theorem nat_int {a b : Nat} (h : D.int a = D.int b) : a = b := by
  have := D.int.inj h
  omega
theorem kdW : Kd Wd.d where
  inj := fun a b h => Wd.ext (D.str.inj h)
  nb := fun _ => rfl
  im := fun _ => rfl
  ok := fun a => Gd.k
  dp := fun a => Gd.d
  al := fun a b => by simp [Wd.d, D.py, PySem.W.alike]
  so := .inr fun a => ⟨(fun h => nomatch h), fun _ h => nomatch h⟩
theorem kdH : Kd hdD where
  inj := fun ⟨a, k⟩ ⟨b, m⟩ h => by
    simp only [hdD, D.tup.injEq, List.cons.injEq, D.int.injEq, D.str.injEq, and_true] at h
    rw [show a = b by omega, Wd.ext h.2]
  nb := fun _ => rfl
  im := fun _ => rfl
  ok := fun a => Gd.k
  dp := fun a => Gd.d
  al := fun a b => by simp [hdD, D.py, D.py.pys, PySem.W.alike, PySem.W.alikeAll]
  so := .inl fun a => ⟨_, _, rfl⟩
theorem kdL : Kd Letter.d where
  inj := fun ⟨a, k, x⟩ ⟨b, m, y⟩ h => by
    simp only [Letter.d, D.tup.injEq, List.cons.injEq, D.int.injEq, D.str.injEq, and_true] at h
    rw [show a = b by omega, show k = m by omega, Wd.ext h.2.2]
  nb := fun _ => rfl
  im := fun _ => rfl
  ok := fun a => Gd.k
  dp := fun a => Gd.d
  al := fun a b => by simp [Letter.d, D.py, D.py.pys, PySem.W.alike, PySem.W.alikeAll]
  so := .inl fun a => ⟨_, _, rfl⟩
theorem kdS : Kd Step.d where
  inj := fun a b h => by
    cases a <;> cases b <;> simp only [Step.d, Step.items, D.tup.injEq, List.cons.injEq, D.int.injEq, D.str.injEq, and_true, List.cons_ne_nil, false_and, and_false] at h <;> first
      | (exact absurd h.1 (by decide))
      | (obtain ⟨_, h1, h2, h3⟩ := h; rw [Step.hear.injEq]; exact ⟨by omega, by omega, Wd.ext h3⟩)
      | (obtain ⟨_, h1, h2⟩ := h; simp only [Step.rule.injEq, Step.fall.injEq]; omega)
      | (obtain ⟨_, h1⟩ := h; simp only [Step.force.injEq, Step.up.injEq]; omega)
  nb := fun a => by cases a <;> rfl
  im := fun a => by cases a <;> rfl
  ok := fun a => Gd.k
  dp := fun a => Gd.d
  al := fun a b => by cases a <;> cases b <;> simp [Step.d, Step.items, D.py, D.py.pys, PySem.W.alike, PySem.W.alikeAll]
  so := .inl fun a => by cases a <;> exact ⟨_, _, rfl⟩
theorem imm_map {α : Type} {f : α → D} (h : ∀ a, (f a).imm = true) (l : List α) : D.imm.imms (l.map f) = true := by
  rw [imms_all, List.all_map]
  exact List.all_eq_true.mpr fun a _ => h a
end K23

-- text A14
set_option Elab.async false
set_option linter.all false
set_option maxRecDepth 100000
set_option maxHeartbeats 2000000
namespace K23
open PySem PySem.Spec PyProof.Rows L2

/-! ## 25. dicts: their keys in the order of coming -/
section
variable {α : Type} [DecidableEq α]
def addD (l : List α) (x : α) : List α := if x ∈ l then l else l ++ [x]
def dd (l : List α) : List α := l.foldl addD []
theorem dd_snoc (l : List α) (x : α) : dd (l ++ [x]) = addD (dd l) x := by
  unfold dd
  rw [List.foldl_append]
  rfl
theorem addD_mem {l : List α} {x y : α} : y ∈ addD l x ↔ y ∈ l ∨ y = x := by
  unfold addD
  by_cases h : x ∈ l
  · rw [if_pos h]
    exact ⟨.inl, fun z => z.elim id fun z => z ▸ h⟩
  · rw [if_neg h]
    simp
theorem addD_nodup {l : List α} (h : l.Nodup) (x : α) : (addD l x).Nodup := by
  unfold addD
  by_cases q : x ∈ l
  · rw [if_pos q]
    exact h
  · rw [if_neg q]
    exact List.nodup_append.mpr ⟨h, by simp, fun a ha b hb => by rw [List.mem_singleton.mp hb]; exact fun z => q (z ▸ ha)⟩
theorem dd_foldl : ∀ (l acc : List α), acc.Nodup → (l.foldl addD acc).Nodup ∧ ∀ y, y ∈ l.foldl addD acc ↔ y ∈ acc ∨ y ∈ l
  | [], acc, h => ⟨h, fun y => by simp⟩
  | x :: l, acc, h => by
    obtain ⟨a, b⟩ := dd_foldl l (addD acc x) (addD_nodup h x)
    refine ⟨a, fun y => ?_⟩
    rw [List.foldl_cons, b, addD_mem, List.mem_cons, or_assoc]
theorem dd_nodup (l : List α) : (dd l).Nodup := (dd_foldl l [] List.nodup_nil).1
theorem dd_mem {l : List α} {y : α} : y ∈ dd l ↔ y ∈ l := by
  unfold dd
  rw [(dd_foldl l [] List.nodup_nil).2]
  simp
theorem addD_len (l : List α) (x : α) : (addD l x).length ≤ l.length + 1 := by
  unfold addD
  split
  · omega
  · simp
theorem dd_len_foldl : ∀ (l acc : List α), (l.foldl addD acc).length ≤ acc.length + l.length
  | [], acc => by simp
  | x :: l, acc => by
    have a := dd_len_foldl l (addD acc x)
    have b := addD_len acc x
    simp only [List.foldl_cons, List.length_cons]
    omega
theorem dd_len (l : List α) : (dd l).length ≤ l.length := by
  have := dd_len_foldl l []
  simpa [dd] using this
theorem dd_id {l : List α} (h : l.Nodup) : dd l = l := by
  have key : ∀ (l acc : List α), (acc ++ l).Nodup → l.foldl addD acc = acc ++ l := by
    intro l
    induction l with
    | nil => intro acc _; simp
    | cons x l ih =>
      intro acc h
      have n : x ∉ acc := fun z => by
        have := (List.nodup_append.mp h).2.2 x z x List.mem_cons_self
        exact this rfl
      rw [List.foldl_cons, show addD acc x = acc ++ [x] from if_neg n, ih _ (by simpa using h)]
      simp
  simpa [dd] using key l [] (by simpa using h)
theorem dd_map {β : Type} [DecidableEq β] {f : α → β} (inj : ∀ a b, f a = f b → a = b) : ∀ l : List α, dd (l.map f) = (dd l).map f := by
  have key : ∀ (l acc : List α), (l.map f).foldl addD (acc.map f) = (l.foldl addD acc).map f := by
    intro l
    induction l with
    | nil => intro acc; rfl
    | cons x l ih =>
      intro acc
      have e : addD (acc.map f) (f x) = (addD acc x).map f := by
        unfold addD
        by_cases h : x ∈ acc
        · rw [if_pos h, if_pos (List.mem_map_of_mem h)]
        · rw [if_neg h, if_neg (fun z => by
            obtain ⟨y, hy, e⟩ := List.mem_map.mp z
            exact h (inj _ _ e ▸ hy)), List.map_append]
          rfl
      rw [List.map_cons, List.foldl_cons, List.foldl_cons, e, ih]
  exact fun l => key l []
end
theorem putK_keys {κ : Type} [DecidableEq κ] (kvs : List (κ × V)) (k : κ) (v : V) : (putK kvs k v).map (·.1) = addD (kvs.map (·.1)) k := by
  unfold putK addD
  have e : (kvs.any fun kv => decide (kv.1 = k)) = true ↔ k ∈ kvs.map (·.1) := by
    rw [List.any_eq_true, List.mem_map]
    exact ⟨fun ⟨p, h, q⟩ => ⟨p, h, of_decide_eq_true q⟩, fun ⟨p, h, q⟩ => ⟨p, h, decide_eq_true q⟩⟩
  by_cases h : k ∈ kvs.map (·.1)
  · rw [if_pos h, if_pos (e.mpr h), List.map_map]
    apply List.map_congr_left
    intro p _
    show (if p.1 = k then (p.1, v) else p).1 = p.1
    split <;> rfl
  · rw [if_neg h, if_neg (fun z => h (e.mp z)), List.map_append]
    rfl
/-- a key as a datum -/
def keyD : Key → D
  | .inl i => .int i
  | .inr z => .str z
theorem Is.key {K : PySem.W.Frag} {S : Addr → Prop} {H : Hp} {v : V} {k : Key} (h : Is K S H v (keyD k)) : v = kV k := by
  cases k with
  | inl i => cases h; rfl
  | inr z => cases h; rfl
theorem Iss.keys {K : PySem.W.Frag} {S : Addr → Prop} {H : Hp} : ∀ {ks : List Key}, Iss K S H (ks.map kV) (ks.map keyD)
  | [] => .nil
  | .inl i :: ks => .cons (.int i) Iss.keys
  | .inr z :: ks => .cons (.str z) Iss.keys
/-- an expression gives a dict with these keys, which nobody else holds -/
def tBD (K : PySem.W.Frag) (M : Md) (ds : List (Option D)) (ks : List Key) : TE := fun σ H Q =>
  En K M.S H σ ds ∧ M.W H ∧ ∀ p kvs H', Ex M.S H H' → M.W H' → H' p = some (.dK kvs) → kvs.map (·.1) = ks → Q (.ref p) H'
structure BD (X : Cx) (M : Md) (ds : List (Option D)) (e : Expr) (ks : List Key) : Prop where
  pe : PE X e (tBD X.K M ds ks)
section
variable {X : Cx} {M : Md} {ds : List (Option D)} {e kx vx tg iter : Expr} {ifs : List Expr} {scope : Scope} {own : List (Str × Nat)} {p pos : Pos}
variable {α : Type} {φ : α → D} {is : List Nat} {g : α → List (Option D)} {keep : α → Bool} {ys : List α} {f : α → Key}
theorem filter_take_next {i : Nat} {y : α} (h : ys[i]? = some y) : (ys.take (i + 1)).filter keep = if keep y = true then (ys.take i).filter keep ++ [y] else (ys.take i).filter keep := by
  rw [List.take_succ, h, List.filter_append]
  cases q : keep y <;> simp [q]
theorem bd_dc (L : Lc X M ds kx tg ifs scope own φ (fun y => y ∈ ys) is g keep fun y d => d = keyD (f y)) (hv : ∀ y ∈ ys, ∀ X', Blk X X' scope → BP X' M (g y) vx fun _ => True) (hi : BIE X M ds tg iter (ys.map φ)) (hz : ys.length ≤ sizeLine) (hs : ∀ x, foldedSetIterable iter X.env x = pure x := by intro _; rfl) :
    BD X M ds (.DictComp kx vx [⟨tg, iter, ifs, 0⟩] scope pos) (dd ((ys.filter keep).map f)) := by
  let tv : TE := fun σ H Q => ∃ y, y ∈ ys ∧ tD X.K M (g y) (fun _ => True) σ H Q
  refine ⟨PE.imp (pe_dc (tv := tv) L.calm L.nd hi.pi L.ok L.pg L.pt L.pel (fun s H C cl fp => ⟨fun pins s' σ H' Q I ⟨y, hy, q⟩ => (hv y hy _ ⟨s, H, C, cl, fp, rfl⟩).pe.run pins s' σ H' Q I q⟩) hs) ?_⟩
  rintro σ H Q ⟨en, w, k⟩
  refine ⟨en, w, fun J H1 zs py e1 w1 wk z0 nD => ?_⟩
  subst py
  rw [List.length_map] at wk
  have nS : ¬ M.S z0 := Md.freeS w1 nD
  have nd : ¬ M.dep z0 := Md.free w1 nD
  have en1 := en.mono e1 fun _ z => z
  refine any_it wk _ (fun i H' => Ex M.S H1 H' ∧ M.W H' ∧ ∃ kvs, H' z0 = some (.dK kvs) ∧ kvs.map (·.1) = dd (((ys.take i).filter keep).map f)) ?_ (fun i H' _ p => p.1) ?_ ?_
  · exact ⟨Ex.new nD, Md.new w1 nD, [], upd_same, rfl⟩
  · rintro i x H' H2 hi' ⟨ex, w', kvs, hD, hk⟩ ⟨e2, y0, hyi0, isx⟩
    obtain ⟨y, hyi, rfl⟩ := getElem_map_some hyi0
    have hy : y ∈ ys := List.mem_of_getElem? hyi
    have w2 : M.W H2 := Md.pure w' e2
    have en2 : En X.K M.S H2 (wipe σ (own.map (·.2))) (wipeD ds (own.map (·.2))) := ((en1.mono ex fun _ z => z).mono (B := NoA) e2 fun _ z => z.elim).wipe _
    refine ⟨y, hy, en2, isx, fun σ2 en3 wp => ⟨by rw [wp _ L.sub, wipe_wipe], y, hy, en3, w2, fun b H3 pb e3 w3 => ?_⟩⟩
    subst pb
    have x3 : Ex M.S H1 H3 := (ex.trans e2.pure).trans e3
    have h3 : H3 z0 = some (.dK kvs) := e3.old z0 _ (e2.old z0 _ hD fun z => z) nS
    cases hkp : keep y with
    | false =>
      show Ex M.S H1 H3 ∧ _
      refine ⟨x3, w3, kvs, h3, ?_⟩
      rw [filter_take_next hyi, hkp, hk]
      rfl
    | true =>
      show teOf X.K M (fun y => y ∈ ys) g keep (fun y d => d = keyD (f y)) σ2 H3 _
      refine ⟨y, hy, hkp, en3.mono e3 fun _ z => z, w3, fun d v H4 pd e4 w4 i4 => ?_⟩
      subst pd
      refine ⟨y, hy, (en3.mono e3 fun _ z => z).mono e4 fun _ z => z, w4, fun d5 v5 H5 _ e5 w5 i5 => ?_⟩
      have h5 : H5 z0 = some (.dK kvs) := e5.old z0 _ (e4.old z0 _ h3 nS) nS
      have up : Ex (fun a => a = z0) H5 (upd H5 z0 (.dK (putK kvs (f y) v5))) := Ex.put h5 rfl (fun _ z => nomatch z) fun _ _ z => nomatch z
      have x5 : Ex M.S H1 H5 := (x3.trans e4).trans e5
      have lim : kvs.length < sizeLine := by
        have a1 := congrArg List.length hk
        have a2 := dd_len (((ys.take i).filter keep).map f)
        have a3 : ((ys.take i).filter keep).length ≤ (ys.take i).length := List.length_filter_le _ _
        rw [List.length_map] at a1 a2
        rw [List.length_take] at a3
        omega
      refine ⟨kvs, f y, i4.key, h5, lim, Ex.opened x5 (up.wide fun _ z => .inr z) nD, M.ext _ _ (fun a => a = z0) w5 (fun a z d => nd (z ▸ d)) up, _, upd_same, ?_⟩
      rw [putK_keys, hk, filter_take_next hyi, hkp, if_pos rfl, List.map_append]
      exact (dd_snoc _ _).symm
  · rintro H' ⟨ex, w', kvs, hD, hk⟩
    rw [List.take_length] at hk
    exact k z0 kvs H' (e1.trans ex) w' hD hk
/-- {} -/
theorem bd_new : BD X M ds (.Dict [] [] pos) [] := ⟨PE.imp pe_dnewK fun σ H Q ⟨en, w, k⟩ p np => k p [] _ (Ex.new np) (Md.new w np) upd_same rfl⟩
/-- sorted(d) -/
theorem sort_src {S : Addr → Prop} {T : String} {r d : Addr} {n : Nat} {Pv : Nat → Value → Prop} {OK : Heap → Prop} {pins : List (Addr × Obj)} {σ : L2.St} {H : Hp} {s : Shared} {Q : VK} {es : List D} (hu : X.A.units + 64 < cLine) (hc : X.calm = true) (Ks : PySem.W.KdlSrc X.prog X.w T r d n Pv OK) (I : Inv X pins σ H s) (hok : OK s.heap) (hn : n ≤ sizeLine)
    (hv : ∀ acc : Array Value, (acc.size = n ∧ ∀ j v, acc[j]? = some v → Pv j v) → ∃ vs, Vals vs acc.toList ∧ Iss X.K S H vs es) (so : Sortd es) (hL : es.length ≤ sizeLine) (q : ∀ p out, H p = none → Iss X.K S H out (sortD es) → Q (.ref p) (upd H p (.lst out))) :
    wpAny (model X.prog X.w) X.A (call (.builtin "sorted") [.ref r]) (EP X pins σ Q) X.xe s :=
  sorted_by (PySem.W.kdu_collect Ks (I.ok.hd hc) hok hn fun h' tk acc hk hacc => by
    obtain ⟨vs, rv, is⟩ := hv acc hacc
    exact sort_end hu (I.kept (t' := tk) hk) rv is so hL q)
def rSortDK (K : PySem.W.Frag) (S : Addr → Prop) : List V → Hp → VK → Prop := fun xs H Q => ∃ a kvs, xs = [.ref a] ∧ H a = some (.dK kvs) ∧ Sortd (kvs.map fun p => keyD p.1) ∧ ∀ p out, H p = none → Iss K S H out (sortD (kvs.map fun p => keyD p.1)) → Q (.ref p) (upd H p (.lst out))
theorem call_sortDK {S : Addr → Prop} (hu : X.A.units + 64 < cLine) (hc : X.calm = true) : CallR X (.builtin "sorted") (rSortDK X.K S) := by
  rintro pins s σ H xs us Q I r ⟨a, kvs, rfl, hd, so, q⟩
  obtain ⟨u, rfl, ru⟩ := vals1 r
  cases ru
  obtain ⟨z, lo, vs, rel, dd⟩ := dk_of I.hok hd
  obtain ⟨ep, hat⟩ := dd.dictAt
  have hl : kvs.length = vs.length := rel.length
  have hks : kvs.map (·.1) = vs.map (·.1) := rel.keys
  refine sort_src hu hc (PySem.W.kdl_dict (knd := mixKind X.prog X.w) (kvs := vs) (ep := ep) lo) I hat (by omega) (fun acc hacc => ⟨(kvs.map (·.1)).map kV, ?_, ?_⟩) so (by rw [List.length_map]; exact z) q
  · rw [hks, List.map_map]
    exact L2.keys_at (by rw [Array.length_toList, hacc.1]) fun j v e => by
      obtain ⟨k, x, e1, e2⟩ := hacc.2 j v (by rw [← Array.getElem?_toList]; exact e)
      exact ⟨k, x, e1, e2⟩
  · have := Iss.keys (K := X.K) (S := S) (H := H) (ks := kvs.map (·.1))
    have e : (kvs.map fun p => keyD p.1) = (kvs.map (·.1)).map keyD := by rw [List.map_map]; rfl
    rw [e]
    exact this
theorem be_sortedD {ks : List Key} (hu : X.A.units + 64 < cLine) (hc : X.calm = true) (hm : X.mg "sorted" = none) (hd : BD X M ds e ks) (so : Sortd (ks.map keyD)) (hg : Gl X "sorted" := by rfl) (he : starEach [e] X.env = (false, eval e X.env) :: starEach [] X.env := by rfl) (hpl : (backTo pos (starEach [] X.env)).any (·.1) = false := by rfl) :
    BE X M ds (.Call (.Name "sorted" p) [e] [] pos) (.lst (sortD (ks.map keyD))) :=
  .of (pe_callB (call_sortDK (S := M.S) hu hc) hg hm (by decide +kernel) (pa_cons hd.pe pa_nil he) (by decide) (by decide) he hpl) fun σ H Q en w k => ⟨en, w, fun a kvs H' ex w' hD hk => by
    have e1 : (kvs.map fun p => keyD p.1) = ks.map keyD := by rw [← hk, List.map_map]; rfl
    exact ⟨a, kvs, rfl, hD, by rw [e1]; exact so, fun t out nt io => k _ _ _ (by rw [e1]) (ex.trans (Ex.new nt)) (Md.new w' nt) (.lst upd_same (Md.freeS w' nt) (io.mono (B := NoA) (Ex.new nt) fun _ z => z.elim))⟩⟩
/-- len(d) -/
theorem be_lenD {ks : List Key} (hm : X.mg "len" = none) (hd : BD X M ds e ks) (hg : Gl X "len" := by rfl) (he : starEach [e] X.env = (false, eval e X.env) :: starEach [] X.env := by rfl) (hpl : (backTo pos (starEach [] X.env)).any (·.1) = false := by rfl) :
    BE X M ds (.Call (.Name "len" p) [e] [] pos) (.int ks.length) :=
  .of (pe_callB call_lenD hg hm boot_len (pa_cons hd.pe pa_nil he) (by decide) (by decide) he hpl) fun σ H Q en w k => ⟨en, w, fun a kvs H' ex w' hD hk =>
    ⟨a, kvs, rfl, hD, by
      have e := congrArg List.length hk
      rw [List.length_map] at e
      rw [e]
      exact k _ _ H' rfl ex w' (.int _)⟩⟩
end
end K23

-- text A15
set_option Elab.async false
set_option linter.all false
set_option maxRecDepth 100000
set_option maxHeartbeats 2000000
namespace K23
open PySem PySem.Spec PyProof.Rows L2

/-! ## 26. objects of our own (dicts) -/
/-- the state M knows what stands at q -/
def Rdo (M : Md) (q : Addr) (o : HO) : Prop := ∀ H, M.W H → H q = some o
/-- M' is M, but o' stands at q in place of o -/
structure MutO (M M' : Md) (q : Addr) (o o' : HO) : Prop where
  sq : M.S q
  S : M'.S = M.S
  rd : Rdo M q o
  wr : ∀ H, M.W H → Ex (fun a => a = q) H (upd H q o') → M'.W (upd H q o')
theorem MutO.own {M : Md} {q : Addr} {o o' : HO} {ht ht'} (nd : ¬ M.dep q) : MutO (M.own q o ht) (M.own q o' ht') q o o' where
  sq := .inr rfl
  S := rfl
  rd := fun H w => w.2
  wr := fun H w ex => ⟨M.ext _ _ (fun a => a = q) w.1 (fun a z d => nd (z ▸ d)) ex, upd_same⟩
theorem MutO.at {M M' : Md} {q : Addr} {o o' : HO} {H1 : Hp} (m : MutO M M' q o o') : MutO (M.at H1) (M'.at H1) q o o' where
  sq := m.sq
  S := m.S
  rd := fun H w => m.rd H w.1
  wr := fun H w ex => ⟨m.wr H w.1 ex, by
    show Ex M'.S H1 _
    rw [m.S]
    exact w.2.trans (ex.wide fun a z => by rw [z]; exact m.sq)⟩
theorem Rdo.own {M : Md} {q : Addr} {o : HO} {ht} : Rdo (M.own q o ht) q o := fun _ w => w.2
theorem Rdo.at {M : Md} {q : Addr} {o : HO} {H1 : Hp} (r : Rdo M q o) : Rdo (M.at H1) q o := fun H w => r H w.1
theorem Rdo.push {K : PySem.W.Frag} {M : Md} {q p : Addr} {o : HO} {l : List D} {hi : D.imm.imms l = true} (r : Rdo M q o) : Rdo (M.push K p l hi) q o := fun H w => r H w.1
theorem Md.own_en {K : PySem.W.Frag} {M : Md} {H : Hp} {q : Addr} {σ : L2.St} {ds : List (Option D)} {o : HO} {ht} (w : M.W H) (en : En K M.S H σ ds) (nq : H q = none) :
    (M.own q o ht).W (upd H q o) ∧ En K (M.own q o ht).S (upd H q o) σ ds ∧ ¬ M.dep q := by
  refine ⟨⟨Md.new w nq, upd_same⟩, ?_, Md.free w nq⟩
  have e1 : En K (fun a => M.S a ∨ a = q) H σ ds := en.sub fun a o e s => s.elim id fun z => by rw [z, nq] at e; cases e
  exact e1.mono (B := NoA) (Ex.new nq) fun _ z => z.elim
abbrev dK (kvs : List (Key × V)) : HO := .dK kvs
theorem dK_nt (kvs : List (Key × V)) : ∀ xs, dK kvs ≠ .tup xs := fun _ z => nomatch z
section
variable {X : Cx} {M : Md} {ds : List (Option D)} {e k v : Expr} {pos p : Pos} {P : D → Prop} {rest : List Stmt} {E : Ends} {q : Addr} {kvs : List (Key × V)}
/-- x = {} -/
theorem st_newDict {i : Nat} {x : Str} {pos' p : Pos} (k : ∀ q, ¬ M.dep q → ST X (M.own q (dK []) (dK_nt [])) (ds.set i (some (.adr q))) rest E) (hN : X.N.Nodup) (hi : X.N[i]? = some x := by rfl) (hx : Loc X.env.scope x := by first | exact Or.inl rfl | exact Or.inr rfl)
    (hs : swapsWith (.Dict [] [] p) (some (.Name x pos')) pos.line X.env = pure false := by rfl) (hf : X.fn x = true ∨ X.env.scope.names.lookup x = some .local := by exact Or.inl rfl) : ST X M ds (.Assign [.Name x pos'] (.Dict [] [] p) pos :: rest) E :=
  st_of (ps_set hN hi hx pe_dnewK hs hf) fun σ H en w => fun q nq => by
    obtain ⟨w1, en1, nd⟩ := Md.own_en (o := dK []) (ht := dK_nt []) w en nq
    exact (k q nd).go _ _ (en1.set (.adr q)) w1
/-- d[k] = v -/
theorem st_dput {M' : Md} {b : Key} {u : V} {du : D} {pos' : Pos} {d : Expr} (hu : X.A.units + 64 < cLine) (hd : BE X M ds d (.adr q)) (hk : BE X M ds k (keyD b)) (hv : BE X M ds v du) (uv : ∀ S H w, Is X.K S H w du → w = u) (mu : MutO M M' q (dK kvs) (dK (putK kvs b u))) (lim : kvs.length < sizeLine)
    (go : ST X M' ds rest E) (hs : swapsWith v (some (.Subscript d k pos')) pos.line X.env = pure false := by rfl) : ST X M ds (.Assign [.Subscript d k pos'] v pos :: rest) E :=
  st_of (ps_dput (by omega) hd.pe hk.pe hv.pe hs) fun σ H en w => ⟨en, w, fun d1 v1 H1 p1 e1 w1 i1 => ⟨en.mono e1 fun _ z => z, w1, fun d2 v2 H2 p2 e2 w2 i2 => ⟨(en.mono e1 fun _ z => z).mono e2 fun _ z => z, w2, fun d3 v3 H3 p3 e3 w3 i3 => by
    subst p1 p2 p3
    cases i2
    have ev := uv _ _ _ i1
    subst ev
    have hq := mu.rd H3 w3
    have ex : Ex (fun a => a = q) H3 (upd H3 q (dK (putK kvs b v1))) := Ex.put hq rfl (fun _ z => nomatch z) fun _ _ z => nomatch z
    refine ⟨q, _, rfl, by rw [i3.key]; exact DPut.k hq lim, go.go _ _ ?_ (mu.wr H3 w3 ex)⟩
    rw [mu.S]
    exact (((en.mono e1 fun _ z => z).mono e2 fun _ z => z).mono e3 fun _ z => z).mono ex fun a z => by rw [z]; exact mu.sq⟩⟩⟩
/-- such a dict as a dict -/
theorem bd_own (rd : Rdo M q (dK kvs)) (ha : BE X M ds e (.adr q)) : BD X M ds e (kvs.map (·.1)) :=
  ⟨PE.imp ha.pe fun σ H Q ⟨en, w, kk⟩ => ⟨en, w, fun d v H1 p1 e1 w1 i1 => by
    subst p1
    cases i1
    exact kk q kvs H1 e1 w1 (rd H1 w1) rfl⟩⟩
/-- d[k] -/
theorem be_dget {b : Key} {u : V} {du : D} (hu : X.A.units + 64 < cLine) (rd : Rdo M q (dK kvs)) (ha : BE X M ds e (.adr q)) (hk : BE X M ds k (keyD b)) (hv : valV kvs b = some u) (iu : ∀ S H, Is X.K S H u du) (hs : NoSl k := by exact fun _ _ => rfl) : BE X M ds (.Subscript e k pos) du :=
  .of (pe_dget (by omega) ha.pe hk.pe hs) fun σ H Q en w kk => ⟨en, w, fun d1 v1 H1 p1 e1 w1 i1 => ⟨en.mono e1 fun _ z => z, w1, fun d2 v2 H2 p2 e2 w2 i2 => by
    subst p1 p2
    cases i1
    exact ⟨q, u, rfl, by rw [i2.key, ← hv]; exact DGet.k (rd H2 w2), kk du u H2 rfl (e1.trans e2) w2 (iu _ _)⟩⟩⟩
end
end K23

-- text A16
set_option Elab.async false
set_option linter.all false
set_option maxRecDepth 100000
set_option maxHeartbeats 2000000
namespace K23
open PySem PySem.Spec PyProof.Rows L2

/-! ## 27. dict comprehensions whose keys are tuples -/
/-- the store of one entry -/
theorem put_tup {X : Cx} {ps : List (Addr × Obj)} {τ : L2.St} {G : Hp} {t : Shared} {Er : Value → Shared → Prop} {d b : Addr} {ents : List (List Key × V)} {ky : List Key} {x : V} {r : Value} {Fin : Unit → Shared → Prop} (hu : X.A.units + 64 < cLine) (J : Inv X ps τ G t) (hd : G d = some (.dT ents)) (room : ents.length < sizeLine)
    (hb : G b = some (.tup (ky.map kV))) (rx : RelV x r) (fin : ∀ t', Inv X ps τ (upd G d (.dT (putK ents ky x))) t' → Fin () t') : wpAny (model X.prog X.w) X.A (dictSet d (.ref b) r) Fin Er t := by
  obtain ⟨_, low, rows, rel, dt⟩ := dt_of J.hok hd
  have n1 : rows.length ≤ sizeLine := Paired.length rel ▸ Nat.le_of_lt room
  have n2 : (putK ents ky x).length ≤ sizeLine := Nat.le_trans (length_putK ents ky x) room
  refine wpAny_dictSet_heap (hsz := n1) (show X.A.units < cLine by omega) (key_of J.hok hb) dt fun h2 dt2 same => fin _ ?_
  obtain ⟨ob, en, ep, g1, g2, g3, g4, _, g6⟩ := dt2
  have kept := (rel.put ky hb rx).keeps fun c ys ec => (upd_ne (H := G) (o := .dT (putK ents ky x)) (ne_of ec hd fun z => nomatch z)).trans ec
  exact d_write J (by rw [hd]; trivial) same ⟨ob, g1⟩ ⟨n2, low, _, kept, ob, en, ep, g1, g2, g3, g4, g6⟩
/-- a block's surroundings -/
abbrev bk (X : Cx) (t : Shared) (G : Hp) (scope : Scope) (cl : List (Str × Addr)) (fp : List Addr) : Cx := X.blk t G scope (compEnvC scope cl t.heap.objs.size X.env) fp
section
variable {X : Cx} {kx vx tg iter : Expr} {ifs : List Expr} {scope : Scope} {own : List (Str × Nat)}
/-- {(..): v for target in iter if ..} -/
def tDT (wi : TI) (g : TG) (tt : TT) (tk tv : TE) (vs : List Nat) : TE := fun σ H Q => wi σ H fun J H1 => ∀ z, H1 z = none → ∃ W : Nat → Nat → Hp → Prop, (∃ m, W 0 m (upd H1 z (.dT []))) ∧ ∀ i m G, W i m G →
  (J.stop i G ∧ Q (.ref z) G) ∨ (J.go i G ∧ ∃ Nx : Hp → Prop, (∀ G', Nx G' → ∃ m', m' < m ∧ W (i + 1) m' G') ∧ ∀ x G', J.yld i G x G' → g x (wipe σ vs) G' fun σ2 G2 => wipe σ2 vs = wipe σ vs ∧ tt σ2 G2 fun b G3 =>
    if b = true then tk σ2 G3 fun y G4 => tv σ2 G4 fun u G5 => ∃ ents ky a, y = .ref a ∧ G5 a = some (.tup (ky.map kV)) ∧ G5 z = some (.dT ents) ∧ ents.length < sizeLine ∧ Nx (upd G5 z (.dT (putK ents ky u))) else Nx G3)
theorem pe_dct {pos : Pos} {wi : TI} {g : TG} {tt : TT} {tk tv : TE} (hu : X.A.units + 64 < cLine) (calm : X.calm = true) (nodup : X.N.Nodup) (pi : PI X tg iter wi) (blk : BlkOk X.N X.env.scope scope own)
    (pg : ∀ (t : Shared) (G : Hp) (C : Addr) (cl : List (Str × Addr)) (fp : List Addr), PG (X.blk t G scope (compEnvC scope cl C X.env) fp) tg g) (pt : ∀ (t : Shared) (G : Hp) (C : Addr) (cl : List (Str × Addr)) (fp : List Addr), PTs (X.blk t G scope (compEnvC scope cl C X.env) fp) ifs tt)
    (pk : ∀ (t : Shared) (G : Hp) (C : Addr) (cl : List (Str × Addr)) (fp : List Addr), PE (X.blk t G scope (compEnvC scope cl C X.env) fp) kx tk) (pv : ∀ (t : Shared) (G : Hp) (C : Addr) (cl : List (Str × Addr)) (fp : List Addr), PE (X.blk t G scope (compEnvC scope cl C X.env) fp) vx tv)
    (plain : ∀ x, foldedSetIterable iter X.env x = pure x := by intro _; rfl) : PE X (.DictComp kx vx [⟨tg, iter, ifs, 0⟩] scope pos) (tDT wi g tt tk tv (own.map (·.2))) := by
  refine ⟨fun pins s σ H Q I h => ?_⟩
  rw [arm_eval_DictComp]
  have frees : ∀ q ∈ scope.names, q.2 = .free → ∃ c, X.env.cells.lookup q.1 = some c := fun q hq z => I.ok.has _ (blk.free q hq z)
  refine wpAny_comprehension_free (use := none) rfl plain (closure_ok frees) blk.kind (fun q hq z => by rw [blk.uniq q hq, z]) (thn (pi.run pins s σ H _ I h) fun xv t1 hx => thn hx fun itv t2 h2 => ?_)
  obtain ⟨it, fp, tn, J, G2, rfl, I2, turn, at0, own2, run⟩ := h2
  refine wpAny_newObj_type (newEnv_comp ?_)
  -- the new dict stands at z
  obtain ⟨z, ez⟩ : ∃ z, z = t2.heap.objs.size := ⟨_, rfl⟩
  have fresh : G2 z = none := I2.hok.fresh (Nat.le_of_eq ez.symm)
  obtain ⟨W, ⟨m0, w0⟩, step⟩ := run z fresh
  obtain ⟨t3, e3⟩ : ∃ t3 : Shared, t3 = { t2 with heap := t2.heap.push { cls := .type "dict", data := .dict #[] } } := ⟨_, rfl⟩
  obtain ⟨G3, eG⟩ : ∃ G3 : Hp, G3 = upd G2 z (.dT []) := ⟨_, rfl⟩
  have w3 : W 0 m0 G3 := by rw [eG]; exact w0
  have push3 : t3.heap = t2.heap.push { cls := .type "dict", data := .dict #[] } := by rw [e3]
  have I3 : Inv X pins σ G3 t3 := by
    rw [e3, eG, ez]
    exact I2.laid (t' := t2.toks) (fun _ _ q => Heap.get?_push_of_some _ q) (Nat.le_refl _) (dt_empty t2.heap I2.big)
  have below : ∀ b ∈ fp, b < t2.heap.objs.size := fun b hb => let ⟨_, q, _⟩ := turn.obj _ _ at0 b hb; Heap.lt_size q
  have own3 : ∀ b ∈ fp, FpOk X pins G3 b ∧ b < t3.heap.objs.size := fun b hb => by
    refine ⟨⟨?_, (own2 b hb).2⟩, by rw [push3, Heap.size_push]; exact Nat.lt_succ_of_lt (below b hb)⟩
    rw [eG, upd_ne (by rw [ez]; exact Nat.ne_of_lt (below b hb))]
    exact (own2 b hb).1
  have at3 : tn 0 t3.heap := turn.keep _ _ _ at0 fun b _ ob q => by rw [push3]; exact Heap.get?_push_of_some _ q
  have I4 := block_start I3 blk nodup own3
  rw [show t2.heap.objs.size = z from ez.symm, ← eG] at *
  obtain ⟨cl, ecl⟩ : ∃ cl, cl = cellsFrom (t3.heap.objs.size + 1) scope.names (cloFrom X.env.cells scope.names []) := ⟨_, rfl⟩
  have pg := pg t3 G3 t3.heap.objs.size cl fp
  have pt := pt t3 G3 t3.heap.objs.size cl fp
  have pk := pk t3 G3 t3.heap.objs.size cl fp
  have pv := pv t3 G3 t3.heap.objs.size cl fp
  rw [← ecl] at I4
  have eh : t2.heap.push { cls := .type "dict", data := .dict #[] } = t3.heap := push3.symm
  show codeAny _ _ (.compStart (.DictComp kx vx [⟨tg, iter, ifs, 0⟩] scope pos) 0 (.ref it) (.ref z) (compEnvC scope (cellsFrom ((t2.heap.push { cls := .type "dict", data := .dict #[] }).objs.size + 1) scope.names (cloFrom X.env.cells scope.names [])) (t2.heap.push { cls := .type "dict", data := .dict #[] }).objs.size X.env))
    (compPost (model X.prog X.w) X.A X.xe none (EP X pins σ Q) (.ref z) (t2.heap.push { cls := .type "dict", data := .dict #[] }).objs.size) { t2 with heap := pushCells ((t2.heap.push { cls := .type "dict", data := .dict #[] }).push { cls := .type "dict", data := .dict #[] }) scope.names }
  rw [eh, ← ecl]
  obtain ⟨t4, e4⟩ : ∃ t4 : Shared, t4 = { t2 with heap := pushCells (t3.heap.push { cls := .type "dict", data := .dict #[] }) scope.names } := ⟨_, rfl⟩
  have I4 : Inv (bk X t3 G3 scope cl fp) [] (wipe σ (own.map (·.2))) G3 t4 := by
    rw [e4]
    have q := I4
    rw [e3] at q ⊢
    exact q
  have at4 : tn 0 t4.heap := turn.keep _ _ _ at3 fun b _ ob q => by rw [e4]; exact pushCells_keeps _ _ _ _ (Heap.get?_push_of_some _ q)
  have none3 : ∀ b ∈ fp, G3 b = none := fun b hb => (own3 b hb).1.1
  have still : ∀ {τ : L2.St} {G : Hp} {t : Shared}, Inv (bk X t3 G3 scope cl fp) [] τ G t → (∀ b ∈ fp, G b = none) → ∀ b ∈ fp, FpOk (bk X t3 G3 scope cl fp) [] G b := fun {τ G t} I' hn b hb => by
    exact ⟨hn b hb, (I'.ok.exf b hb).1, I'.ok.exfs b hb, .inl hb, fun x c q => (I'.ok.exf b hb).2 x c q, fun p hp => absurd (show p ∈ ([] : List (Addr × Obj)) ++ [] from hp) (by simp)⟩
  rw [← e4]
  have loop : codeAny (model X.prog X.w) X.A (.compLoop (.DictComp kx vx [⟨tg, iter, ifs, 0⟩] scope pos) 0 (.ref it) (.ref z) (compEnvC scope cl t3.heap.objs.size X.env)) (compPost (model X.prog X.w) X.A X.xe none (EP X pins σ Q) (.ref z) t3.heap.objs.size) t4 := by
    refine compLoop_anyD (fun m t => ∃ i G, Inv (bk X t3 G3 scope cl fp) [] (wipe σ (own.map (·.2))) G t ∧ tn i t.heap ∧ (∀ b ∈ fp, G b = none) ∧ W i m G) ?_ m0 ⟨0, G3, I4, at4, none3, w3⟩
    rintro m t5 ⟨i, G5, I5, at5, none5, w5⟩
    rcases step i m G5 w5 with ⟨stop, last⟩ | ⟨go, Nx, down, each⟩
    · refine thnF (turn.done (bk X t3 G3 scope cl fp) rfl rfl rfl calm i [] t5 _ G5 (fun _ _ => False) I5 (still I5 none5) at5 stop) fun r t6 ⟨hr, I6⟩ => ?_
      subst hr
      have I7 : Inv X pins σ G5 t6 := I3.call' (ch := fp) I6.os I6.base I6.hok I6.bare fun b hb => ⟨(own3 b hb).1.2.2.2.1, (own3 b hb).1.2.1, (own3 b hb).1.2.2.2.2.1, (own3 b hb).1.2.2.2.2.2⟩
      have noC : G5 t3.heap.objs.size = none := I6.free
      obtain ⟨mm, hn, _⟩ := I6.loc
      obtain ⟨f0, f1, f2, f3, f4, f5⟩ := I3.fpOk (Nat.le_refl _) noC
      exact ⟨mm, hn, fun h8 sb => ⟨.ref z, G5, I7.turned (t' := t6.toks) (fun b ob hb q => (sb.2 b hb).trans q) f0 f1 f3 f4 f5, rfl, last⟩⟩
    · refine thnF (turn.item (bk X t3 G3 scope cl fp) rfl rfl rfl calm i [] t5 _ G5 (fun _ _ => False) I5 (still I5 none5) at5 go) fun r t6 ⟨u, hr, h6⟩ => ?_
      subst hr
      refine thnF h6 fun _ t7 ⟨x, G7, I7, r7, y7, at7, none7⟩ => ?_
      have P7 := I7.pinned (still I7 none7) (turn.obj _ _ at7)
      refine thnF (pg.run _ t7 _ G7 x u _ P7 r7 (each x G7 y7)) fun _ t8 ⟨σ8, G8, I8, hw, q8⟩ => ?_
      refine thnF (pt.run _ t8 σ8 G8 _ I8 q8) fun b t9 ⟨G9, I9, q9⟩ => ?_
      have back : ∀ {t' : Shared} {G' : Hp}, Inv (X.blk t3 G3 scope (compEnvC scope cl t3.heap.objs.size X.env) fp) ([] ++ pinsAt fp t7.heap) σ8 G' t' → Nx G' → ∃ m', m' < m ∧ ∃ i G, Inv (bk X t3 G3 scope cl fp) [] (wipe σ (own.map (·.2))) G t' ∧ tn i t'.heap ∧ (∀ b ∈ fp, G b = none) ∧ W i m' G := fun {t' G'} I' nx => by
        obtain ⟨m', lt, w'⟩ := down G' nx
        have pinned : ∀ b ∈ fp, ∀ ob, t7.heap.get? b = some ob → t'.heap.get? b = some ob ∧ G' b = none := fun b hb ob q =>
          have zz := I'.pin (b, ob) (List.mem_append_right _ (List.mem_append_right _ (mem_pinsAt hb q)))
          ⟨zz.1, zz.2.1⟩
        refine ⟨m', lt, i + 1, G', ?_, turn.keep _ _ _ at7 fun b hb ob q => (pinned b hb ob q).1, fun b hb => ?_, w'⟩
        · refine (I'.unpinned (pins := [])).weak (by rw [← hw, wipe_length]) fun j v q => ?_
          rw [← hw] at q
          exact (wipe_some q).1
        · obtain ⟨ob, q, _⟩ := turn.obj _ _ at7 b hb
          exact (pinned b hb ob q).2
      cases b with
      | false => exact back I9 q9
      | true =>
        refine thnF (pk.run _ t9 σ8 G9 _ I9 q9) fun kv t10 ⟨yk, G10, I10, r10, q10⟩ => ?_
        refine thnF (pv.run _ t10 σ8 G10 _ I10 q10) fun vv t11 ⟨yv, G11, I11, r11, ents, ky, a, ek, ha, hD, room, nx⟩ => ?_
        subst ek
        cases r10
        exact put_tup (X := X.blk t3 G3 scope (compEnvC scope cl t3.heap.objs.size X.env) fp) hu I11 hD room ha r11 fun t12 I12 => back I12 nx
  exact codeAny_compStart_dict loop (turn.self X.A 0 _ _ _ at4 loop)
end

/-- a key tuple as a datum -/
def rowD (k : List Key) : D := .tup (k.map keyD)
theorem Iss.rows {K : PySem.W.Frag} {S : Addr → Prop} {H : Hp} : ∀ {ks : List Key} {vs : List V}, Iss K S H vs (ks.map keyD) → vs = ks.map kV
  | [], _, h => by cases h; rfl
  | k :: ks, _, h => by
    cases h with
    | cons a t => rw [a.key, Iss.rows t]; rfl
theorem Is.row {K : PySem.W.Frag} {S : Addr → Prop} {H : Hp} {v : V} {k : List Key} (h : Is K S H v (rowD k)) : ∃ a, v = .ref a ∧ H a = some (.tup (k.map kV)) := by
  cases h with
  | tup h1 h2 => rw [h2.rows] at h1; exact ⟨_, rfl, h1⟩
def tBDT (K : PySem.W.Frag) (M : Md) (ds : List (Option D)) (ks : List (List Key)) : TE := fun σ H Q =>
  En K M.S H σ ds ∧ M.W H ∧ ∀ p ents H', Ex M.S H H' → M.W H' → H' p = some (.dT ents) → ents.map (·.1) = ks → Q (.ref p) H'
structure BDT (X : Cx) (M : Md) (ds : List (Option D)) (e : Expr) (ks : List (List Key)) : Prop where
  pe : PE X e (tBDT X.K M ds ks)
section
variable {X : Cx} {M : Md} {ds : List (Option D)} {e kx vx tg iter : Expr} {ifs : List Expr} {scope : Scope} {own : List (Str × Nat)} {p pos : Pos}
variable {α : Type} {φ : α → D} {is : List Nat} {g : α → List (Option D)} {keep : α → Bool} {ys : List α} {f : α → List Key}
theorem bdt_dc (L : Lc X M ds kx tg ifs scope own φ (fun y => y ∈ ys) is g keep fun y d => d = rowD (f y)) (hu : X.A.units + 64 < cLine) (hv : ∀ y ∈ ys, ∀ X', Blk X X' scope → BP X' M (g y) vx fun _ => True) (hi : BIE X M ds tg iter (ys.map φ)) (hz : ys.length ≤ sizeLine) (hs : ∀ x, foldedSetIterable iter X.env x = pure x := by intro _; rfl) :
    BDT X M ds (.DictComp kx vx [⟨tg, iter, ifs, 0⟩] scope pos) (dd ((ys.filter keep).map f)) := by
  let tv : TE := fun σ H Q => ∃ y, y ∈ ys ∧ tD X.K M (g y) (fun _ => True) σ H Q
  refine ⟨PE.imp (pe_dct (tv := tv) hu L.calm L.nd hi.pi L.ok L.pg L.pt L.pel (fun s H C cl fp => ⟨fun pins s' σ H' Q I ⟨y, hy, q⟩ => (hv y hy _ ⟨s, H, C, cl, fp, rfl⟩).pe.run pins s' σ H' Q I q⟩) hs) ?_⟩
  rintro σ H Q ⟨en, w, k⟩
  refine ⟨en, w, fun J H1 zs py e1 w1 wk z0 nD => ?_⟩
  subst py
  rw [List.length_map] at wk
  have nS : ¬ M.S z0 := Md.freeS w1 nD
  have nd : ¬ M.dep z0 := Md.free w1 nD
  have en1 := en.mono e1 fun _ z => z
  refine any_it wk _ (fun i H' => Ex M.S H1 H' ∧ M.W H' ∧ ∃ ents, H' z0 = some (.dT ents) ∧ ents.map (·.1) = dd (((ys.take i).filter keep).map f)) ?_ (fun i H' _ p => p.1) ?_ ?_
  · exact ⟨Ex.new nD, Md.new w1 nD, [], upd_same, rfl⟩
  · rintro i x H' H2 hi' ⟨ex, w', ents, hD, hk⟩ ⟨e2, y0, hyi0, isx⟩
    obtain ⟨y, hyi, rfl⟩ := getElem_map_some hyi0
    have hy : y ∈ ys := List.mem_of_getElem? hyi
    have w2 : M.W H2 := Md.pure w' e2
    have en2 : En X.K M.S H2 (wipe σ (own.map (·.2))) (wipeD ds (own.map (·.2))) := ((en1.mono ex fun _ z => z).mono (B := NoA) e2 fun _ z => z.elim).wipe _
    refine ⟨y, hy, en2, isx, fun σ2 en3 wp => ⟨by rw [wp _ L.sub, wipe_wipe], y, hy, en3, w2, fun b H3 pb e3 w3 => ?_⟩⟩
    subst pb
    have x3 : Ex M.S H1 H3 := (ex.trans e2.pure).trans e3
    have h3 : H3 z0 = some (.dT ents) := e3.old z0 _ (e2.old z0 _ hD fun z => z) nS
    cases hkp : keep y with
    | false =>
      show Ex M.S H1 H3 ∧ _
      refine ⟨x3, w3, ents, h3, ?_⟩
      rw [filter_take_next hyi, hkp, hk]
      rfl
    | true =>
      show teOf X.K M (fun y => y ∈ ys) g keep (fun y d => d = rowD (f y)) σ2 H3 _
      refine ⟨y, hy, hkp, en3.mono e3 fun _ z => z, w3, fun d v H4 pd e4 w4 i4 => ?_⟩
      subst pd
      obtain ⟨a, rfl, ha⟩ := i4.row
      refine ⟨y, hy, (en3.mono e3 fun _ z => z).mono e4 fun _ z => z, w4, fun d5 v5 H5 _ e5 w5 i5 => ?_⟩
      have h5 : H5 z0 = some (.dT ents) := e5.old z0 _ (e4.old z0 _ h3 nS) nS
      have up : Ex (fun a => a = z0) H5 (upd H5 z0 (.dT (putK ents (f y) v5))) := Ex.put h5 rfl (fun _ z => nomatch z) fun _ _ z => nomatch z
      have x5 : Ex M.S H1 H5 := (x3.trans e4).trans e5
      have lim : ents.length < sizeLine := by
        have a1 := congrArg List.length hk
        have a2 := dd_len (((ys.take i).filter keep).map f)
        have a3 : ((ys.take i).filter keep).length ≤ (ys.take i).length := List.length_filter_le _ _
        rw [List.length_map] at a1 a2
        rw [List.length_take] at a3
        omega
      refine ⟨ents, f y, a, rfl, e5.tup _ _ ha, h5, lim, Ex.opened x5 (up.wide fun _ z => .inr z) nD, M.ext _ _ (fun a => a = z0) w5 (fun a z d => nd (z ▸ d)) up, _, upd_same, ?_⟩
      rw [putK_keys, hk, filter_take_next hyi, hkp, if_pos rfl, List.map_append]
      exact (dd_snoc _ _).symm
  · rintro H' ⟨ex, w', ents, hD, hk⟩
    rw [List.take_length] at hk
    exact k z0 ents H' (e1.trans ex) w' hD hk
theorem rows_is {K : PySem.W.Frag} {S : Addr → Prop} {H : Hp} {ents : List (List Key × V)} {rows : List (List Key × Addr × Value)} (pr : Paired (fun (p : List Key × V) (q : List Key × Addr × Value) => p.1 = q.1 ∧ H q.2.1 = some (.tup (p.1.map kV)) ∧ RelV p.2 q.2.2) ents rows) :
    Iss K S H (rows.map fun x => V.ref x.2.1) (ents.map fun p => rowD p.1) := by
  induction pr with
  | nil => exact .nil
  | cons h t ih => exact .cons (.tup h.2.1 Iss.keys) ih
/-- sorted(d) -/
def rSortDT (K : PySem.W.Frag) (S : Addr → Prop) : List V → Hp → VK → Prop := fun xs H Q => ∃ a ents, xs = [.ref a] ∧ H a = some (.dT ents) ∧ Sortd (ents.map fun p => rowD p.1) ∧ ∀ p out, H p = none → Iss K S H out (sortD (ents.map fun p => rowD p.1)) → Q (.ref p) (upd H p (.lst out))
theorem call_sortDT {S : Addr → Prop} (hu : X.A.units + 64 < cLine) (hc : X.calm = true) : CallR X (.builtin "sorted") (rSortDT X.K S) := by
  rintro pins s σ H xs us Q I r ⟨a, ents, rfl, hd, so, q⟩
  obtain ⟨u, rfl, ru⟩ := vals1 r
  cases ru
  obtain ⟨lim, low, rows, pr, ob, es, ep, ho, hx, hdt, he, _⟩ := (show ObjOk X.prog X.w H s.heap a (.dT ents) from I.hok a _ hd)
  have n1 : es.size = rows.length := by
    have z := congrArg List.length he
    rw [List.length_map, Array.length_toList] at z
    exact z
  have n2 : ents.length = rows.length := Paired.length pr
  refine sort_src hu hc (kdl_raw low hx hdt) I ho (by omega) (fun acc hacc => ⟨rows.map fun x => V.ref x.2.1, ?_, ?_⟩) so (by rw [List.length_map]; exact lim) q
  · have e2 : acc.toList = rows.map fun x => Value.ref x.2.1 := by
      apply List.ext_getElem?
      intro j
      rw [List.getElem?_map]
      cases hj : acc.toList[j]? with
      | none =>
        have z := List.getElem?_eq_none_iff.mp hj
        rw [Array.length_toList, hacc.1] at z
        rw [List.getElem?_eq_none (by omega)]
        rfl
      | some v =>
        rw [Array.getElem?_toList] at hj
        obtain ⟨en, hen, rfl⟩ := hacc.2 j v hj
        have z : es.toList[j]? = some en := by rw [Array.getElem?_toList]; exact hen
        rw [he, List.getElem?_map] at z
        cases hb : rows[j]? with
        | none => rw [hb] at z; cases z
        | some b =>
          rw [hb] at z
          have z2 : entryOfKey (tupleKind (mixKind X.prog X.w)) b = en := Option.some.inj z
          rw [← z2]
          rfl
    rw [e2]
    have key : ∀ l : List (List Key × Addr × Value), Vals (l.map fun x => V.ref x.2.1) (l.map fun x => Value.ref x.2.1) := fun l => by
      induction l with
      | nil => exact .nil
      | cons x l ih => exact .cons rfl ih
    exact key rows
  · exact rows_is pr
theorem be_sortedDT {ks : List (List Key)} (hu : X.A.units + 64 < cLine) (hc : X.calm = true) (hm : X.mg "sorted" = none) (hd : BDT X M ds e ks) (so : Sortd (ks.map rowD)) (hg : Gl X "sorted" := by rfl) (he : starEach [e] X.env = (false, eval e X.env) :: starEach [] X.env := by rfl) (hpl : (backTo pos (starEach [] X.env)).any (·.1) = false := by rfl) :
    BE X M ds (.Call (.Name "sorted" p) [e] [] pos) (.lst (sortD (ks.map rowD))) :=
  .of (pe_callB (call_sortDT (S := M.S) hu hc) hg hm (by decide +kernel) (pa_cons hd.pe pa_nil he) (by decide) (by decide) he hpl) fun σ H Q en w k => ⟨en, w, fun a ents H' ex w' hD hk => by
    have e1 : (ents.map fun p => rowD p.1) = ks.map rowD := by rw [← hk, List.map_map]; rfl
    exact ⟨a, ents, rfl, hD, by rw [e1]; exact so, fun t out nt io => k _ _ _ (by rw [e1]) (ex.trans (Ex.new nt)) (Md.new w' nt) (.lst upd_same (Md.freeS w' nt) (io.mono (B := NoA) (Ex.new nt) fun _ z => z.elim))⟩⟩
end
end K23

-- text A17
set_option Elab.async false
set_option linter.all false
set_option maxRecDepth 100000
set_option maxHeartbeats 2000000
namespace K23
open PySem PySem.Spec PyProof.Rows L2

/-! ## 28. small words for the walks -/
theorem atI_nat {α : Type} (l : List α) (k : Nat) : atI l (k : Int) = l[k]? := by
  unfold atI ixN
  by_cases h : (k : Int) < (l.length : Int)
  · have h' : k < l.length := by omega
    simp [h']
  · have h' : l.length ≤ k := by omega
    rw [List.getElem?_eq_none h']
    simp [h']
theorem at_map {α : Type} {f : α → D} {l : List α} {k : Nat} {x : α} {i : Int} (h : l[k]? = some x) (e : i = (k : Int) := by rfl) : atI (l.map f) i = some (f x) := by
  rw [e, atI_nat, List.getElem?_map, h]
  rfl
theorem at_nat {l : List D} {k : Nat} {x : D} {i : Int} (h : l[k]? = some x) (e : i = (k : Int) := by rfl) : atI l i = some x := by
  rw [e, atI_nat, h]
theorem at_last {α : Type} {f : α → D} {l : List α} {x : α} (h : l.getLast? = some x) : atI (l.map f) (-1) = some (f x) := by
  have ne : l ≠ [] := fun z => by rw [z] at h; cases h
  have pos : 0 < l.length := List.length_pos_iff.mpr ne
  have e : l[l.length - 1]? = some x := by rw [← h, List.getLast?_eq_getElem?]
  have h2 : ixN (l.map f).length (-1) = some (l.length - 1) := by
    unfold ixN
    rw [List.length_map, if_neg (by decide), if_pos (by omega)]
    congr 1
    omega
  unfold atI
  rw [h2]
  show (l.map f)[l.length - 1]? = _
  rw [List.getElem?_map, e]
  rfl
theorem nz (a b : Nat) : (!decide ((a : Int) = (b : Int))) = !decide (a = b) := by
  congr 1
  exact decide_eq_decide.mpr Int.ofNat_inj
theorem ez (a b : Nat) : decide ((a : Int) = (b : Int)) = decide (a = b) := decide_eq_decide.mpr Int.ofNat_inj
theorem lz (a b : Nat) : decide ((a : Int) < (b : Int)) = decide (a < b) := decide_eq_decide.mpr Int.ofNat_lt
theorem eqv_nil (l : List D) : D.eqv (.tup l) (.tup []) = l.isEmpty := by
  cases l <;> rfl
theorem eqv_nilL (l : List D) : D.eqv (.lst l) (.lst []) = l.isEmpty := by
  cases l <;> rfl
section
variable {X : Cx} {M : Md} {ds : List (Option D)} {a b e t : Expr} {pos : Pos} {rest : List Stmt} {E : Ends}
theorem ST.norm {ds ds' : List (Option D)} {b : List Stmt} (h : ds = ds') (k : ST X M ds' b E) : ST X M ds b E := h ▸ k
theorem be_ifT {x : D} (hc : BTE X M ds t true) (ha : BE X M ds a x) : BE X M ds (.IfExp t a b pos) x := bp_if hc (fun _ => ha) fun h => nomatch h
theorem be_ifF {x : D} (hc : BTE X M ds t false) (hb : BE X M ds b x) : BE X M ds (.IfExp t a b pos) x := bp_if hc (fun h => nomatch h) fun _ => hb
/-- if c: x = e -/
theorem st_ifSet {i : Nat} {x : Str} {p pos2 : Pos} {c : Bool} {d d0 : D} (hc : BTE X M ds t c) (hd : c = true → BE X M ds e d) (h0 : ds[i]? = some (some d0)) (k : ST X M (ds.set i (some (if c then d else d0))) rest E) (hN : X.N.Nodup) (hi : X.N[i]? = some x := by rfl)
    (hx : Loc X.env.scope x := by first | exact Or.inl rfl | exact Or.inr rfl) (hs : swapsWith e (some (.Name x p)) pos.line X.env = pure false := by rfl) (hf : X.fn x = true ∨ X.env.scope.names.lookup x = some .local := by exact Or.inl rfl) :
    ST X M ds (.If t [.Assign [.Name x p] e pos] [] pos2 :: rest) E := by
  cases c with
  | true => exact st_take hc (st_set (hd rfl) (st_then k) hN hi hx hs hf)
  | false =>
    have e1 : ds.set i (some d0) = ds := by
      apply List.ext_getElem?
      intro j
      by_cases hj : i = j
      · subst hj
        rw [List.getElem?_set_self (by
          rcases Nat.lt_or_ge i ds.length with z | z
          · exact z
          · rw [List.getElem?_eq_none z] at h0; cases h0), h0]
      · rw [List.getElem?_set_ne hj]
    rw [show (if false = true then d else d0) = d0 from rfl, e1] at k
    exact st_skip hc k
/-- y = [elt for tg in iter if c] -/
theorem st_setL {α : Type} {φ : α → D} {is : List Nat} {g : α → List (Option D)} {keep : α → Bool} {f : α → D} {ys : List α} {elt tg iter : Expr} {ifs : List Expr} {scope : Scope} {own : List (Str × Nat)} {i : Nat} {y : Str} {py spos : Pos} (L : Lc X M ds elt tg ifs scope own φ (fun y => y ∈ ys) is g keep fun y d => d = f y)
    (hi : BIE X M ds tg iter (ys.map φ)) (hz : ys.length ≤ sizeLine) (k : ST X M (ds.set i (some (.lst ((ys.filter keep).map f)))) rest E) (hyl : X.env.scope.names.lookup y = some .local := by rfl) (hk : X.env.scope.kind = .function := by rfl) (hl : (py.line == pos.line) = true := by rfl)
    (ha : (scope.names.any fun (n, k) => n == y && (k == .local || k == .cell)) = false := by rfl) (hN : X.N[i]? = some y := by rfl) (hs : ∀ x, foldedSetIterable iter X.env x = pure x := by intro _; rfl) :
    ST X M ds (.Assign [.Name y py] (.ListComp elt [⟨tg, iter, ifs, 0⟩] scope pos) spos :: rest) E :=
  st_setLc (Ys := fun z => z = ys) L (hi.imp fun z q => ⟨ys, rfl, q⟩) (fun _ q => by rw [q]; exact hz) (fun _ q y hy => by rw [q] at hy; exact hy) (fun zs l q cr => by
    subst q
    rw [cr.eq]
    exact k) hyl hk hl ha hN hs
end
end K23

-- text S1
set_option Elab.async false
set_option linter.all false
set_option maxRecDepth 100000
set_option maxHeartbeats 2000000
namespace K23
open PySem PySem.Spec PyProof.Rows L2

/-! ## 30. what the program computes, in Lean -/
abbrev w0 : Wd := wd ""
abbrev wLeader : Wd := wd "leader"
abbrev wMembers : Wd := wd "members"
abbrev wOthers : Wd := wd "others"
/-- words that may name a kind, a mark -/
def NAMES : List Wd := [wd "keep", wd "drop", wd "kept", wd "dropped", wd "ask", wd "yes", wd "no", wd "what", wd "go", wd "a", wd "b", wd "m", wd "one", wd "two", wd "three"]
def rcvs : Bool → List Wd
  | true => [wMembers, wOthers]
  | false => [wLeader, wMembers, wOthers]
def FINS : List Wd := [wd "kept", wd "dropped", w0]
def Cause.kinds : Cause → List Wd
  | .some k | .each k => [k]
  | _ => []
structure Rule.Ok (lead : Bool) (n : Nat) (r : Rule) : Prop where
  cause : ∀ k ∈ r.cause.kinds, k ∈ NAMES
  mark : r.mark ∈ NAMES ∨ (r.mark = w0 ∧ r.forced = false)
  len : r.sends.length ≤ 4
  sends : ∀ p ∈ r.sends, p.1 ∈ NAMES ∧ p.2 ∈ rcvs lead
  goes : r.goes < n
structure State.Ok (lead : Bool) (n : Nat) (s : State) : Prop where
  fin : s.fin ∈ FINS
  len : s.rules.length ≤ 6
  rules : ∀ r ∈ s.rules, r.Ok lead n
def rulesOf (ρ : Role) : List (Nat × Nat × Rule) := ρ.states.zipIdx.flatMap fun p => p.1.rules.zipIdx.map fun q => (p.2, q.2, q.1)
def marksIn (ρ : Role) : List Wd := srt Wd.d (dd (((rulesOf ρ).filter fun t => !decide (t.2.2.mark.s = ("" : Str))).map fun t => t.2.2.mark))
structure Role.Ok (lead : Bool) (ρ : Role) : Prop where
  pos : 1 ≤ ρ.states.length
  len : ρ.states.length ≤ 12
  states : ∀ s ∈ ρ.states, s.Ok lead ρ.states.length
  ups : ∀ p ∈ ρ.ups, p.2 < ρ.states.length
  marks : ρ.ups.map (·.1) = w0 :: marksIn ρ
structure Proto.Ok (p : Proto) : Prop where
  leader : p.leader.Ok true
  member : p.member.Ok false
def kindsOf (ρ : Role) : List Wd := (rulesOf ρ).flatMap fun t => t.2.2.cause.kinds ++ t.2.2.sends.map (·.1)
def kindsIn (p : Proto) : List Wd := srt Wd.d (dd (kindsOf p.leader ++ kindsOf p.member))
def roleAt (p : Proto) (h : Nat) : Role := if h = 0 then p.leader else p.member
def lastOf (log : List Wd) : Wd := log.getLast?.getD w0
def stateUp (ρ : Role) (log : List Wd) : Nat := (((ρ.ups.filter fun q => decide (q.1.s = (lastOf log).s)).map (·.2))[0]?).getD 0
def others (h n : Nat) : List Nat := (List.range n).filter fun o => !decide (o = h)
def housesTold (h n : Nat) (r : Wd) : List Nat :=
  if r.s = ("leader" : Str) then [0].filter fun o => !decide (o = h)
  else (List.range' (if r.s = ("members" : Str) then 1 else 0) (n - (if r.s = ("members" : Str) then 1 else 0))).filter fun o => !decide (o = h)
def toldMore (told : List Wd) (e : Wd) : List Wd := if e.s = ("" : Str) ∨ e ∈ told then told else srt Wd.d (told ++ [e])
def finAt (ρ : Role) (s : Nat) : Wd := ((ρ.states[s]?).map State.fin).getD w0
def firstHouse (ρ : Role) : House := ⟨some 0, [], [], 0, true, none, true, toldMore [] (finAt ρ 0)⟩
def firstOf (p : Proto) (n : Nat) : Standing := ⟨(List.range n).map fun h => firstHouse (roleAt p h), []⟩
def isThere (c : Cause) (h n : Nat) (x : House) : Bool := match c with
  | .able => x.able
  | .unable | .timer => true
  | .each k => (others h n).all fun o => decide ((o, k) ∈ x.heard)
  | .some k => (others h n).any fun o => decide ((o, k) ∈ x.heard)
def rulesAt (p : Proto) (h : Nat) (x : House) : List Rule := match x.state with
  | none => []
  | some s => (((roleAt p h).states[s]?).map State.rules).getD []
def ruleAt (p : Proto) (h : Nat) (x : House) (r : Nat) : Option Rule := (rulesAt p h x)[r]?
def ruledLog (x : House) (r : Rule) : List Wd := if r.mark.s ≠ ("" : Str) ∧ r.mark ∉ x.log then x.log ++ [r.mark] else x.log
def ruled (p : Proto) (h : Nat) (x : House) (r : Rule) : House :=
  ⟨some r.goes, x.heard, ruledLog x r, if r.forced then (ruledLog x r).length else x.forced, x.able, if r.cause = .able ∧ x.said = none then some x.log.length else x.said, x.whole, toldMore x.told (finAt (roleAt p h) r.goes)⟩
def lettersBy (h n : Nat) (r : Rule) : List Letter := r.sends.flatMap fun s => (housesTold h n s.2).map fun o => ⟨h, o, s.1⟩
def saidBelow (said : Option Nat) (left : Nat) : Bool := match said with
  | none => false
  | some s => decide (s < left)
def fallen (x : House) (left : Nat) : House := ⟨none, [], x.log.take left, left, false, x.said, x.whole && saidBelow x.said left, x.told⟩
def upped (p : Proto) (h : Nat) (x : House) : House := ⟨some (stateUp (roleAt p h) x.log), x.heard, x.log, x.forced, x.able, x.said, x.whole, toldMore x.told (finAt (roleAt p h) (stateUp (roleAt p h) x.log))⟩
def heardMore (x : House) (g : Nat) (k : Wd) : House := ⟨x.state, srt hdD (x.heard ++ [(g, k)]), x.log, x.forced, x.able, x.said, x.whole, x.told⟩
def forcedAll (x : House) : House := ⟨x.state, x.heard, x.log, x.log.length, x.able, x.said, x.whole, x.told⟩
def sentMore (sent ls : List Letter) : List Letter := if (ls.filter fun l => !decide (l ∈ sent)) = [] then sent else srt Letter.d (dd (sent ++ ls.filter fun l => !decide (l ∈ sent)))
def withHouse (S : Standing) (h : Nat) (x : House) (ls : List Letter) : Standing := ⟨S.houses.take h ++ [x] ++ S.houses.drop (h + 1), sentMore S.sent ls⟩
def ruleSteps (p : Proto) (n h : Nat) (x : House) : List Step := ((rulesAt p h x).zipIdx.filter fun q => isThere q.1.cause h n x).map fun q => .rule h q.2
def hearSteps (sent : List Letter) (h : Nat) (x : House) : List Step := (sent.filter fun l => decide (l.dst = h) && !decide ((l.src, l.kind) ∈ x.heard)).map fun l => .hear h l.src l.kind
def fallSteps (h : Nat) (x : House) : List Step := (List.range' x.forced (x.log.length + 1 - x.forced)).map fun l => .fall h l
def forceSteps (h : Nat) (x : House) : List Step := if x.forced < x.log.length then [.force h] else []
/-- what one house can do -/
def stepsAt (p : Proto) (n : Nat) (sent : List Letter) (h : Nat) (x : House) : List Step := match x.state with
  | none => [.up h]
  | some _ => (ruleSteps p n h x ++ hearSteps sent h x) ++ fallSteps h x ++ forceSteps h x
def stepsOf (p : Proto) (n : Nat) (S : Standing) : List Step := S.houses.zipIdx.flatMap fun q => stepsAt p n S.sent q.2 q.1
/-- the house behind its own step -/
def houseDone (p : Proto) (x : House) : Step → House
  | .rule h r => match ruleAt p h x r with
    | none => x
    | some rule => ruled p h x rule
  | .hear _ g k => heardMore x g k
  | .force _ => forcedAll x
  | .fall _ l => fallen x l
  | .up h => upped p h x
/-- the letters that a step brings -/
def lettersOf (p : Proto) (n : Nat) (x : House) : Step → List Letter
  | .rule h r => match ruleAt p h x r with
    | none => []
    | some rule => lettersBy h n rule
  | _ => []
def houseAt (S : Standing) (h : Nat) : House := (S.houses[h]?).getD ⟨none, [], [], 0, false, none, false, []⟩
def stepDone (p : Proto) (n : Nat) (S : Standing) (s : Step) : Standing := withHouse S s.h (houseDone p (houseAt S s.h) s) (lettersOf p n (houseAt S s.h) s)
/-- from S over the steps, if all of them can be done -/
def runFrom (p : Proto) (n : Nat) : Standing → List Step → Option Standing
  | S, [] => some S
  | S, s :: r => if s ∈ stepsOf p n S then runFrom p n (stepDone p n S s) r else none
/-- what a house of a standing keeps -/
structure House.Ok (p : Proto) (n h : Nat) (x : House) : Prop where
  state : ∀ s, x.state = some s → s < (roleAt p h).states.length
  heard : ∀ q ∈ x.heard, q.1 < n ∧ q.1 ≠ h ∧ q.2 ∈ kindsIn p
  heardUp : Up hdD x.heard
  log : ∀ m ∈ x.log, m ∈ marksIn (roleAt p h)
  logNd : x.log.Nodup
  forced : x.forced ≤ x.log.length
  said : ∀ s, x.said = some s → s ≤ (marksIn (roleAt p h)).length
  told : ∀ e ∈ x.told, e = wd "dropped" ∨ e = wd "kept"
  toldUp : Up Wd.d x.told
  down : x.state = none → x.heard = [] ∧ x.able = false ∧ x.forced = x.log.length
structure Standing.Ok (p : Proto) (n : Nat) (S : Standing) : Prop where
  len : S.houses.length = n
  houses : ∀ (h : Nat) (x : House), S.houses[h]? = some x → x.Ok p n h
  sent : ∀ l ∈ S.sent, l.src < n ∧ l.dst < n ∧ l.src ≠ l.dst ∧ l.kind ∈ kindsIn p
  sentUp : Up Letter.d S.sent
end K23

-- text C1
set_option Elab.async false
set_option linter.all false
set_option maxRecDepth 100000
set_option maxHeartbeats 2000000
namespace K23
open PySem PySem.Spec PyProof.Rows L2
section
theorem names_len (z : Wd) (h : z ∈ w0 :: NAMES) : z.s.length ≤ sizeLine := by
  have key : ((w0 :: NAMES).all fun z => decide (z.s.length ≤ 10)) = true := by decide +kernel
  have := of_decide_eq_true (List.all_eq_true.mp key z h)
  exact Nat.le_trans this (by decide)
theorem names_ok (z : Wd) (h : z ∈ w0 :: NAMES) : (true && ((decide ((1 : Int) ≤ (z.s.length : Int)) && decide ((z.s.length : Int) ≤ 10)) && (z.s.cps.toList.map fun c => decide (c ∈ (("abcdefghijklmnopqrstuvwxyz" : Str)).cps.toList)).all _root_.id)) = decide (z ∈ NAMES) := by
  have key : ((w0 :: NAMES).all fun z => (true && ((decide ((1 : Int) ≤ (z.s.length : Int)) && decide ((z.s.length : Int) ≤ 10)) && (z.s.cps.toList.map fun c => decide (c ∈ (("abcdefghijklmnopqrstuvwxyz" : Str)).cps.toList)).all _root_.id)) == decide (z ∈ NAMES)) = true := by decide +kernel
  exact beq_iff_eq.mp (List.all_eq_true.mp key z h)
variable {P : Program} {w : World} {K : PySem.W.Frag} {mg : Str → Option Value} {base : Heap}
theorem w_is_integer (T : Top K mg) : Fn P w K mg base 1 "is_integer" ["thing"] (fun1 fun ds d => ∃ i : Int, ds = [.int i] ∧ d = .bl true) := by
  obtain ⟨f, fd, hm, F⟩ := T.e10
  have S : FnScope ["thing"] ["thing"] (defScope s10) := ⟨rfl, rfl, rfl, by decide +kernel, rfl, by decide +kernel, by decide +kernel⟩
  refine fn_mk (k := 0) F hm S (F.bindsN (ps := ["thing"]) fun _ _ _ _ _ _ us hl => match us, hl with | [_], _ => rfl) (fun M ds P r => by obtain ⟨_, ⟨i, rfl, rfl⟩, rfl⟩ := r; rfl) ?_
  rintro cdv A fr s M _ _ H0 E su ⟨_, ⟨i, rfl, rfl⟩, rfl⟩ rt nx
  have nd := S.nd
  refine ST.norm (ds' := [_]) rfl ?_
  exact st_retE (be_and (be_isi T.f_isinstance T.f_int "int" (be_var 0) rfl) fun _ => be_one (be_not (be_isi T.f_isinstance T.f_bool "bool" (be_var 0) rfl))) (rt _ rfl)
theorem w_is_between (T : Top K mg) : Fn P w K mg base 2 "is_between" ["thing", "least", "most"] (fun1 fun ds d => ∃ a b c : Int, ds = [.int a, .int b, .int c] ∧ d = .bl (decide (b ≤ a) && decide (a ≤ c))) := by
  obtain ⟨f, fd, hm, F⟩ := T.e11
  have S : FnScope ["thing", "least", "most"] ["thing", "least", "most"] (defScope s11) := ⟨rfl, rfl, rfl, by decide +kernel, rfl, by decide +kernel, by decide +kernel⟩
  refine fn_mk (k := 1) F hm S (F.bindsN (ps := ["thing", "least", "most"]) fun _ _ _ _ _ _ us hl => match us, hl with | [_, _, _], _ => rfl) (fun M ds P r => by obtain ⟨_, ⟨a, b, c, rfl, rfl⟩, rfl⟩ := r; rfl) ?_
  rintro cdv A fr s M _ _ H0 E su ⟨_, ⟨a, b, c, rfl, rfl⟩, rfl⟩ rt nx
  have nd := S.nd
  refine ST.norm (ds' := [_, _, _]) rfl ?_
  exact st_retE (be_and (be_call (w_is_integer T) (su.mono (by decide)) (bae (be_var 0) ba_nil) (⟨_, rfl, rfl⟩)) fun _ => be_one (be_between (be_var 1) (be_var 0) (be_var 2))) (rt _ rfl)
theorem w_is_row_looks (T : Top K mg) : Fn P w K mg base 1 "is_row_looks" ["thing", "many"] (fun1 fun ds d => ∃ (l : List D) (n : Int), ds = [.tup l, .int n] ∧ d = .bl (decide ((l.length : Int) = n))) := by
  obtain ⟨f, fd, hm, F⟩ := T.e13
  have S : FnScope ["thing", "many"] ["thing", "many"] (defScope s13) := ⟨rfl, rfl, rfl, by decide +kernel, rfl, by decide +kernel, by decide +kernel⟩
  refine fn_mk (k := 0) F hm S (F.bindsN (ps := ["thing", "many"]) fun _ _ _ _ _ _ us hl => match us, hl with | [_, _], _ => rfl) (fun M ds P r => by obtain ⟨_, ⟨l, n, rfl, rfl⟩, rfl⟩ := r; rfl) ?_
  rintro cdv A fr s M _ _ H0 E su ⟨_, ⟨l, n, rfl, rfl⟩, rfl⟩ rt nx
  have nd := S.nd
  refine ST.norm (ds' := [_, _]) rfl ?_
  exact st_retE (be_and (be_isi T.f_isinstance T.f_tuple "tuple" (be_var 0) rfl) fun _ => be_one (bq_eqI su.u64 (be_len T.f_len (be_var 0)) (be_var 1))) (rt _ rfl)
theorem w_is_one_of (T : Top K mg) : Fn P w K mg base 1 "is_one_of" ["thing", "words"] (fun1 fun ds d => ∃ (z : Str) (y : D) (es : List D), ds = [.str z, y] ∧ D.ok (.str z) = true ∧ y.ok = true ∧ y.seq = some es ∧ d = .bl (D.has es (.str z))) := by
  obtain ⟨f, fd, hm, F⟩ := T.e15
  have S : FnScope ["thing", "words"] ["thing", "words"] (defScope s15) := ⟨rfl, rfl, rfl, by decide +kernel, rfl, by decide +kernel, by decide +kernel⟩
  refine fn_mk (k := 0) F hm S (F.bindsN (ps := ["thing", "words"]) fun _ _ _ _ _ _ us hl => match us, hl with | [_, _], _ => rfl) (fun M ds P r => by obtain ⟨_, ⟨z, y, es, rfl, hz, hy, hs, rfl⟩, rfl⟩ := r; rfl) ?_
  rintro cdv A fr s M _ _ H0 E su ⟨_, ⟨z, y, es, rfl, hz, hy, hs, rfl⟩, rfl⟩ rt nx
  have nd := S.nd
  refine ST.norm (ds' := [_, _]) rfl ?_
  exact st_retE (be_and (be_isi T.f_isinstance T.f_str "str" (be_var 0) rfl) fun _ => be_one (be_in (x := .str z) su.u64 (be_var 0) (be_var 1) hs hz hy (Nat.zero_le _))) (rt _ rfl)
theorem w_role_at (T : Top K mg) : Fn P w K mg base 1 "role_at" ["protocol", "h"] (fun1 fun ds d => ∃ (p : Proto) (h : Nat), ds = [p.d, .int h] ∧ d = (if h = 0 then p.leader else p.member).d) := by
  obtain ⟨f, fd, hm, F⟩ := T.e42
  have S : FnScope ["protocol", "h"] ["protocol", "h"] (defScope s42) := ⟨rfl, rfl, rfl, by decide +kernel, rfl, by decide +kernel, by decide +kernel⟩
  refine fn_mk (k := 0) F hm S (F.bindsN (ps := ["protocol", "h"]) fun _ _ _ _ _ _ us hl => match us, hl with | [_, _], _ => rfl) (fun M ds P r => by obtain ⟨_, ⟨p, h, rfl, rfl⟩, rfl⟩ := r; rfl) ?_
  rintro cdv A fr s M _ _ H0 E su ⟨_, ⟨p, h, rfl, rfl⟩, rfl⟩ rt nx
  have nd := S.nd
  refine ST.norm (ds' := [_, _]) rfl ?_
  refine st_retE (be_if (tq_eqI su.u64 (be_var 1) be_int) (fun _ => be_ix (be_var 0) be_int) (fun _ => be_ix (be_var 0) be_int)) (rt _ ?_)
  by_cases e : h = 0 <;> simp [e]
theorem w_is_name (T : Top K mg) : Fn P w K mg base 1 "is_name" ["thing"] (fun1 fun ds d => ∃ (z : Wd), ds = [.str z.s] ∧ z ∈ w0 :: NAMES ∧ d = .bl (decide (z ∈ NAMES))) := by
  obtain ⟨f, fd, hm, F⟩ := T.e12
  have S : FnScope ["thing", "sign"] ["thing"] (defScope s12) := ⟨rfl, rfl, rfl, by decide +kernel, rfl, by decide +kernel, by decide +kernel⟩
  refine fn_mk (k := 0) F hm S (F.bindsN (ps := ["thing"]) fun _ _ _ _ _ _ us hl => match us, hl with | [_], _ => rfl) (fun M ds P r => by obtain ⟨_, ⟨z, rfl, hz, rfl⟩, rfl⟩ := r; rfl) ?_
  rintro cdv A fr s M _ _ H0 E su ⟨_, ⟨z, rfl, hz, rfl⟩, rfl⟩ rt nx
  have nd := S.nd
  refine ST.norm (ds' := [_, _]) rfl ?_
  have sz : z.s.length ≤ sizeLine := names_len z hz
  have sz2 : z.s.cps.toList.length ≤ sizeLine := names_len z hz
  refine st_retE (be_and (be_isi T.f_isinstance T.f_str "str" (be_var 0) rfl) fun _ => be_and (be_between be_int (be_lenS T.f_len (be_var 0) sz) (be_gInt T.g_MOST_LETTERS_looks)) fun _ => be_one (be_allM rfl T.f_all (be_map (φ := fun c : Nat => D.str ⟨#[c]⟩) (ys := z.s.cps.toList) (f := fun c => D.bl (decide (c ∈ (("abcdefghijklmnopqrstuvwxyz" : Str)).cps.toList))) (is := [1]) (g := _) (own := [("sign", 1)]) ⟨rfl, nd, blkOk_by (N := ["thing", "sign"]) (sc := defScope s12) (own := [("sign", 1)]) (by decide +kernel), by decide, fun y hy X' hX => by have su := hX.sur su; obtain ⟨_, _, _, _, _, rfl⟩ := hX.ex; exact bg_name (i := 1) nd, fun y hy X' hX => by have su := hX.sur su; obtain ⟨_, _, _, _, _, rfl⟩ := hX.ex; exact bts_nil, fun y hy hk X' hX => by have su := hX.sur su; obtain ⟨_, _, _, _, _, rfl⟩ := hX.ex; exact be_inS (be_var 1) (be_gStr T.g_LETTERS), fun y d hy hk e => by subst e; exact Im.k⟩ (bi_str (be_var 0)) sz2))) (rt _ (congrArg D.bl ?_))
  rw [← names_ok z hz, List.all_map]
  rfl
end
end K23


-- text C2
set_option Elab.async false
set_option linter.all false
set_option maxRecDepth 100000
set_option maxHeartbeats 2000000
namespace K23
open PySem PySem.Spec PyProof.Rows L2
theorem has_Wd (l : List Wd) (z : Wd) : D.has (l.map Wd.d) (.str z.s) = decide (z ∈ l) := has_of kdW.inj kdW.nb l z
def rulD (t : Nat × Nat × Rule) : D := .tup [.int t.1, .int t.2.1, t.2.2.d]
instance {t} : Gd (rulD t) 4 := ⟨(inferInstance : Gd (.tup [.int t.1, .int t.2.1, t.2.2.d]) _).ok, (inferInstance : Gd (.tup [.int t.1, .int t.2.1, t.2.2.d]) _).dp⟩
instance {t} : Im (rulD t) := inferInstanceAs (Im (.tup [.int t.1, .int t.2.1, t.2.2.d]))
theorem rulesOf_map (ρ : Role) : (ρ.states.zipIdx.flatMap fun p => p.1.rules.zipIdx.map fun q => D.tup [.int p.2, .int q.2, q.1.d]) = (rulesOf ρ).map rulD := by
  unfold rulesOf
  rw [List.map_flatMap]
  congr 1
  funext p
  rw [List.map_map]
  rfl
/-- the sizes that the walks ask -/
structure Role.Small (ρ : Role) : Prop where
  len : ρ.states.length ≤ 12
  rules : ∀ s ∈ ρ.states, s.rules.length ≤ 6
theorem Role.Ok.small {b : Bool} {ρ : Role} (h : ρ.Ok b) : ρ.Small := ⟨h.len, fun s hs => (h.states s hs).len⟩
theorem sum_le {α : Type} (f : α → Nat) (c : Nat) : ∀ l : List α, (∀ x ∈ l, f x ≤ c) → (l.map f).sum ≤ l.length * c
  | [], _ => by simp
  | x :: l, h => by
    have a := sum_le f c l fun y hy => h y (List.mem_cons_of_mem _ hy)
    have b := h x List.mem_cons_self
    simp only [List.map_cons, List.sum_cons, List.length_cons, Nat.succ_mul]
    omega
theorem rulesOf_len {ρ : Role} (h : ρ.Small) : (rulesOf ρ).length ≤ 72 := by
  unfold rulesOf
  rw [List.length_flatMap]
  have := sum_le (fun p : State × Nat => (p.1.rules.zipIdx.map fun q => (p.2, q.2, q.1)).length) 6 ρ.states.zipIdx (fun p hp => by
    rw [List.length_map, List.length_zipIdx]
    exact h.rules p.1 (List.fst_mem_of_mem_zipIdx hp))
  rw [List.length_zipIdx] at this
  have := h.len
  omega
section
variable {P : Program} {w : World} {K : PySem.W.Frag} {mg : Str → Option Value} {base : Heap}
theorem w_is_cause (T : Top K mg) : Fn P w K mg base 2 "is_cause" ["thing"] (fun1 fun ds d => ∃ c : Cause, ds = [c.d] ∧ (∀ k ∈ c.kinds, k ∈ NAMES) ∧ d = .bl true) := by
  obtain ⟨f, fd, hm, F⟩ := T.e30
  have S : FnScope ["thing"] ["thing"] (defScope s30) := ⟨rfl, rfl, rfl, by decide +kernel, rfl, by decide +kernel, by decide +kernel⟩
  refine fn_mk (k := 1) F hm S (F.bindsN (ps := ["thing"]) fun _ _ _ _ _ _ us hl => match us, hl with | [_], _ => rfl) (fun M ds P r => by obtain ⟨_, ⟨c, rfl, hc, rfl⟩, rfl⟩ := r; rfl) ?_
  rintro cdv A fr s M _ _ H0 E su ⟨_, ⟨c, rfl, hc, rfl⟩, rfl⟩ rt nx
  have nd := S.nd
  refine ST.norm (ds' := [_]) rfl ?_
  cases c with
  | able => exact st_take (BT.is (bte_val (be_call (w_is_row_looks T) (su.mono (by decide)) (bae (be_var 0) (bae be_int ba_nil)) (⟨_, _, rfl, rfl⟩))) rfl) (st_retE (be_call (w_is_one_of T) (su.mono (by decide)) (bae (be_ix (be_var 0) be_int) (bae (be_gTup T.g_PLAIN_CAUSES) ba_nil)) (⟨_, _, _, rfl, Gd.k, Gd.k, rfl, rfl⟩)) (rt _ (congrArg D.bl (by decide +kernel))))
  | unable => exact st_take (BT.is (bte_val (be_call (w_is_row_looks T) (su.mono (by decide)) (bae (be_var 0) (bae be_int ba_nil)) (⟨_, _, rfl, rfl⟩))) rfl) (st_retE (be_call (w_is_one_of T) (su.mono (by decide)) (bae (be_ix (be_var 0) be_int) (bae (be_gTup T.g_PLAIN_CAUSES) ba_nil)) (⟨_, _, _, rfl, Gd.k, Gd.k, rfl, rfl⟩)) (rt _ (congrArg D.bl (by decide +kernel))))
  | timer => exact st_take (BT.is (bte_val (be_call (w_is_row_looks T) (su.mono (by decide)) (bae (be_var 0) (bae be_int ba_nil)) (⟨_, _, rfl, rfl⟩))) rfl) (st_retE (be_call (w_is_one_of T) (su.mono (by decide)) (bae (be_ix (be_var 0) be_int) (bae (be_gTup T.g_PLAIN_CAUSES) ba_nil)) (⟨_, _, _, rfl, Gd.k, Gd.k, rfl, rfl⟩)) (rt _ (congrArg D.bl (by decide +kernel))))
  | some k =>
    have hk : k ∈ NAMES := hc k List.mem_cons_self
    refine st_skip (BT.is (bte_val (be_call (w_is_row_looks T) (su.mono (by decide)) (bae (be_var 0) (bae be_int ba_nil)) (⟨_, _, rfl, rfl⟩))) rfl) (st_retE (be_and (be_call (w_is_row_looks T) (su.mono (by decide)) (bae (be_var 0) (bae be_int ba_nil)) (⟨_, _, rfl, rfl⟩)) fun _ => be_and (be_call (w_is_one_of T) (su.mono (by decide)) (bae (be_ix (be_var 0) be_int) (bae (be_gTup T.g_KIND_CAUSES) ba_nil)) (⟨_, _, _, rfl, Gd.k, Gd.k, rfl, rfl⟩)) fun _ => be_one (be_call (w_is_name T) (su.mono (by decide)) (bae (be_ix (be_var 0) be_int) ba_nil) (⟨_, rfl, List.mem_cons_of_mem _ hk, rfl⟩))) (rt _ (congrArg D.bl ?_)))
    rw [decide_eq_true hk]
    rfl
  | each k =>
    have hk : k ∈ NAMES := hc k List.mem_cons_self
    refine st_skip (BT.is (bte_val (be_call (w_is_row_looks T) (su.mono (by decide)) (bae (be_var 0) (bae be_int ba_nil)) (⟨_, _, rfl, rfl⟩))) rfl) (st_retE (be_and (be_call (w_is_row_looks T) (su.mono (by decide)) (bae (be_var 0) (bae be_int ba_nil)) (⟨_, _, rfl, rfl⟩)) fun _ => be_and (be_call (w_is_one_of T) (su.mono (by decide)) (bae (be_ix (be_var 0) be_int) (bae (be_gTup T.g_KIND_CAUSES) ba_nil)) (⟨_, _, _, rfl, Gd.k, Gd.k, rfl, rfl⟩)) fun _ => be_one (be_call (w_is_name T) (su.mono (by decide)) (bae (be_ix (be_var 0) be_int) ba_nil) (⟨_, rfl, List.mem_cons_of_mem _ hk, rfl⟩))) (rt _ (congrArg D.bl ?_)))
    rw [decide_eq_true hk]
    rfl
theorem w_is_letter_rule (T : Top K mg) : Fn P w K mg base 2 "is_letter_rule" ["thing", "receivers"] (fun1 fun ds d => ∃ (p : Sd) (b : Bool), ds = [sdD p, .tup ((rcvs b).map Wd.d)] ∧ p.1 ∈ NAMES ∧ p.2 ∈ rcvs b ∧ d = .bl true) := by
  obtain ⟨f, fd, hm, F⟩ := T.e31
  have S : FnScope ["thing", "receivers"] ["thing", "receivers"] (defScope s31) := ⟨rfl, rfl, rfl, by decide +kernel, rfl, by decide +kernel, by decide +kernel⟩
  refine fn_mk (k := 1) F hm S (F.bindsN (ps := ["thing", "receivers"]) fun _ _ _ _ _ _ us hl => match us, hl with | [_, _], _ => rfl) (fun M ds P r => by obtain ⟨_, ⟨p, b, rfl, h1, h2, rfl⟩, rfl⟩ := r; rfl) ?_
  rintro cdv A fr s M _ _ H0 E su ⟨_, ⟨p, b, rfl, h1, h2, rfl⟩, rfl⟩ rt nx
  have nd := S.nd
  refine ST.norm (ds' := [_, _]) rfl ?_
  refine st_retE (be_and (be_call (w_is_row_looks T) (su.mono (by decide)) (bae (be_var 0) (bae be_int ba_nil)) (⟨_, _, rfl, rfl⟩)) fun _ => be_and (be_call (w_is_name T) (su.mono (by decide)) (bae (be_ix (be_var 0) be_int) ba_nil) (⟨_, rfl, List.mem_cons_of_mem _ h1, rfl⟩)) fun _ => be_one (be_call (w_is_one_of T) (su.mono (by decide)) (bae (be_ix (be_var 0) be_int) (bae (be_var 1) ba_nil)) (⟨_, _, _, rfl, Gd.k, Gd.k, rfl, rfl⟩))) (rt _ (congrArg D.bl ?_))
  rw [has_Wd, decide_eq_true h1, decide_eq_true h2]
  rfl
theorem w_is_rule (T : Top K mg) : Fn P w K mg base 3 "is_rule" ["thing", "receivers", "states"] (fun1 fun ds d => ∃ (r : Rule) (b : Bool) (n : Nat), ds = [r.d, .tup ((rcvs b).map Wd.d), .int n] ∧ r.Ok b n ∧ d = .bl true) := by
  obtain ⟨f, fd, hm, F⟩ := T.e32
  have S : FnScope ["thing", "receivers", "states", "pair"] ["thing", "receivers", "states"] (defScope s32) := ⟨rfl, rfl, rfl, by decide +kernel, rfl, by decide +kernel, by decide +kernel⟩
  refine fn_mk (k := 2) F hm S (F.bindsN (ps := ["thing", "receivers", "states"]) fun _ _ _ _ _ _ us hl => match us, hl with | [_, _, _], _ => rfl) (fun M ds P r => by obtain ⟨_, ⟨r, b, n, rfl, h, rfl⟩, rfl⟩ := r; rfl) ?_
  rintro cdv A fr s M _ _ H0 E su ⟨_, ⟨r, b, n, rfl, h, rfl⟩, rfl⟩ rt nx
  have nd := S.nd
  refine ST.norm (ds' := [_, _, _, _]) rfl ?_
  have hm : r.mark ∈ w0 :: NAMES := h.mark.elim (List.mem_cons_of_mem _) fun z => z.1 ▸ List.mem_cons_self
  have hl := h.len
  have hg := h.goes
  refine st_skip (BT.is (BW.bt (bw_or (bt_not (bte_val (be_call (w_is_row_looks T) (su.mono (by decide)) (bae (be_var 0) (bae be_int ba_nil)) (⟨_, _, rfl, rfl⟩)))) fun _ => bw_or (bt_not (bte_val (be_call (w_is_cause T) (su.mono (by decide)) (bae (be_ix (be_var 0) be_int) ba_nil) (⟨_, rfl, h.cause, rfl⟩)))) fun _ => bw_or1 (bt_not (bte_val (be_isi T.f_isinstance T.f_bool "bool" (be_ix (be_var 0) be_int) rfl))))) rfl) ?_
  have e1 : (!(decide (r.mark ∈ NAMES) || (D.has [.str ""] (.str r.mark.s) && !r.forced))) = false := by
    rcases h.mark with z | ⟨z1, z2⟩
    · rw [decide_eq_true z]
      rfl
    · rw [z1, z2]
      rfl
  refine st_skip (BT.is (bt_not (BW.bt (bw_or (bte_val (be_call (w_is_name T) (su.mono (by decide)) (bae (be_ix (be_var 0) be_int) ba_nil) (⟨_, rfl, hm, rfl⟩))) fun _ => bw_or1 (BW.bt (bw_and (bte_val (be_call (w_is_one_of T) (su.mono (by decide)) (bae (be_ix (be_var 0) be_int) (bae (be_tup (bae be_str ba_nil)) ba_nil)) (⟨_, _, _, rfl, Gd.k, Gd.k, rfl, rfl⟩))) fun _ => bw_and1 (bt_not (bte_val (be_ix (be_var 0) be_int)))))))) e1) ?_
  refine st_skip (BT.is (BW.bt (bw_or (bt_not (bte_val (be_isi T.f_isinstance T.f_tuple "tuple" (be_ix (be_var 0) be_int) rfl))) fun _ => bw_or1 (bt_gt (be_len T.f_len (be_ix (be_var 0) be_int)) (be_gInt T.g_MOST_LETTERS_rolework)))) (by simp; omega)) ?_
  refine st_retE (be_and (be_allM rfl T.f_all (be_map (φ := sdD) (ys := r.sends) (f := fun _ => .bl true) (is := [3]) (g := _) (own := [("pair", 3)]) ⟨rfl, nd, blkOk_by (N := ["thing", "receivers", "states", "pair"]) (sc := defScope s32) (own := [("pair", 3)]) (by decide +kernel), by decide, fun y hy X' hX => by have su := hX.sur su; obtain ⟨_, _, _, _, _, rfl⟩ := hX.ex; exact bg_name (i := 3) nd, fun y hy X' hX => by have su := hX.sur su; obtain ⟨_, _, _, _, _, rfl⟩ := hX.ex; exact bts_nil, fun y hy hk X' hX => by have su := hX.sur su; obtain ⟨_, _, _, _, _, rfl⟩ := hX.ex; exact be_call (w_is_letter_rule T) (su.mono (by decide)) (bae (be_var 3) (bae (be_var 1) ba_nil)) (⟨_, _, rfl, (h.sends y hy).1, (h.sends y hy).2, rfl⟩), fun y d hy hk e => by subst e; exact Im.k⟩ (bie_tup (be_ix (be_var 0) be_int)) (Nat.le_trans h.len (by decide)))) fun _ => be_one (be_call (w_is_between T) (su.mono (by decide)) (bae (be_ix (be_var 0) be_int) (bae be_int (bae (be_sub (be_var 2) be_int) ba_nil))) (⟨_, _, _, rfl, rfl⟩))) (rt _ (congrArg D.bl ?_))
  simp
  omega
theorem w_is_state (T : Top K mg) : Fn P w K mg base 4 "is_state" ["thing", "receivers", "states"] (fun1 fun ds d => ∃ (s : State) (b : Bool) (n : Nat), ds = [s.d, .tup ((rcvs b).map Wd.d), .int n] ∧ s.Ok b n ∧ d = .bl true) := by
  obtain ⟨f, fd, hm, F⟩ := T.e33
  have S : FnScope ["thing", "receivers", "states", "rule"] ["thing", "receivers", "states"] (defScope s33) := ⟨rfl, rfl, rfl, by decide +kernel, rfl, by decide +kernel, by decide +kernel⟩
  refine fn_mk (k := 3) F hm S (F.bindsN (ps := ["thing", "receivers", "states"]) fun _ _ _ _ _ _ us hl => match us, hl with | [_, _, _], _ => rfl) (fun M ds P r => by obtain ⟨_, ⟨s, b, n, rfl, h, rfl⟩, rfl⟩ := r; rfl) ?_
  rintro cdv A fr s M _ _ H0 E su ⟨_, ⟨s, b, n, rfl, h, rfl⟩, rfl⟩ rt nx
  have nd := S.nd
  refine ST.norm (ds' := [_, _, _, _]) rfl ?_
  have hl := h.len
  have e1 : D.has ([("kept" : Str), "dropped", ""].map D.str) (.str s.fin.s) = true := by
    rw [show ([("kept" : Str), "dropped", ""].map D.str) = FINS.map Wd.d from rfl, has_Wd]
    exact decide_eq_true h.fin
  refine st_skip (BT.is (BW.bt (bw_or (bt_not (bte_val (be_call (w_is_row_looks T) (su.mono (by decide)) (bae (be_var 0) (bae be_int ba_nil)) (⟨_, _, rfl, rfl⟩)))) fun _ => bw_or (bt_not (bte_val (be_call (w_is_one_of T) (su.mono (by decide)) (bae (be_ix (be_var 0) be_int) (bae (be_gTup T.g_ENDS) ba_nil)) (⟨_, _, _, rfl, Gd.k, Gd.k, rfl, rfl⟩)))) fun _ => bw_or1 (bt_not (bte_val (be_isi T.f_isinstance T.f_tuple "tuple" (be_ix (be_var 0) be_int) rfl))))) (by rw [e1]; rfl)) ?_
  refine st_retE (be_and (be_le (be_len T.f_len (be_ix (be_var 0) be_int)) (be_gInt T.g_MOST_RULES)) fun _ => be_one (be_allM rfl T.f_all (be_map (φ := Rule.d) (ys := s.rules) (f := fun _ => .bl true) (is := [3]) (g := _) (own := [("rule", 3)]) ⟨rfl, nd, blkOk_by (N := ["thing", "receivers", "states", "rule"]) (sc := defScope s33) (own := [("rule", 3)]) (by decide +kernel), by decide, fun y hy X' hX => by have su := hX.sur su; obtain ⟨_, _, _, _, _, rfl⟩ := hX.ex; exact bg_name (i := 3) nd, fun y hy X' hX => by have su := hX.sur su; obtain ⟨_, _, _, _, _, rfl⟩ := hX.ex; exact bts_nil, fun y hy hk X' hX => by have su := hX.sur su; obtain ⟨_, _, _, _, _, rfl⟩ := hX.ex; exact be_call (w_is_rule T) (su.mono (by decide)) (bae (be_var 3) (bae (be_var 1) (bae (be_var 2) ba_nil))) (⟨_, _, _, rfl, h.rules y hy, rfl⟩), fun y d hy hk e => by subst e; exact Im.k⟩ (bie_tup (be_ix (be_var 0) be_int)) (Nat.le_trans h.len (by decide))))) (rt _ (congrArg D.bl ?_))
  simp
  omega
theorem w_is_up (T : Top K mg) : Fn P w K mg base 3 "is_up" ["thing", "states"] (fun1 fun ds d => ∃ (p : UpP) (n : Nat), ds = [upD p, .int n] ∧ p.2 < n ∧ d = .bl true) := by
  obtain ⟨f, fd, hm, F⟩ := T.e34
  have S : FnScope ["thing", "states"] ["thing", "states"] (defScope s34) := ⟨rfl, rfl, rfl, by decide +kernel, rfl, by decide +kernel, by decide +kernel⟩
  refine fn_mk (k := 2) F hm S (F.bindsN (ps := ["thing", "states"]) fun _ _ _ _ _ _ us hl => match us, hl with | [_, _], _ => rfl) (fun M ds P r => by obtain ⟨_, ⟨p, n, rfl, h, rfl⟩, rfl⟩ := r; rfl) ?_
  rintro cdv A fr s M _ _ H0 E su ⟨_, ⟨p, n, rfl, h, rfl⟩, rfl⟩ rt nx
  have nd := S.nd
  refine ST.norm (ds' := [_, _]) rfl ?_
  refine st_retE (be_and (be_call (w_is_row_looks T) (su.mono (by decide)) (bae (be_var 0) (bae be_int ba_nil)) (⟨_, _, rfl, rfl⟩)) fun _ => be_and (be_isi T.f_isinstance T.f_str "str" (be_ix (be_var 0) be_int) rfl) fun _ => be_one (be_call (w_is_between T) (su.mono (by decide)) (bae (be_ix (be_var 0) be_int) (bae be_int (bae (be_sub (be_var 1) be_int) ba_nil))) (⟨_, _, _, rfl, rfl⟩))) (rt _ (congrArg D.bl ?_))
  simp
  omega
theorem w_rules_of (T : Top K mg) : Fn P w K mg base 1 "rules_of" ["role"] (fun1 fun ds d => ∃ ρ : Role, ds = [ρ.d] ∧ ρ.Small ∧ d = .lst ((rulesOf ρ).map rulD)) := by
  obtain ⟨f, fd, hm, F⟩ := T.e39
  have S : FnScope ["role", "s", "state", "r", "rule"] ["role"] (defScope s39) := ⟨rfl, rfl, rfl, by decide +kernel, rfl, by decide +kernel, by decide +kernel⟩
  refine fn_mk (k := 0) F hm S (F.bindsN (ps := ["role"]) fun _ _ _ _ _ _ us hl => match us, hl with | [_], _ => rfl) (fun M ds P r => by obtain ⟨_, ⟨ρ, rfl, h, rfl⟩, rfl⟩ := r; rfl) ?_
  rintro cdv A fr s M _ _ H0 E su ⟨_, ⟨ρ, rfl, h, rfl⟩, rfl⟩ rt nx
  have nd := S.nd
  refine ST.norm (ds' := [_, _, _, _, _]) rfl ?_
  exact st_retE (be_lc2 (φ := fun p : State × Nat => .tup [.int p.2, p.1.d]) (ys := ρ.states.zipIdx) (ψ := fun q : Rule × Nat => .tup [.int q.2, q.1.d]) (zs := fun p => p.1.rules.zipIdx) (f := fun p q => .tup [.int p.2, .int q.2, q.1.d]) (is := [1, 2]) (is1 := [3, 4]) (g := _) (g1 := _) (own := [("s", 1), ("state", 2), ("r", 3), ("rule", 4)]) (vs1 := [3, 4]) ⟨rfl, nd, blkOk_by (N := ["role", "s", "state", "r", "rule"]) (sc := defScope s39) (own := [("s", 1), ("state", 2), ("r", 3), ("rule", 4)]) (by decide +kernel), by decide, by decide, by decide, fun y hy X' hX M' => by have su := hX.sur su; obtain ⟨_, _, _, _, _, rfl⟩ := hX.ex; exact bg_tup rfl (bgs_cons (bg_name (i := 1) nd) (bgs_cons (bg_name (i := 2) nd) (bgs_nil))) 2, fun y hy X' hX M' => by have su := hX.sur su; obtain ⟨_, _, _, _, _, rfl⟩ := hX.ex; exact bie_enum T.f_enumerate (be_ix (be_var 2) be_int), fun y hy z hz X' hX M' => by have su := hX.sur su; obtain ⟨_, _, _, _, _, rfl⟩ := hX.ex; exact bg_tup rfl (bgs_cons (bg_name (i := 3) nd) (bgs_cons (bg_name (i := 4) nd) (bgs_nil))) 2, fun y hy z hz X' hX M' => by have su := hX.sur su; obtain ⟨_, _, _, _, _, rfl⟩ := hX.ex; exact be_tup (bae (be_var 1) (bae (be_var 3) (bae (be_var 4) ba_nil))), fun y hy => Im.k, fun y hy z hz => Im.k, (by rw [rulesOf_map, List.length_map]; exact Nat.le_trans (rulesOf_len h) (by decide))⟩ (bie_enum T.f_enumerate (be_ix (be_var 0) be_int))) (rt _ (by rw [rulesOf_map]))
end
end K23


-- text C3
set_option Elab.async false
set_option linter.all false
set_option maxRecDepth 100000
set_option maxHeartbeats 2000000
namespace K23
open PySem PySem.Spec PyProof.Rows L2
theorem wk_inj (a b : Wd) (h : (Sum.inr a.s : Key) = Sum.inr b.s) : a = b := Wd.ext (Sum.inr.inj h)
theorem dd_keys (l : List Wd) : (dd (l.map fun w => (Sum.inr w.s : Key))).map keyD = (dd l).map Wd.d := by
  rw [dd_map wk_inj, List.map_map]
  rfl
theorem eqv_self {d : D} (h : d.nb = true) : D.eqv d d = true := (eqv_nb d d h h).mpr rfl
section
variable {P : Program} {w : World} {K : PySem.W.Frag} {mg : Str → Option Value} {base : Heap}
theorem w_marks_in (T : Top K mg) : Fn P w K mg base 2 "marks_in" ["role"] (fun1 fun ds d => ∃ ρ : Role, ds = [ρ.d] ∧ ρ.Small ∧ d = .lst ((marksIn ρ).map Wd.d)) := by
  obtain ⟨f, fd, hm, F⟩ := T.e40
  have S : FnScope ["role", "s", "r", "rule"] ["role"] (defScope s40) := ⟨rfl, rfl, rfl, by decide +kernel, rfl, by decide +kernel, by decide +kernel⟩
  refine fn_mk (k := 1) F hm S (F.bindsN (ps := ["role"]) fun _ _ _ _ _ _ us hl => match us, hl with | [_], _ => rfl) (fun M ds P r => by obtain ⟨_, ⟨ρ, rfl, h, rfl⟩, rfl⟩ := r; rfl) ?_
  rintro cdv A fr s M _ _ H0 E su ⟨_, ⟨ρ, rfl, h, rfl⟩, rfl⟩ rt nx
  have nd := S.nd
  refine ST.norm (ds' := [_, _, _, _]) rfl ?_
  have ek : (dd (((rulesOf ρ).filter fun t => !decide (t.2.2.mark.s = ("" : Str))).map fun t => (Sum.inr t.2.2.mark.s : Key))).map keyD = (dd (((rulesOf ρ).filter fun t => !decide (t.2.2.mark.s = ("" : Str))).map fun t => t.2.2.mark)).map Wd.d := by
    rw [← dd_keys, List.map_map]
    rfl
  have so : Sortd ((dd (((rulesOf ρ).filter fun t => !decide (t.2.2.mark.s = ("" : Str))).map fun t => (Sum.inr t.2.2.mark.s : Key))).map keyD) := by
    rw [ek]
    exact kdW.sortd _
  refine st_retE (be_sortedD su.u64 rfl T.f_sorted (bd_dc (φ := rulD) (ys := rulesOf ρ) (f := fun t => .inr t.2.2.mark.s) (keep := fun t => !decide (t.2.2.mark.s = ("" : Str))) (is := [1, 2, 3]) (g := _) (own := [("s", 1), ("r", 2), ("rule", 3)]) ⟨rfl, nd, blkOk_by (N := ["role", "s", "r", "rule"]) (sc := defScope s40) (own := [("s", 1), ("r", 2), ("rule", 3)]) (by decide +kernel), by decide, fun y hy X' hX => by have su := hX.sur su; obtain ⟨_, _, _, _, _, rfl⟩ := hX.ex; exact bg_tup rfl (bgs_cons (bg_name (i := 1) nd) (bgs_cons (bg_name (i := 2) nd) (bgs_cons (bg_name (i := 3) nd) (bgs_nil)))) 3, fun y hy X' hX => by have su := hX.sur su; obtain ⟨_, _, _, _, _, rfl⟩ := hX.ex; exact bts_one (tq_neS su.u64 (be_ix (be_var 3) be_int) be_str), fun y hy hk X' hX => by have su := hX.sur su; obtain ⟨_, _, _, _, _, rfl⟩ := hX.ex; exact be_ix (be_var 3) be_int, fun y d hy hk e => by subst e; rfl⟩ (fun y hy X' hX => be_bl.imp fun _ _ => trivial) (bie_lst (be_call (w_rules_of T) (su.mono (by decide)) (bae (be_var 0) ba_nil) (⟨_, rfl, h, rfl⟩))) (Nat.le_trans (rulesOf_len h) (by decide))) so) (rt _ ?_)
  rw [ek, sortD_map]
  rfl
theorem w_is_role_value (T : Top K mg) : Fn P w K mg base 5 "is_role_value" ["thing", "is_leader"] (fun1 fun ds d => ∃ (ρ : Role) (b : Bool), ds = [ρ.d, .bl b] ∧ ρ.Ok b ∧ d = .bl true) := by
  obtain ⟨f, fd, hm, F⟩ := T.e35
  have S : FnScope ["thing", "is_leader", "receivers", "states", "state", "pair", "mark"] ["thing", "is_leader"] (defScope s35) := ⟨rfl, rfl, rfl, by decide +kernel, rfl, by decide +kernel, by decide +kernel⟩
  refine fn_mk (k := 4) F hm S (F.bindsN (ps := ["thing", "is_leader"]) fun _ _ _ _ _ _ us hl => match us, hl with | [_, _], _ => rfl) (fun M ds P r => by obtain ⟨_, ⟨ρ, b, rfl, h, rfl⟩, rfl⟩ := r; rfl) ?_
  rintro cdv A fr s M _ _ H0 E su ⟨_, ⟨ρ, b, rfl, h, rfl⟩, rfl⟩ rt nx
  have nd := S.nd
  refine ST.norm (ds' := [_, _, _, _, _, _, _]) rfl ?_
  have hp := h.pos
  have hl := h.len
  refine st_set (i := 2) (hN := nd) (BP.is (be_if (bte_val (be_var 1)) (fun _ => be_tup (bae (be_gStr T.g_MEMBERS) (bae (be_gStr T.g_OTHERS) ba_nil))) (fun _ => be_tup (bae (be_gStr T.g_LEADER) (bae (be_gStr T.g_MEMBERS) (bae (be_gStr T.g_OTHERS) ba_nil))))) (show _ = D.tup ((rcvs b).map Wd.d) by cases b <;> rfl)) ?_
  refine ST.norm (ds' := [_, _, _, _, _, _, _]) rfl ?_
  refine st_skip (BT.is (BW.bt (bw_or (bt_not (bte_val (be_call (w_is_row_looks T) (su.mono (by decide)) (bae (be_var 0) (bae be_int ba_nil)) (⟨_, _, rfl, rfl⟩)))) fun _ => bw_or (bt_not (bte_val (be_isi T.f_isinstance T.f_tuple "tuple" (be_ix (be_var 0) be_int) rfl))) fun _ => bw_or1 (bt_not (bte_val (be_isi T.f_isinstance T.f_tuple "tuple" (be_ix (be_var 0) be_int) rfl))))) rfl) ?_
  refine st_set (i := 3) (hN := nd) (be_len T.f_len (be_ix (be_var 0) be_int)) ?_
  refine ST.norm (ds' := [_, _, _, _, _, _, _]) rfl ?_
  refine st_skip (BT.is (BW.bt (bw_or (bt_not (bt_between be_int (be_var 3) (be_gInt T.g_MOST_STATES))) fun _ => bw_or1 (bt_not (bte_val (be_allM rfl T.f_all (be_map (φ := State.d) (ys := ρ.states) (f := fun _ => .bl true) (is := [4]) (g := _) (own := [("state", 4)]) ⟨rfl, nd, blkOk_by (N := ["thing", "is_leader", "receivers", "states", "state", "pair", "mark"]) (sc := defScope s35) (own := [("state", 4)]) (by decide +kernel), by decide, fun y hy X' hX => by have su := hX.sur su; obtain ⟨_, _, _, _, _, rfl⟩ := hX.ex; exact bg_name (i := 4) nd, fun y hy X' hX => by have su := hX.sur su; obtain ⟨_, _, _, _, _, rfl⟩ := hX.ex; exact bts_nil, fun y hy hk X' hX => by have su := hX.sur su; obtain ⟨_, _, _, _, _, rfl⟩ := hX.ex; exact be_call (w_is_state T) (su.mono (by decide)) (bae (be_var 4) (bae (be_var 2) (bae (be_var 3) ba_nil))) (⟨_, _, _, rfl, by rw [List.length_map]; exact h.states y hy, rfl⟩), fun y d hy hk e => by subst e; exact Im.k⟩ (bie_tup (be_ix (be_var 0) be_int)) (Nat.le_trans h.len (by decide)))))))) (by simp; omega)) ?_
  have upl : ρ.ups.length = (marksIn ρ).length + 1 := by
    have := congrArg List.length h.marks
    simpa using this
  have upm : (marksIn ρ).length ≤ 72 := by
    unfold marksIn
    rw [srt_len]
    refine Nat.le_trans (dd_len _) ?_
    rw [List.length_map]
    exact Nat.le_trans (List.length_filter_le _ _) (rulesOf_len h.small)
  have upsz : ρ.ups.length ≤ sizeLine := by rw [upl]; exact Nat.le_trans (Nat.succ_le_succ upm) (by decide)
  refine st_skip (BT.is (bt_not (bte_val (be_allM rfl T.f_all (be_map (φ := upD) (ys := ρ.ups) (f := fun _ => .bl true) (is := [5]) (g := _) (own := [("pair", 5)]) ⟨rfl, nd, blkOk_by (N := ["thing", "is_leader", "receivers", "states", "state", "pair", "mark"]) (sc := defScope s35) (own := [("pair", 5)]) (by decide +kernel), by decide, fun y hy X' hX => by have su := hX.sur su; obtain ⟨_, _, _, _, _, rfl⟩ := hX.ex; exact bg_name (i := 5) nd, fun y hy X' hX => by have su := hX.sur su; obtain ⟨_, _, _, _, _, rfl⟩ := hX.ex; exact bts_nil, fun y hy hk X' hX => by have su := hX.sur su; obtain ⟨_, _, _, _, _, rfl⟩ := hX.ex; exact be_call (w_is_up T) (su.mono (by decide)) (bae (be_var 5) (bae (be_var 3) ba_nil)) (⟨_, _, rfl, by rw [List.length_map]; exact h.ups y hy, rfl⟩), fun y d hy hk e => by subst e; exact Im.k⟩ (bie_tup (be_ix (be_var 0) be_int)) upsz)))) (by simp)) ?_
  have sz : ([D.str ""] : List D).length + ((marksIn ρ).map Wd.d).length ≤ sizeLine := by rw [List.length_map]; exact Nat.le_trans (Nat.add_le_add_left upm _) (by decide)
  refine st_retE (bq_eq su.u64 (be_map (φ := upD) (ys := ρ.ups) (f := fun p => .str p.1.s) (is := [6, 4]) (g := _) (own := [("mark", 6), ("state", 4)]) ⟨rfl, nd, blkOk_by (N := ["thing", "is_leader", "receivers", "states", "state", "pair", "mark"]) (sc := defScope s35) (own := [("mark", 6), ("state", 4)]) (by decide +kernel), by decide, fun y hy X' hX => by have su := hX.sur su; obtain ⟨_, _, _, _, _, rfl⟩ := hX.ex; exact bg_tup rfl (bgs_cons (bg_name (i := 6) nd) (bgs_cons (bg_name (i := 4) nd) (bgs_nil))) 2, fun y hy X' hX => by have su := hX.sur su; obtain ⟨_, _, _, _, _, rfl⟩ := hX.ex; exact bts_nil, fun y hy hk X' hX => by have su := hX.sur su; obtain ⟨_, _, _, _, _, rfl⟩ := hX.ex; exact be_var 6, fun y d hy hk e => by subst e; exact Im.k⟩ (bie_tup (be_ix (be_var 0) be_int)) upsz) (be_catL (be_lst (bae be_str ba_nil)) (be_call (w_marks_in T) (su.mono (by decide)) (bae (be_var 0) ba_nil) (⟨_, rfl, h.small, rfl⟩)) (by first | decide | assumption | (simp [PySem.sizeLine]; done) | omega))) (rt _ (congrArg D.bl ?_))
  have e : (ρ.ups.map fun p => D.str p.1.s) = [D.str ""] ++ (marksIn ρ).map Wd.d := by
    rw [show (ρ.ups.map fun p => D.str p.1.s) = (ρ.ups.map (·.1)).map Wd.d by rw [List.map_map]; rfl, h.marks]
    rfl
  rw [e]
  refine eqv_self ?_
  show (true && D.nb.nbs ((marksIn ρ).map Wd.d)) = true
  rw [nbs_map _ fun _ _ => rfl]
  rfl
theorem w_is_protocol_value (T : Top K mg) : Fn P w K mg base 6 "is_protocol_value" ["thing"] (fun1 fun ds d => ∃ p : Proto, ds = [p.d] ∧ p.Ok ∧ d = .bl true) := by
  obtain ⟨f, fd, hm, F⟩ := T.e36
  have S : FnScope ["thing"] ["thing"] (defScope s36) := ⟨rfl, rfl, rfl, by decide +kernel, rfl, by decide +kernel, by decide +kernel⟩
  refine fn_mk (k := 5) F hm S (F.bindsN (ps := ["thing"]) fun _ _ _ _ _ _ us hl => match us, hl with | [_], _ => rfl) (fun M ds P r => by obtain ⟨_, ⟨p, rfl, h, rfl⟩, rfl⟩ := r; rfl) ?_
  rintro cdv A fr s M _ _ H0 E su ⟨_, ⟨p, rfl, h, rfl⟩, rfl⟩ rt nx
  have nd := S.nd
  refine ST.norm (ds' := [_]) rfl ?_
  exact st_retE (be_and (be_call (w_is_row_looks T) (su.mono (by decide)) (bae (be_var 0) (bae be_int ba_nil)) (⟨_, _, rfl, rfl⟩)) fun _ => be_and (be_call (w_is_role_value T) (su.mono (by decide)) (bae (be_ix (be_var 0) be_int) (bae be_bl ba_nil)) (⟨_, _, rfl, h.leader, rfl⟩)) fun _ => be_one (be_call (w_is_role_value T) (su.mono (by decide)) (bae (be_ix (be_var 0) be_int) (bae be_bl ba_nil)) (⟨_, _, rfl, h.member, rfl⟩))) (rt _ rfl)
theorem w_need_protocol (T : Top K mg) : Fn P w K mg base 7 "need_protocol" ["protocol"] (fun1 fun ds d => ∃ p : Proto, ds = [p.d] ∧ p.Ok ∧ d = .non) := by
  obtain ⟨f, fd, hm, F⟩ := T.e37
  have S : FnScope ["protocol"] ["protocol"] (defScope s37) := ⟨rfl, rfl, rfl, by decide +kernel, rfl, by decide +kernel, by decide +kernel⟩
  refine fn_mk (k := 6) F hm S (F.bindsN (ps := ["protocol"]) fun _ _ _ _ _ _ us hl => match us, hl with | [_], _ => rfl) (fun M ds P r => by obtain ⟨_, ⟨p, rfl, h, rfl⟩, rfl⟩ := r; rfl) ?_
  rintro cdv A fr s M _ _ H0 E su ⟨_, ⟨p, rfl, h, rfl⟩, rfl⟩ rt nx
  have nd := S.nd
  refine ST.norm (ds' := [_]) rfl ?_
  exact st_skip (BT.is (bt_not (bte_val (be_call (w_is_protocol_value T) (su.mono (by decide)) (bae (be_var 0) ba_nil) (⟨_, rfl, h, rfl⟩)))) rfl) (st_nil fun σ H en w => nx σ H w rfl)
theorem w_need_both (T : Top K mg) : Fn P w K mg base 8 "need_both" ["protocol", "n"] (fun1 fun ds d => ∃ (p : Proto) (n : Nat), ds = [p.d, .int n] ∧ p.Ok ∧ 1 ≤ n ∧ n ≤ 4 ∧ d = .non) := by
  obtain ⟨f, fd, hm, F⟩ := T.e38
  have S : FnScope ["protocol", "n"] ["protocol", "n"] (defScope s38) := ⟨rfl, rfl, rfl, by decide +kernel, rfl, by decide +kernel, by decide +kernel⟩
  refine fn_mk (k := 7) F hm S (F.bindsN (ps := ["protocol", "n"]) fun _ _ _ _ _ _ us hl => match us, hl with | [_, _], _ => rfl) (fun M ds P r => by obtain ⟨_, ⟨p, n, rfl, h, h1, h4, rfl⟩, rfl⟩ := r; rfl) ?_
  rintro cdv A fr s M _ _ H0 E su ⟨_, ⟨p, n, rfl, h, h1, h4, rfl⟩, rfl⟩ rt nx
  have nd := S.nd
  refine ST.norm (ds' := [_, _]) rfl ?_
  exact st_expr (be_call (w_need_protocol T) (su.mono (by decide)) (bae (be_var 0) ba_nil) (⟨_, rfl, h, rfl⟩)) (st_skip (BT.is (bt_not (bte_val (be_call (w_is_between T) (su.mono (by decide)) (bae (be_var 1) (bae be_int (bae (be_gInt T.g_MOST_HOUSES) ba_nil))) (⟨_, _, _, rfl, rfl⟩)))) (by simp; omega)) (st_nil fun σ H en w => nx σ H w rfl))
end
end K23


-- text C4
set_option Elab.async false
set_option linter.all false
set_option maxRecDepth 100000
set_option maxHeartbeats 2000000
namespace K23
open PySem PySem.Spec PyProof.Rows L2
instance {n : Nat} : Im (natD n) := ⟨rfl⟩
instance {n : Nat} : Gd (natD n) 0 := ⟨rfl, Nat.le_refl _⟩
theorem onD_eqv (o : Option Nat) : D.eqv (onD o) (.int (-1)) = decide (o = none) := by
  cases o with
  | none => rfl
  | some k =>
    show D.eqv (.int k) (.int (-1)) = _
    rw [eqv_int, decide_eq_false (by omega)]
    rfl
theorem lastOf_at {log : List Wd} (h : log ≠ []) : log.getLast? = some (lastOf log) := by
  unfold lastOf
  cases e : log.getLast? with
  | none => exact absurd (List.getLast?_eq_none_iff.mp e) h
  | some x => rfl
section
variable {P : Program} {w : World} {K : PySem.W.Frag} {mg : Str → Option Value} {base : Heap}
theorem w_state_up (T : Top K mg) : Fn P w K mg base 1 "state_up" ["role", "log"] (fun1 fun ds d => ∃ (ρ : Role) (log : List Wd), ds = [ρ.d, .tup (log.map Wd.d)] ∧ ρ.ups.length ≤ sizeLine ∧ (∃ q ∈ ρ.ups, q.1 = lastOf log) ∧ d = .int (stateUp ρ log)) := by
  obtain ⟨f, fd, hm, F⟩ := T.e43
  have S : FnScope ["role", "log", "last", "mark", "state"] ["role", "log"] (defScope s43) := ⟨rfl, rfl, rfl, by decide +kernel, rfl, by decide +kernel, by decide +kernel⟩
  refine fn_mk (k := 0) F hm S (F.bindsN (ps := ["role", "log"]) fun _ _ _ _ _ _ us hl => match us, hl with | [_, _], _ => rfl) (fun M ds P r => by obtain ⟨_, ⟨ρ, log, rfl, hz, hq, rfl⟩, rfl⟩ := r; rfl) ?_
  rintro cdv A fr s M _ _ H0 E su ⟨_, ⟨ρ, log, rfl, hz, hq, rfl⟩, rfl⟩ rt nx
  have nd := S.nd
  refine ST.norm (ds' := [_, _, _, _, _]) rfl ?_
  have e1 : D.eqv (.tup (log.map Wd.d)) (.tup []) = log.isEmpty := by rw [eqv_nil]; cases log <;> rfl
  have hat : atI ((ρ.ups.filter fun q => decide (q.1.s = (lastOf log).s)).map fun p => D.int (p.2 : Nat)) 0 = some (.int (stateUp ρ log)) := by
    obtain ⟨q, hq1, hq2⟩ := hq
    have hm : q ∈ ρ.ups.filter fun q => decide (q.1.s = (lastOf log).s) := List.mem_filter.mpr ⟨hq1, decide_eq_true (by rw [hq2])⟩
    unfold stateUp
    cases e : ρ.ups.filter fun q => decide (q.1.s = (lastOf log).s) with
    | nil => rw [e] at hm; cases hm
    | cons x l => exact at_nat (k := 0) rfl
  by_cases hl : log = []
  · refine st_set (i := 2) (hN := nd) (d := .str (lastOf log).s) (BP.is (be_ifF (BT.is (tq_ne su.u64 (be_var 1) (be_tup ba_nil)) (by rw [e1, hl]; rfl)) be_str) (by rw [hl]; rfl)) ?_
    refine ST.norm (ds' := [_, _, _, _, _]) rfl ?_
    exact st_retE (be_ixL (be_lc (φ := upD) (ys := ρ.ups) (f := fun p => .int (p.2 : Nat)) (keep := fun p => decide (p.1.s = (lastOf log).s)) (is := [3, 4]) (g := _) (own := [("mark", 3), ("state", 4)]) ⟨rfl, nd, blkOk_by (N := ["role", "log", "last", "mark", "state"]) (sc := defScope s43) (own := [("mark", 3), ("state", 4)]) (by decide +kernel), by decide, fun y hy X' hX => by have su := hX.sur su; obtain ⟨_, _, _, _, _, rfl⟩ := hX.ex; exact bg_tup rfl (bgs_cons (bg_name (i := 3) nd) (bgs_cons (bg_name (i := 4) nd) (bgs_nil))) 2, fun y hy X' hX => by have su := hX.sur su; obtain ⟨_, _, _, _, _, rfl⟩ := hX.ex; exact bts_one (tq_eqS su.u64 (be_var 3) (be_var 2)), fun y hy hk X' hX => by have su := hX.sur su; obtain ⟨_, _, _, _, _, rfl⟩ := hX.ex; exact be_var 4, fun y d hy hk e => by subst e; exact Im.k⟩ (bie_tup (be_ix (be_var 0) be_int)) hz) be_int hat) (rt _ rfl)
  · refine st_set (i := 2) (hN := nd) (d := .str (lastOf log).s) (be_ifT (BT.is (tq_ne su.u64 (be_var 1) (be_tup ba_nil)) (by rw [e1]; cases log; exact absurd rfl hl; rfl)) (be_ix (be_var 1) (be_neg be_int) (at_last (f := Wd.d) (lastOf_at hl)))) ?_
    refine ST.norm (ds' := [_, _, _, _, _]) rfl ?_
    exact st_retE (be_ixL (be_lc (φ := upD) (ys := ρ.ups) (f := fun p => .int (p.2 : Nat)) (keep := fun p => decide (p.1.s = (lastOf log).s)) (is := [3, 4]) (g := _) (own := [("mark", 3), ("state", 4)]) ⟨rfl, nd, blkOk_by (N := ["role", "log", "last", "mark", "state"]) (sc := defScope s43) (own := [("mark", 3), ("state", 4)]) (by decide +kernel), by decide, fun y hy X' hX => by have su := hX.sur su; obtain ⟨_, _, _, _, _, rfl⟩ := hX.ex; exact bg_tup rfl (bgs_cons (bg_name (i := 3) nd) (bgs_cons (bg_name (i := 4) nd) (bgs_nil))) 2, fun y hy X' hX => by have su := hX.sur su; obtain ⟨_, _, _, _, _, rfl⟩ := hX.ex; exact bts_one (tq_eqS su.u64 (be_var 3) (be_var 2)), fun y hy hk X' hX => by have su := hX.sur su; obtain ⟨_, _, _, _, _, rfl⟩ := hX.ex; exact be_var 4, fun y d hy hk e => by subst e; exact Im.k⟩ (bie_tup (be_ix (be_var 0) be_int)) hz) be_int hat) (rt _ rfl)
theorem w_houses_told (T : Top K mg) : Fn P w K mg base 1 "houses_told" ["h", "n", "receiver"] (fun1 fun ds d => ∃ (h n : Nat) (r : Wd), ds = [.int h, .int n, .str r.s] ∧ n ≤ 4 ∧ d = .lst ((housesTold h n r).map natD)) := by
  obtain ⟨f, fd, hm, F⟩ := T.e44
  have S : FnScope ["h", "n", "receiver", "other", "first"] ["h", "n", "receiver"] (defScope s44) := ⟨rfl, rfl, rfl, by decide +kernel, rfl, by decide +kernel, by decide +kernel⟩
  refine fn_mk (k := 0) F hm S (F.bindsN (ps := ["h", "n", "receiver"]) fun _ _ _ _ _ _ us hl => match us, hl with | [_, _, _], _ => rfl) (fun M ds P r => by obtain ⟨_, ⟨h, n, r, rfl, hn, rfl⟩, rfl⟩ := r; rfl) ?_
  rintro cdv A fr s M _ _ H0 E su ⟨_, ⟨h, n, r, rfl, hn, rfl⟩, rfl⟩ rt nx
  have nd := S.nd
  refine ST.norm (ds' := [_, _, _, _, _]) rfl ?_
  by_cases h1 : r.s = ("leader" : Str)
  · refine st_take (BT.is (tq_eqS su.u64 (be_var 2) (be_gStr T.g_LEADER)) (decide_eq_true h1)) (st_retE (be_lc (φ := natD) (ys := [0]) (f := natD) (keep := fun o => !decide (o = h)) (is := [3]) (g := _) (own := [("other", 3)]) ⟨rfl, nd, blkOk_by (N := ["h", "n", "receiver", "other", "first"]) (sc := defScope s44) (own := [("other", 3)]) (by decide +kernel), by decide, fun y hy X' hX => by have su := hX.sur su; obtain ⟨_, _, _, _, _, rfl⟩ := hX.ex; exact bg_name (i := 3) nd, fun y hy X' hX => by have su := hX.sur su; obtain ⟨_, _, _, _, _, rfl⟩ := hX.ex; exact bts_one (BT.is (tq_neI su.u64 (be_var 3) (be_var 0)) (nz _ _)), fun y hy hk X' hX => by have su := hX.sur su; obtain ⟨_, _, _, _, _, rfl⟩ := hX.ex; exact be_var 3, fun y d hy hk e => by subst e; exact Im.k⟩ (bie_tup (be_tup (bae be_int ba_nil))) (by decide)) (rt _ ?_))
    unfold housesTold
    rw [if_pos h1]
  · refine st_skip (BT.is (tq_eqS su.u64 (be_var 2) (be_gStr T.g_LEADER)) (decide_eq_false h1)) ?_
    refine st_set (i := 4) (hN := nd) (d := .int ((if r.s = ("members" : Str) then 1 else 0 : Nat) : Int)) (BP.is (be_if (tq_eqS su.u64 (be_var 2) (be_gStr T.g_MEMBERS)) (fun _ => be_int) (fun _ => be_int)) (by by_cases h2 : r.s = ("members" : Str) <;> simp [h2])) ?_
    refine ST.norm (ds' := [_, _, _, _, _]) rfl ?_
    have lo : (if r.s = ("members" : Str) then 1 else 0 : Nat) < 2 ^ 62 := by split <;> decide
    refine st_retE (be_lc (φ := natD) (ys := List.range' (if r.s = ("members" : Str) then 1 else 0) (n - (if r.s = ("members" : Str) then 1 else 0))) (f := natD) (keep := fun o => !decide (o = h)) (is := [3]) (g := _) (own := [("other", 3)]) ⟨rfl, nd, blkOk_by (N := ["h", "n", "receiver", "other", "first"]) (sc := defScope s44) (own := [("other", 3)]) (by decide +kernel), by decide, fun y hy X' hX => by have su := hX.sur su; obtain ⟨_, _, _, _, _, rfl⟩ := hX.ex; exact bg_name (i := 3) nd, fun y hy X' hX => by have su := hX.sur su; obtain ⟨_, _, _, _, _, rfl⟩ := hX.ex; exact bts_one (BT.is (tq_neI su.u64 (be_var 3) (be_var 0)) (nz _ _)), fun y hy hk X' hX => by have su := hX.sur su; obtain ⟨_, _, _, _, _, rfl⟩ := hX.ex; exact be_var 3, fun y d hy hk e => by subst e; exact Im.k⟩ (bie_rng2 T.f_range (be_var 4) (be_var 1)) (by rw [List.length_range']; exact Nat.le_trans (Nat.sub_le _ _) (Nat.le_trans hn (by decide)))) (rt _ ?_)
    unfold housesTold
    rw [if_neg h1]
theorem w_told_more (T : Top K mg) : Fn P w K mg base 1 "told_more" ["told", "end"] (fun1 fun ds d => ∃ (told : List Wd) (e : Wd), ds = [.tup (told.map Wd.d), .str e.s] ∧ told.length ≤ 1000 ∧ d = .tup ((toldMore told e).map Wd.d)) := by
  obtain ⟨f, fd, hm, F⟩ := T.e53
  have S : FnScope ["told", "end"] ["told", "end"] (defScope s53) := ⟨rfl, rfl, rfl, by decide +kernel, rfl, by decide +kernel, by decide +kernel⟩
  refine fn_mk (k := 0) F hm S (F.bindsN (ps := ["told", "end"]) fun _ _ _ _ _ _ us hl => match us, hl with | [_, _], _ => rfl) (fun M ds P r => by obtain ⟨_, ⟨told, e, rfl, hl, rfl⟩, rfl⟩ := r; rfl) ?_
  rintro cdv A fr s M _ _ H0 E su ⟨_, ⟨told, e, rfl, hl, rfl⟩, rfl⟩ rt nx
  have nd := S.nd
  refine ST.norm (ds' := [_, _]) rfl ?_
  have sz : (told.map Wd.d).length + [Wd.d e].length ≤ sizeLine := by rw [List.length_map]; exact Nat.le_trans (Nat.add_le_add_right hl _) (by show 1000 + 1 ≤ sizeLine; decide)
  have so : Sortd (told.map Wd.d ++ [Wd.d e]) := by
    rw [show told.map Wd.d ++ [Wd.d e] = (told ++ [e]).map Wd.d by rw [List.map_append]; rfl]
    exact kdW.sortd _
  have szz : (told.map Wd.d ++ [Wd.d e]).length ≤ sizeLine := by rw [List.length_append]; exact sz
  refine st_retE (BP.is (be_if (BW.bt (bw_or (tq_eqS su.u64 (be_var 1) be_str) fun _ => bw_or1 (tq_inK kdW.inj kdW.nb su.u64 (be_var 1) (be_var 0)))) (fun _ => be_var 0) (fun _ => be_tupleOf T.f_tuple (be_sorted su.u64 T.f_sorted (be_catT (be_var 0) (be_tup (bae (be_var 1) ba_nil)) (by first | decide | assumption | (simp [PySem.sizeLine]; done) | omega)) so szz))) ?_) (rt _ rfl)
  unfold toldMore
  by_cases h : e.s = ("" : Str) ∨ e ∈ told
  · have : (decide (e.s = ("" : Str)) || decide (e ∈ told)) = true := by simpa using h
    rw [if_pos h, if_pos this]
  · have : ¬ (decide (e.s = ("" : Str)) || decide (e ∈ told)) = true := by simpa using h
    rw [if_neg h, if_neg this, show told.map Wd.d ++ [Wd.d e] = (told ++ [e]).map Wd.d by rw [List.map_append]; rfl, sortD_map]
end
end K23


-- text A18
set_option Elab.async false
set_option linter.all false
set_option maxRecDepth 100000
set_option maxHeartbeats 2000000
namespace K23
open PySem PySem.Spec PyProof.Rows L2

/-! ## 29. loops whose state is known turn by turn; typed own lists -/
/-- behind a turn -/
def Rch (X : Cx) (H1 : Hp) (M' : Md) (ds : List (Option D)) : L2.St → Hp → Prop := fun σ H => En X.K M'.S H σ ds ∧ (M'.at H1).W H
section
variable {α : Type} {X : Cx} {M : Md} {ds : List (Option D)} {tg iter : Expr} {body rest : List Stmt} {E : Ends} {pos : Pos}
theorem st_forD {φ : α → D} {ys : List α} (hi : BIE X M ds tg iter (ys.map φ)) (St : Nat → Md) (dsf : Nat → List (Option D)) (h0 : St 0 = M) (hd : dsf 0 = ds) (hS : ∀ i, (St i).S = M.S)
    (turn : ∀ H1 i y, ys[i]? = some y → ∃ ds2 is, BG X ((St i).at H1) tg (φ y) (dsf i) ds2 is ∧ ST X ((St i).at H1) ds2 body { E with nx := Rch X H1 (St (i + 1)) (dsf (i + 1)), ct := Rch X H1 (St (i + 1)) (dsf (i + 1)), bk := fun σ H => wS X rest E σ H })
    (done : ∀ H1, ST X ((St ys.length).at H1) (dsf ys.length) rest E) (hc : X.calm = true := by rfl) (hp : PassesOwn (model X.prog X.w) X.A X.env X.xe := by exact PassesOwn.never) (hs : ∀ x, foldedSetIterable iter X.env x = pure x := by intro _; rfl) : ST X M ds (.For tg iter body [] pos :: rest) E := by
  refine st_for (Ys := fun z => z = ys.map φ) hc hp hi (fun zs i M' ds' => M' = St i ∧ ds' = dsf i) (fun _ _ => ⟨h0.symm, hd.symm⟩) (fun zs i M' ds' h => by rw [h.1]; exact hS i) ?_ ?_ hs
  · rintro H1 zs i z M' ds' rfl hz ⟨rfl, rfl⟩
    obtain ⟨y, hy, rfl⟩ := getElem_map_some hz
    obtain ⟨ds2, is, b, st⟩ := turn H1 i y hy
    have e : (Reach X H1 fun M' ds'' => M' = St (i + 1) ∧ ds'' = dsf (i + 1)) = Rch X H1 (St (i + 1)) (dsf (i + 1)) := by
      funext σ H
      exact propext ⟨fun ⟨M1, d1, ⟨h1, h2⟩, h3, h4⟩ => by rw [h1] at h3 h4; rw [h2] at h3; exact ⟨h3, h4⟩, fun ⟨h1, h2⟩ => ⟨_, _, ⟨rfl, rfl⟩, h1, h2⟩⟩
    rw [e]
    exact ⟨ds2, is, b, st⟩
  · rintro H1 zs M' ds' rfl ⟨rfl, rfl⟩
    rw [List.length_map]
    exact done H1
theorem st_forS {φ : α → D} {ys : List α} (hi : BIE X M ds tg iter (ys.map φ)) (St : Nat → Md) (h0 : St 0 = M) (hS : ∀ i, (St i).S = M.S)
    (turn : ∀ H1 i y, ys[i]? = some y → ∃ ds2 is, BG X ((St i).at H1) tg (φ y) ds ds2 is ∧ ST X ((St i).at H1) ds2 body { E with nx := Rch X H1 (St (i + 1)) ds, ct := Rch X H1 (St (i + 1)) ds, bk := fun σ H => wS X rest E σ H })
    (done : ∀ H1, ST X ((St ys.length).at H1) ds rest E) (hc : X.calm = true := by rfl) (hp : PassesOwn (model X.prog X.w) X.A X.env X.xe := by exact PassesOwn.never) (hs : ∀ x, foldedSetIterable iter X.env x = pure x := by intro _; rfl) : ST X M ds (.For tg iter body [] pos :: rest) E :=
  st_forD hi St (fun _ => ds) h0 rfl hS turn done hc hp hs
/-- the end of a turn -/
theorem st_rch {H1 : Hp} {M' : Md} {ds0 : List (Option D)} {E' : Ends} (e : E'.nx = Rch X H1 M' ds0) (w : Wk ds0 ds) : ST X (M'.at H1) ds [] E' :=
  st_nil fun σ H en wm => by rw [e]; exact ⟨en.weak w, wm⟩
theorem st_rchC {H1 : Hp} {M' : Md} {ds0 : List (Option D)} {E' : Ends} (e : E'.ct = Rch X H1 M' ds0) (w : Wk ds0 ds) : ST X (M'.at H1) ds (.Continue pos :: rest) E' :=
  st_cont fun σ H en wm => by rw [e]; exact ⟨en.weak w, wm⟩
variable {e : Expr} {q : Addr}
/-- a list of our own that holds things of one kind -/
def Md.ls (M : Md) (K : PySem.W.Frag) (q : Addr) (f : α → D) (im : ∀ a, (f a).imm = true) (L : List α) : Md := M.push K q (L.map f) (imm_map im L)
theorem ls_mut {K : PySem.W.Frag} {f : α → D} {im : ∀ a, (f a).imm = true} {L L2 : List α} (nd : ¬ M.dep q) : Mut K (M.ls K q f im L) (M.ls K q f im (L ++ L2)) q (L.map f) (L.map f ++ L2.map f) := by
  have h := Mut.push (K := K) (hi := imm_map im L) (imm_map im (L ++ L2)) nd
  have e : L.map f ++ L2.map f = (L ++ L2).map f := List.map_append.symm
  exact ⟨h.sq, h.S, h.rd, fun H xs' w ex is => h.wr H xs' w ex (by rw [← e]; exact is)⟩
theorem ls_rd {K : PySem.W.Frag} {f : α → D} {im : ∀ a, (f a).imm = true} {L : List α} : Rdl K (M.ls K q f im L) q (L.map f) := Rdl.push
/-- found.append(e) -/
theorem st_app {i : Nat} {x : Str} {f : α → D} {L : List α} {a : α} {M' : Md} {p apos cpos : Pos} (im : ∀ a, (f a).imm = true) (he : BE X M ds e (f a)) (mu : Mut X.K M M' q (L.map f) (L.map f ++ [a].map f)) (k : ST X M' ds rest E) (hz : L.length < sizeLine)
    (h : ds[i]? = some (some (.adr q)) := by rfl) (hN : X.N[i]? = some x := by rfl) (hv : Vis X.env.scope x := by first | exact Or.inl rfl | exact Or.inr (Or.inl rfl) | exact Or.inr (Or.inr rfl)) (hd : (x == ("__debug__" : Str)) = false := by decide) (hc : (x == ("__classdict__" : Str)) = false := by decide)
    (hbase : attributeBase (.Name x p) "append" X.env (eval (.Name x p) X.env) = eval (.Name x p) X.env := by rfl)
    (hfew : ((backTo cpos (starEach [e] X.env)).all (fun x => !x.1) && (backToKw cpos (keywordEach [] X.env)).all (fun x => x.1.isSome) && decide (([e] : List Expr).length + ([] : List Keyword).length + (if ([] : List Keyword).isEmpty then 0 else 1) < 30)) = true := by rfl)
    (hline : (apos.endLine == cpos.line) = true := by rfl) (hs : starEach [e] X.env = (false, eval e X.env) :: starEach [] X.env := by rfl) (hplain : (backTo cpos (starEach [] X.env)).any (·.1) = false := by rfl) (hsw : swapsWith (.Call (.Attribute (.Name x p) "append" apos) [e] [] cpos) none pos.line X.env = pure false := by rfl) :
    ST X M ds (.Expr (.Call (.Attribute (.Name x p) "append" apos) [e] [] cpos) pos :: rest) E :=
  st_append (M' := fun _ => M') he (fun d pd => by subst pd; exact mu) (fun _ _ => k) mu.rd (fun d pd => by subst pd; exact im a) (imm_map im L) (by rw [List.length_map]; exact hz) h hN hv hd hc hbase hfew hline hs hplain hsw
/-- found.extend(e) -/
theorem st_ext {i : Nat} {x : Str} {f : α → D} {L L2 : List α} {M' : Md} {p apos cpos : Pos} (im : ∀ a, (f a).imm = true) (he : BE X M ds e (.lst (L2.map f))) (mu : Mut X.K M M' q (L.map f) (L.map f ++ L2.map f)) (k : ST X M' ds rest E) (hz : L.length + L2.length ≤ sizeLine)
    (h : ds[i]? = some (some (.adr q)) := by rfl) (hN : X.N[i]? = some x := by rfl) (hv : Vis X.env.scope x := by first | exact Or.inl rfl | exact Or.inr (Or.inl rfl) | exact Or.inr (Or.inr rfl)) (hd : (x == ("__debug__" : Str)) = false := by decide) (hc : (x == ("__classdict__" : Str)) = false := by decide)
    (hbase : attributeBase (.Name x p) "extend" X.env (eval (.Name x p) X.env) = eval (.Name x p) X.env := by rfl)
    (hfew : ((backTo cpos (starEach [e] X.env)).all (fun x => !x.1) && (backToKw cpos (keywordEach [] X.env)).all (fun x => x.1.isSome) && decide (([e] : List Expr).length + ([] : List Keyword).length + (if ([] : List Keyword).isEmpty then 0 else 1) < 30)) = true := by rfl)
    (hline : (apos.endLine == cpos.line) = true := by rfl) (hs : starEach [e] X.env = (false, eval e X.env) :: starEach [] X.env := by rfl) (hplain : (backTo cpos (starEach [] X.env)).any (·.1) = false := by rfl) (hsw : swapsWith (.Call (.Attribute (.Name x p) "extend" apos) [e] [] cpos) none pos.line X.env = pure false := by rfl) :
    ST X M ds (.Expr (.Call (.Attribute (.Name x p) "extend" apos) [e] [] cpos) pos :: rest) E :=
  st_extend he mu k (imm_map im L2) (imm_map im L) (by rw [List.length_map, List.length_map]; exact hz) h hN hv hd hc hbase hfew hline hs hplain hsw
/-- x = [] -/
theorem st_nl {i : Nat} {x : Str} {pos' p : Pos} (f : α → D) (im : ∀ a, (f a).imm = true) (k : ∀ q, ¬ M.dep q → ST X (M.ls X.K q f im []) (ds.set i (some (.adr q))) rest E) (hN : X.N.Nodup) (hi : X.N[i]? = some x := by rfl) (hx : Loc X.env.scope x := by first | exact Or.inl rfl | exact Or.inr rfl)
    (hs : swapsWith (.List [] p) (some (.Name x pos')) pos.line X.env = pure false := by rfl) (hf : X.fn x = true ∨ X.env.scope.names.lookup x = some .local := by exact Or.inl rfl) : ST X M ds (.Assign [.Name x pos'] (.List [] p) pos :: rest) E :=
  st_newList (fun q nd => k q nd) hN hi hx hs hf
theorem Ret.ls {K : PySem.W.Frag} {f : α → D} {im : ∀ a, (f a).imm = true} {L : List α} (nd : ¬ M.dep q) (r : Ret K M E (.lst (L.map f))) : Ret K (M.ls K q f im L) E (.adr q) := Ret.adr nd r
end
/-- .. and something is so -/
def Md.fact (M : Md) (φ : Prop) : Md where
  S := M.S
  W := fun H => M.W H ∧ φ
  dep := M.dep
  sd := M.sd
  dom := fun H a w => M.dom H a w.1
  ext := fun H H' B w hb e => ⟨M.ext H H' B w.1 hb e, w.2⟩
section
variable {X : Cx} {M : Md} {ds : List (Option D)} {b : List Stmt} {E : Ends} {φ : Prop} {H1 : Hp}
theorem ST.fact (h : φ → ST X ((M.fact φ).at H1) ds b E) : ST X ((M.fact φ).at H1) ds b E := ⟨fun σ H en w => (h w.1.2).go σ H en w⟩
theorem st_rchF {ψ : Prop} {ds0 : List (Option D)} (hψ : ψ) (e : E.nx = Rch X H1 (M.fact ψ) ds0) (w : Wk ds0 ds) : ST X ((M.fact φ).at H1) ds [] E :=
  st_nil fun σ H en wm => by rw [e]; exact ⟨en.weak w, ⟨wm.1.1, hψ⟩, wm.2⟩
theorem ST.toFact (hf : φ) (h : ST X (M.fact φ) ds b E) : ST X M ds b E := h.imp fun σ H en w => ⟨en, w, hf⟩
theorem Ret.fact {K : PySem.W.Frag} {d : D} (r : Ret K M E d) : Ret K (M.fact φ) E d := r.mono (fun _ w => w.1) fun _ s => s
end
end K23

-- text A19
set_option Elab.async false
set_option linter.all false
set_option maxRecDepth 100000
set_option maxHeartbeats 2000000
namespace K23
open PySem PySem.Spec PyProof.Rows L2

/-! ## 34. branches that meet again -/
structure Ends.Le (E E' : Ends) : Prop where
  nx : ∀ σ H, E.nx σ H → E'.nx σ H
  rt : ∀ v H, E.rt v H → E'.rt v H
  bk : ∀ σ H, E.bk σ H → E'.bk σ H
  ct : ∀ σ H, E.ct σ H → E'.ct σ H
theorem SP.le {X : Cx} {pins : List (Addr × Obj)} {E E' : Ends} (l : Ends.Le E E') {f : Flow} {s : Shared} (h : SP X pins E f s) : SP X pins E' f s := by
  cases f with
  | next => obtain ⟨σ, H, I, q⟩ := h; exact ⟨σ, H, I, l.nx σ H q⟩
  | brk => obtain ⟨σ, H, I, q⟩ := h; exact ⟨σ, H, I, l.bk σ H q⟩
  | cont => obtain ⟨σ, H, I, q⟩ := h; exact ⟨σ, H, I, l.ct σ H q⟩
  | ret u => obtain ⟨v, σ, H, I, r, q⟩ := h; exact ⟨v, σ, H, I, r, l.rt v H q⟩
theorem wS.le {X : Cx} {b : List Stmt} {E E' : Ends} (l : Ends.Le E E') {σ : L2.St} {H : Hp} (h : wS X b E σ H) : wS X b E' σ H := by
  obtain ⟨t, pt, q⟩ := h
  exact ⟨fun E1 σ H => ∃ E0, Ends.Le E0 E1 ∧ t E0 σ H, ⟨fun pins s σ H E1 I ⟨E0, l0, q0⟩ => thn (pt.run pins s σ H E0 I q0) fun f s' z => SP.le l0 z⟩, E, l, q⟩
section
variable {X : Cx} {M M' : Md} {ds ds' : List (Option D)} {b rest : List Stmt} {E E' : Ends} {pos : Pos}
theorem ST.le (l : Ends.Le E E') (h : ST X M ds b E) : ST X M ds b E' := ⟨fun σ H en w => (h.go σ H en w).le l⟩
/-- here the branches meet -/
def Rcm (X : Cx) (M' : Md) (ds' : List (Option D)) : L2.St → Hp → Prop := fun σ H => En X.K M'.S H σ ds' ∧ M'.W H
theorem st_ifM {c : Expr} {A B : List Stmt} {q : Bool} (M' : Md) (ds' : List (Option D)) (hc : BTE X M ds c q) (ht : q = true → ST X M ds A { E with nx := Rcm X M' ds' }) (hf : q = false → ST X M ds B { E with nx := Rcm X M' ds' }) (k : ST X M' ds' rest E) : ST X M ds (.If c A B pos :: rest) E := by
  have l : Ends.Le { E with nx := Rcm X M' ds' } { E with nx := fun σ H => wS X rest E σ H } := ⟨fun σ H h => k.go σ H h.1 h.2, fun _ _ h => h, fun _ _ h => h, fun _ _ h => h⟩
  exact st_ifE hc (fun h => (ht h).le l) fun h => (hf h).le l
theorem st_rcm (e : E.nx = Rcm X M ds') (w : Wk ds' ds) : ST X M ds [] E := st_nil fun σ H en wm => by rw [e]; exact ⟨en.weak w, wm⟩
/-! dicts of our own whose keys are words -/
def kv (ks : List Wd) : List (Key × V) := ks.map fun k => (Sum.inr k.s, V.bl true)
theorem kv_put (ks : List Wd) (k : Wd) : putK (kv ks) (Sum.inr k.s) (V.bl true) = kv (addD ks k) := by
  have e : ((kv ks).any fun p => decide (p.1 = (Sum.inr k.s : Key))) = decide (k ∈ ks) := by
    unfold kv
    rw [List.any_map, Bool.eq_iff_iff, List.any_eq_true, decide_eq_true_iff]
    constructor
    · rintro ⟨a, ha, h⟩
      have : (Sum.inr a.s : Key) = Sum.inr k.s := of_decide_eq_true h
      rw [← Wd.ext (Sum.inr.inj this)]
      exact ha
    · exact fun h => ⟨k, h, decide_eq_true rfl⟩
  unfold putK addD
  rw [e]
  by_cases h : k ∈ ks
  · rw [if_pos (decide_eq_true h), if_pos h]
    unfold kv
    rw [List.map_map]
    apply List.map_congr_left
    intro a _
    show (if (Sum.inr a.s : Key) = Sum.inr k.s then ((Sum.inr a.s : Key), V.bl true) else (Sum.inr a.s, V.bl true)) = (Sum.inr a.s, V.bl true)
    split <;> rfl
  · rw [if_neg (by simpa using h), if_neg h]
    unfold kv
    rw [List.map_append]
    rfl
def Md.dk (M : Md) (q : Addr) (ks : List Wd) : Md := M.own q (dK (kv ks)) (dK_nt _)
theorem dk_mut {q : Addr} {ks : List Wd} {k : Wd} (nd : ¬ M.dep q) : MutO (M.dk q ks) (M.dk q (addD ks k)) q (dK (kv ks)) (dK (putK (kv ks) (Sum.inr k.s) (V.bl true))) := by
  rw [kv_put]
  exact MutO.own nd
theorem dk_rd {q : Addr} {ks : List Wd} : Rdo (M.dk q ks) q (dK (kv ks)) := Rdo.own
theorem kv_len (ks : List Wd) : (kv ks).length = ks.length := by simp [kv]
theorem kv_keys (ks : List Wd) : (kv ks).map (·.1) = ks.map fun k => (Sum.inr k.s : Key) := by
  unfold kv
  rw [List.map_map]
  rfl
end
end K23

-- text A20
set_option Elab.async false
set_option linter.all false
set_option maxRecDepth 100000
set_option maxHeartbeats 4000000
namespace K23
open PySem PySem.Spec PyProof.Rows L2

/-! ## 35. sets of things of one kind -/
/-- a set that has just been made -/
abbrev newSet (w : World) : Obj := { cls := .type "set", dict := none, data := .set #[] 0 (.fresh 0 0 (!w.params.followText "set-order")) }
/-- how things of a kind stand as values, and what a set of them is -/
structure SetK (P : Program) (w : World) (α : Type) where
  is : Heap → Value → α → Prop
  Ss : Heap → Addr → List (Value × α) → Prop
  is_keep : ∀ {h h' : Heap} {u : Value} {x : α}, is h u x → (∀ b o, h.get? b = some o → h'.get? b = some o) → is h' u x
  fresh : ∀ {h : Heap} {a : Addr}, h.get? a = some (newSet w) → Ss h a []
  keep : ∀ {h h' : Heap} {a : Addr} {L : List (Value × α)}, Ss h a L → (∀ o, h.get? a = some o → h'.get? a = some o) → (∀ p ∈ L, is h' p.1 p.2) → Ss h' a L
  add : ∀ {A : Around} {E : Value → Shared → Prop} {s : Shared} {a : Addr} {L : List (Value × α)} {u : Value} {x : α} {Q : Bool → Shared → Prop}, Ss s.heap a L → is s.heap u x → A.units + 8 < cLine → L.length + 1 < 64 →
    (∀ (b : Bool) (h' : Heap) (tk : Nat) (L' : List (Value × α)), s.toks ≤ tk → Heap.SameBut a s.heap h' → Ss h' a L' → (x ∈ L.map (·.2) → L' = L) → (x ∉ L.map (·.2) → L'.Perm ((u, x) :: L)) → Q b { s with heap := h', toks := tk }) → wpAny (model P w) A (setAdd a u) Q E s
  out : ∀ {h : Heap} {a : Addr} {L : List (Value × α)}, Ss h a L → ∃ es ep t, SetAt h a es ep t ∧ t.fits es.size = true ∧ es.size < scanBound ∧ Ris t.place.toList ∧ (w.params.followText "set-order" = true ∨ t.led = true) ∧ (es.toList.map (·.2)).Perm (L.map (·.1)) ∧ (L.map (·.2)).Nodup
section
variable {α : Type}
/-- what the first i of ks have put into the set -/
structure Gt (ks : List (Value × α)) (i : Nat) (L : List (Value × α)) : Prop where
  from_ : ∀ p ∈ L, p ∈ ks.take i
  full : ∀ p ∈ ks.take i, p.2 ∈ L.map (·.2)
  few : L.length ≤ i
theorem Gt.step {ks L L' : List (Value × α)} {i : Nat} {p : Value × α} (g : Gt ks i L) (hp : ks[i]? = some p) (h1 : p.2 ∈ L.map (·.2) → L' = L) (h2 : p.2 ∉ L.map (·.2) → L'.Perm (p :: L)) : Gt ks (i + 1) L' := by
  have tk : ks.take (i + 1) = ks.take i ++ [p] := by rw [List.take_succ, hp]; rfl
  by_cases h : p.2 ∈ L.map (·.2)
  · rw [h1 h]
    refine ⟨fun q hq => by rw [tk]; exact List.mem_append_left _ (g.from_ q hq), fun q hq => ?_, Nat.le_succ_of_le g.few⟩
    rw [tk] at hq
    rcases List.mem_append.mp hq with z | z
    · exact g.full q z
    · rw [List.mem_singleton.mp z]
      exact h
  · have pm := h2 h
    refine ⟨fun q hq => ?_, fun q hq => ?_, by rw [pm.length_eq]; exact Nat.succ_le_succ g.few⟩
    · rw [tk]
      rcases List.mem_cons.mp (pm.mem_iff.mp hq) with z | z
      · rw [z]
        exact List.mem_append_right _ (List.mem_singleton.mpr rfl)
      · exact List.mem_append_left _ (g.from_ q z)
    · rw [(pm.map (·.2)).mem_iff, List.map_cons]
      rw [tk] at hq
      rcases List.mem_append.mp hq with z | z
      · exact List.mem_cons_of_mem _ (g.full q z)
      · rw [List.mem_singleton.mp z]
        exact List.mem_cons_self
variable {P : Program} {w : World} {A : Around} {E : Value → Shared → Prop} {s : Shared}
/-- the loop that fills a set -/
theorem fill_set (K : SetK P w α) {I : Addr} {fp wr : List Addr} {G : Array GenState → Array GenState → Prop} {n : Nat} {Pv : Nat → Value → Prop} {St : Nat → Shared → Prop} {R : Result → Shared → Prop} (W : WalksS P w A.in1 I fp wr G n Pv St) (S : Addr) (apart : S ∉ fp)
    (ks : List (Value × α)) (hn : n = ks.length) (few : ks.length < 64) (gives : ∀ i v, Pv i v → ∃ p, ks[i]? = some p ∧ v = p.1) (h0 : Heap) (good : ∀ p ∈ ks, K.is h0 p.1 p.2) (new0 : h0.get? S = none) (wr0 : ∀ b ∈ wr, h0.get? b = none) (hu : A.in1.units + 8 < cLine) :
    ∀ (m i : Nat) (s : Shared), n - i = m → i ≤ n → St i s → (∀ b o, h0.get? b = some o → s.heap.get? b = some o) → (∃ L, K.Ss s.heap S L ∧ Gt ks i L) →
      (∀ s' L, Moved (S :: wr) G s s' → K.Ss s'.heap S L → Gt ks n L → (∀ b o, h0.get? b = some o → s'.heap.get? b = some o) → R (.ok (.ret .none)) s') → codeAny (model P w) A (.builtin "set.update.loop" ⟨[.ref S, .ref I], []⟩) R s := by
  have notwr : S ∉ wr := fun z => apart (W.sub _ z)
  have wider : ∀ b ∈ wr, b ∈ S :: wr := fun b hb => List.mem_cons_of_mem _ hb
  have still : ∀ {t t' : Shared}, Moved wr G t t' → (∀ b o, h0.get? b = some o → t.heap.get? b = some o) → ∀ b o, h0.get? b = some o → t'.heap.get? b = some o := fun mv kp b o q =>
    mv.heap b o (fun hb => by rw [wr0 b hb] at q; cases q) (kp b o q)
  intro m
  induction m with
  | zero =>
    rintro i t hm hi st kp ⟨L, hL, g⟩ fin
    obtain rfl : i = n := by omega
    refine codeAny_builtin F.entry_set_update_loop ?_
    rw [Around.under_plainId F.plain_set_update_loop _]
    show wpAny _ A.in1 (pyNext (.ref I) >>= _) _ _ t
    refine wpAny_bind (W.done t _ _ st fun t' mv => ?_)
    show wpAny _ A.in1 (ret Value.none) _ _ t'
    have kp' := still mv kp
    refine wpAny_pure (fin t' L (mv.mono wider) (K.keep hL (fun o q => mv.heap S o notwr q) fun p hp => K.is_keep (good p (List.mem_of_mem_take (g.from_ p hp))) kp') g kp')
  | succ m ih =>
    rintro i t hm hi st kp ⟨L, hL, g⟩ fin
    have lt : i < n := by omega
    refine codeAny_builtin F.entry_set_update_loop ?_
    rw [Around.under_plainId F.plain_set_update_loop _]
    show wpAny _ A.in1 (pyNext (.ref I) >>= _) _ _ t
    refine wpAny_bind (W.item i t _ _ lt st fun v t' pv st' mv => ?_)
    obtain ⟨p, hp, rfl⟩ := gives i v pv
    have kp' := still mv kp
    have hL' : K.Ss t'.heap S L := K.keep hL (fun o q => mv.heap S o notwr q) fun q hq => K.is_keep (good q (List.mem_of_mem_take (g.from_ q hq))) kp'
    have hx := K.is_keep (good p (List.mem_of_getElem? hp)) kp'
    show wpAny _ A.in1 (holding [p.1] (setAdd S p.1) >>= _) _ _ t'
    refine wpAny_bind (wpAny_holding (K.add hL' hx hu (by have := g.few; omega) fun b h' tk L' le sb hL2 c1 c2 => ?_))
    have kp2 : ∀ b o, h0.get? b = some o → h'.get? b = some o := fun b o q => (sb.2 b fun z => by rw [z, new0] at q; cases q).trans (kp' b o q)
    refine wpAny_pure ⟨plainId_quiet F.plain_set_update_loop _, ih (i + 1) _ (by omega) lt (W.frame _ t' _ _ st' le fun b hb o q => ?_) kp2 ⟨L', hL2, g.step hp c1 c2⟩ fun t2 L2 mv2 hS2 g2 kp3 => ?_⟩
    · exact (sb.2 b fun z : b = S => apart (z ▸ hb)).trans q
    · exact fin t2 L2 (Moved.trans W.gtrans ((mv.mono wider).then_heap le fun b o hb q => (sb.2 b fun z : b = S => hb (z ▸ List.mem_cons_self)).trans q) mv2) hS2 g2 kp3
end
end K23

-- text A21
set_option Elab.async false
set_option linter.all false
set_option maxRecDepth 100000
set_option maxHeartbeats 8000000
namespace K23
open PySem PySem.Spec PyProof.Rows L2
section
variable {α : Type} {P : Program} {w : World} {A : Around} {E : Value → Shared → Prop} {s : Shared}
/-- set(xs), xs a list -/
theorem make_set_list (K : SetK P w α) {l : Addr} {items : Array Value} (ks : List (Value × α)) {Q : Value → Shared → Prop} (calm : A.handled = none) (hl : s.heap.IsList l items) (hit : items.toList = ks.map (·.1)) (good : ∀ p ∈ ks, K.is s.heap p.1 p.2) (few : ks.length < 64) (hu : A.units + 12 < cLine)
    (fin : ∀ (h' : Heap) (tk : Nat) L, K.Ss h' s.heap.objs.size L → Gt ks ks.length L → (∀ b o, s.heap.get? b = some o → h'.get? b = some o) → Q (.ref s.heap.objs.size) { s with heap := h', toks := tk }) : wpAny (model P w) A (call (.type "set") [.ref l]) Q E s := by
  have many : items.size = ks.length := by
    have z := congrArg List.length hit
    rw [List.length_map, Array.length_toList] at z
    exact z
  obtain ⟨c, tl, hmro⟩ := F.called_set.mro
  have hmade := F.called_set.made
  have hsub := F.called_set.sub
  refine wpAny_call (codeAny_of_tree ?_)
  show wpAny _ _ (callAny (.type "set") _) _ _ _
  refine wpAny_pure ⟨Code.quiet_builtin _ (by decide +kernel), codeAny_builtin F.entry_type_call ?_⟩
  rw [Around.under_plain (weight_type_call_type "set" [.ref l] []) rfl]
  have h1 := F.called_set.notType
  have h2 := F.called_set.canCreate
  have hct := F.typeCall_set_1 (.ref l)
  repeat (any_goals (first | assumption | wp_step))
  obtain ⟨hp1, e1⟩ : ∃ hp1, hp1 = s.heap.push (newSet w) := ⟨_, rfl⟩
  refine codeAny_mono (code_set_led1 (.ref l) (E := E) (Q₁ := fun obj t => obj = .ref s.heap.objs.size ∧ t = { s with heap := hp1 }) ⟨rfl, by rw [e1]⟩) fun r t hr => ?_
  cases r with
  | error e => exact hr
  | ok fl =>
    cases fl with
    | ret obj =>
      obtain ⟨rfl, rfl⟩ := hr
      have atS : hp1.get? s.heap.objs.size = some (newSet w) := by rw [e1]; exact Heap.get?_push_size _ rfl
      have hT : Shared.TypeIs { s with heap := hp1 } (.ref s.heap.objs.size) "set" := ⟨_, atS, rfl⟩
      have hli := F.called_set.init.lookup
      have hbi := F.called_set.init.bind (.ref s.heap.objs.size)
      repeat (any_goals (first | assumption | wp_step))
      refine codeAny_mono (codeAny_call_builtin (R := wants (fun r t2 => r = .none ∧ ∃ h' tk L, t2 = { s with heap := h', toks := tk } ∧ K.Ss h' s.heap.objs.size L ∧ Gt ks ks.length L ∧ (∀ b o, s.heap.get? b = some o → h'.get? b = some o)) E)
        F.called_set.init.plain F.entry_set_init (check_set_init_1 hT ?_)) fun r2 t2 hr2 => ?_
      · obtain ⟨ol, hol, hcl, nl, hdl⟩ := hl
        obtain ⟨ocls, odict, odata, oslots⟩ := ol
        simp only at hcl hdl
        subst hcl; subst hdl
        have below : l < s.heap.objs.size := Heap.lt_size hol
        have hol' : hp1.get? l = some { cls := .type "list", dict := odict, data := .seq items nl, slots := oslots } := by rw [e1]; exact Heap.get?_push_of_some _ hol
        have hsls := F.sub_list_set
        have hslf := F.sub_list_frozenset
        have hne : (Value.type "list" == Value.type "dict") = false := by decide
        have hl1 : hp1.IsList l items := ⟨_, hol', rfl, nl, rfl⟩
        have size1 : hp1.objs.size = s.heap.objs.size + 1 := by rw [e1]; exact Heap.size_push ..
        unfold Builtin.«set.__init__» noKeywords Builtin.Frozenset.updateFrom
        generalize hPI : pyIter = PI
        wp_walk
        subst hPI
        refine wpAny_pyIter_list hl1 ?_
        refine wpAny_bind (wpAny_runValue ?_)
        have calm3 : A.in1.in1.in1.handled = none := by simp [calm]
        have neI : l ≠ hp1.objs.size := by rw [size1]; exact Nat.ne_of_lt (Nat.lt_succ_of_lt below)
        have apart : s.heap.objs.size ∉ [hp1.objs.size, l] := by
          rw [size1]
          simp only [List.mem_cons, List.not_mem_nil, or_false, not_or]
          exact ⟨Nat.ne_of_lt (Nat.lt_succ_self _), Nat.ne_of_gt below⟩
        have gives : ∀ (i : Nat) (v : Value), items[i]? = some v → ∃ p, ks[i]? = some p ∧ v = p.1 := fun i v hv => by
          have z : items.toList[i]? = some v := by rw [Array.getElem?_toList]; exact hv
          rw [hit, List.getElem?_map] at z
          cases q : ks[i]? with
          | none => rw [q] at z; cases z
          | some p => rw [q] at z; exact ⟨p, rfl, (Option.some.inj z).symm⟩
        have nothing : ∀ b, s.heap.objs.size ≤ b → s.heap.get? b = none := fun b hb => by
          cases q : s.heap.get? b with
          | none => rfl
          | some o => exact absurd (Heap.lt_size q) (Nat.not_lt.mpr hb)
        refine fill_set K ((Walks.list calm3 _ l neI items).toS) s.heap.objs.size apart ks many few gives s.heap good (nothing _ (Nat.le_refl _)) (fun b hb => nothing b (by rw [List.mem_singleton.mp hb, size1]; exact Nat.le_succ _)) (show A.units + 3 + 8 < cLine by omega) (items.size - 0) 0 _ (by omega) (Nat.zero_le _)
          ⟨⟨_, Heap.get?_push_size _ rfl, rfl, rfl⟩, (hl1.push _)⟩ (fun b o z => Heap.get?_push_of_some _ (by rw [e1]; exact Heap.get?_push_of_some _ z)) ⟨[], K.fresh (Heap.get?_push_of_some _ atS), ⟨(fun p hp => by cases hp), (fun p hp => by simp at hp), Nat.le_refl _⟩⟩ ?_
        intro t3 L mv hS3 g3 kp3
        obtain ⟨h', g2, d', tk', os'⟩ := t3
        have eg : g2 = s.gens := mv.gens
        have ed : d' = s.drawn := mv.drawn
        have eo : os' = s.os := mv.os
        subst eg; subst ed; subst eo
        show wpAny _ _ _ _ _ _
        refine wpAny_pure ?_
        show wpAny _ _ (ret Value.none) _ _ _
        rw [many] at g3
        exact wpAny_pure ⟨rfl, h', tk', L, rfl, hS3, g3, kp3⟩
      · cases r2 with
        | error e => exact hr2
        | ok fl2 =>
          cases fl2 with
          | ret r =>
            obtain ⟨rfl, h', tk, L, rfl, q1, q2, q3⟩ := hr2
            repeat (any_goals (first | assumption | wp_step))
            exact fin _ _ _ q1 q2 q3
          | _ => exact hr2.elim
    | _ => exact hr.elim
/-- set(xs), xs a tuple -/
theorem make_set_tuple (K : SetK P w α) {l : Addr} {items : Array Value} (ks : List (Value × α)) {Q : Value → Shared → Prop} (calm : A.handled = none) (hl : s.heap.IsTuple l items) (hit : items.toList = ks.map (·.1)) (good : ∀ p ∈ ks, K.is s.heap p.1 p.2) (few : ks.length < 64) (hu : A.units + 12 < cLine)
    (fin : ∀ (h' : Heap) (tk : Nat) L, K.Ss h' s.heap.objs.size L → Gt ks ks.length L → (∀ b o, s.heap.get? b = some o → h'.get? b = some o) → Q (.ref s.heap.objs.size) { s with heap := h', toks := tk }) : wpAny (model P w) A (call (.type "set") [.ref l]) Q E s := by
  have many : items.size = ks.length := by
    have z := congrArg List.length hit
    rw [List.length_map, Array.length_toList] at z
    exact z
  obtain ⟨c, tl, hmro⟩ := F.called_set.mro
  have hmade := F.called_set.made
  have hsub := F.called_set.sub
  refine wpAny_call (codeAny_of_tree ?_)
  show wpAny _ _ (callAny (.type "set") _) _ _ _
  refine wpAny_pure ⟨Code.quiet_builtin _ (by decide +kernel), codeAny_builtin F.entry_type_call ?_⟩
  rw [Around.under_plain (weight_type_call_type "set" [.ref l] []) rfl]
  have h1 := F.called_set.notType
  have h2 := F.called_set.canCreate
  have hct := F.typeCall_set_1 (.ref l)
  repeat (any_goals (first | assumption | wp_step))
  obtain ⟨hp1, e1⟩ : ∃ hp1, hp1 = s.heap.push (newSet w) := ⟨_, rfl⟩
  refine codeAny_mono (code_set_led1 (.ref l) (E := E) (Q₁ := fun obj t => obj = .ref s.heap.objs.size ∧ t = { s with heap := hp1 }) ⟨rfl, by rw [e1]⟩) fun r t hr => ?_
  cases r with
  | error e => exact hr
  | ok fl =>
    cases fl with
    | ret obj =>
      obtain ⟨rfl, rfl⟩ := hr
      have atS : hp1.get? s.heap.objs.size = some (newSet w) := by rw [e1]; exact Heap.get?_push_size _ rfl
      have hT : Shared.TypeIs { s with heap := hp1 } (.ref s.heap.objs.size) "set" := ⟨_, atS, rfl⟩
      have hli := F.called_set.init.lookup
      have hbi := F.called_set.init.bind (.ref s.heap.objs.size)
      repeat (any_goals (first | assumption | wp_step))
      refine codeAny_mono (codeAny_call_builtin (R := wants (fun r t2 => r = .none ∧ ∃ h' tk L, t2 = { s with heap := h', toks := tk } ∧ K.Ss h' s.heap.objs.size L ∧ Gt ks ks.length L ∧ (∀ b o, s.heap.get? b = some o → h'.get? b = some o)) E)
        F.called_set.init.plain F.entry_set_init (check_set_init_1 hT ?_)) fun r2 t2 hr2 => ?_
      · obtain ⟨ol, hol, hcl, nl, hdl⟩ := hl
        obtain ⟨ocls, odict, odata, oslots⟩ := ol
        simp only at hcl hdl
        subst hcl; subst hdl
        have below : l < s.heap.objs.size := Heap.lt_size hol
        have hol' : hp1.get? l = some { cls := .type "tuple", dict := odict, data := .seq items nl, slots := oslots } := by rw [e1]; exact Heap.get?_push_of_some _ hol
        have hsls := F.sub_tuple_set
        have hslf := F.sub_tuple_frozenset
        have hne : (Value.type "tuple" == Value.type "dict") = false := by decide
        have hl1 : hp1.IsTuple l items := ⟨_, hol', rfl, nl, rfl⟩
        have size1 : hp1.objs.size = s.heap.objs.size + 1 := by rw [e1]; exact Heap.size_push ..
        unfold Builtin.«set.__init__» noKeywords Builtin.Frozenset.updateFrom
        generalize hPI : pyIter = PI
        wp_walk
        subst hPI
        refine wpAny_pyIter_tuple hl1 ?_
        refine wpAny_bind (wpAny_runValue ?_)
        have calm3 : A.in1.in1.in1.handled = none := by simp [calm]
        have neI : l ≠ hp1.objs.size := by rw [size1]; exact Nat.ne_of_lt (Nat.lt_succ_of_lt below)
        have apart : s.heap.objs.size ∉ [hp1.objs.size, l] := by
          rw [size1]
          simp only [List.mem_cons, List.not_mem_nil, or_false, not_or]
          exact ⟨Nat.ne_of_lt (Nat.lt_succ_self _), Nat.ne_of_gt below⟩
        have gives : ∀ (i : Nat) (v : Value), items[i]? = some v → ∃ p, ks[i]? = some p ∧ v = p.1 := fun i v hv => by
          have z : items.toList[i]? = some v := by rw [Array.getElem?_toList]; exact hv
          rw [hit, List.getElem?_map] at z
          cases q : ks[i]? with
          | none => rw [q] at z; cases z
          | some p => rw [q] at z; exact ⟨p, rfl, (Option.some.inj z).symm⟩
        have nothing : ∀ b, s.heap.objs.size ≤ b → s.heap.get? b = none := fun b hb => by
          cases q : s.heap.get? b with
          | none => rfl
          | some o => exact absurd (Heap.lt_size q) (Nat.not_lt.mpr hb)
        refine fill_set K ((Walks.tuple calm3 _ l neI items).toS) s.heap.objs.size apart ks many few gives s.heap good (nothing _ (Nat.le_refl _)) (fun b hb => nothing b (by rw [List.mem_singleton.mp hb, size1]; exact Nat.le_succ _)) (show A.units + 3 + 8 < cLine by omega) (items.size - 0) 0 _ (by omega) (Nat.zero_le _)
          ⟨⟨_, Heap.get?_push_size _ rfl, rfl, rfl⟩, (hl1.push _)⟩ (fun b o z => Heap.get?_push_of_some _ (by rw [e1]; exact Heap.get?_push_of_some _ z)) ⟨[], K.fresh (Heap.get?_push_of_some _ atS), ⟨(fun p hp => by cases hp), (fun p hp => by simp at hp), Nat.le_refl _⟩⟩ ?_
        intro t3 L mv hS3 g3 kp3
        obtain ⟨h', g2, d', tk', os'⟩ := t3
        have eg : g2 = s.gens := mv.gens
        have ed : d' = s.drawn := mv.drawn
        have eo : os' = s.os := mv.os
        subst eg; subst ed; subst eo
        show wpAny _ _ _ _ _ _
        refine wpAny_pure ?_
        show wpAny _ _ (ret Value.none) _ _ _
        rw [many] at g3
        exact wpAny_pure ⟨rfl, h', tk', L, rfl, hS3, g3, kp3⟩
      · cases r2 with
        | error e => exact hr2
        | ok fl2 =>
          cases fl2 with
          | ret r =>
            obtain ⟨rfl, h', tk, L, rfl, q1, q2, q3⟩ := hr2
            repeat (any_goals (first | assumption | wp_step))
            exact fin _ _ _ q1 q2 q3
          | _ => exact hr2.elim
    | _ => exact hr.elim
end
end K23

-- text A22
set_option Elab.async false
set_option linter.all false
set_option maxRecDepth 100000
set_option maxHeartbeats 4000000
namespace K23
open PySem PySem.Spec PyProof.Rows L2

/-! ## 36. sets of texts -/
section
variable {P : Program} {w : World} {A : Around} {E : Value → Shared → Prop} {s : Shared} {a : Addr}
/-- the new entries are stored, the table laid anew if it got full -/
theorem store_tail {g : Bool → Sem Unit} (quiet : ∀ (b : Bool) (t : Shared) (Q' : Unit → Shared → Prop), Q' () t → wpAny (model P w) A (g b) Q' E t) {o : Obj} {es es1 : Array (Int × Value)} {ep : Nat} {t t2 : SetTable} (ho : s.heap.get? a = some o) (hd : o.data = .set es ep t)
    (few : es1.size < scanBound) (fit : t2.fits es1.size = true) (ris : Ris t2.place.toList) (led : w.params.followText "set-order" = true ∨ t2.led = true) {dummy : Bool} {R : Option Bool → Shared → Prop}
    (fin : ∀ h' es2 ep2 t3, Heap.SameBut a s.heap h' → h'.get? a = some { o with data := .set es2 ep2 t3 } → es2.toList.Perm es1.toList → es2.size < scanBound → t3.fits es2.size = true → Ris t3.place.toList → (w.params.followText "set-order" = true ∨ t3.led = true) → R (some true) { s with heap := h' }) :
    wpAny (model P w) A (do
        storeSet a es1 t2
        if (!dummy && t2.tooFull) = true then do
            g (relayAll t2 es1 (SetTable.grown es1.size)).2.2
            storeSet a (relayAll t2 es1 (SetTable.grown es1.size)).1 (relayAll t2 es1 (SetTable.grown es1.size)).2.1
            pure (some true)
          else pure (some true)) R E s := by
  refine wpAny_bind (wpAny_storeSet_of ho hd ?_ (fits_of_scanBound few))
  have st1 := store_at (es' := es1) (t' := t2) ho hd
  have sb := Heap.SameBut.update s.heap a (Obj.putSet es1 t2)
  by_cases c : (!dummy && t2.tooFull) = true
  · rw [if_pos c]
    obtain ⟨Z, eZ⟩ : ∃ Z, Z = relayAll t2 es1 (SetTable.grown es1.size) := ⟨_, rfl⟩
    have p1 := relayAll_perm t2 es1 (SetTable.grown es1.size)
    have p2 := relayAll_fits t2 es1 (SetTable.grown es1.size)
    have p3 := relayAll_ris t2 es1 (SetTable.grown es1.size)
    have p4 := relayAll_led t2 es1 (SetTable.grown es1.size)
    rw [← eZ] at p1 p2 p3 p4 ⊢
    obtain ⟨es2, t3, gave⟩ := Z
    have n2 : es2.size < scanBound := by
      rw [← Array.length_toList, p1.length_eq, Array.length_toList]
      exact few
    refine wpAny_bind (quiet _ _ _ ?_)
    refine wpAny_bind (wpAny_storeSet_of st1 rfl ?_ (fits_of_scanBound n2))
    have st2 := store_at (es' := es2) (t' := t3) st1 rfl
    exact wpAny_pure (fin _ es2 _ t3 (sb.trans (Heap.SameBut.update _ a _)) st2 p1 n2 p2 p3 (led.imp (fun z => z) fun z => by rw [p4]; exact z))
  · rw [if_neg c]
    exact wpAny_pure (fin _ es1 _ t2 sb st1 (List.Perm.refl _) few fit ris led)
def strRow (P : Program) (w : World) (p : Value × Str) : Int × Value := ((PySem.strKind P w).hash p.2, p.1)
/-- the set of texts at a -/
def StrSet (P : Program) (w : World) (h : Heap) (a : Addr) (L : List (Value × Str)) : Prop :=
  ∃ o es ep t, h.get? a = some o ∧ o.ExactSet ∧ o.data = .set es ep t ∧ es.toList.Perm (L.map (strRow P w)) ∧ (∀ p ∈ L, ∃ tok, p.1 = .str p.2 tok) ∧ (L.map (·.2)).Nodup ∧ es.size < scanBound ∧ t.fits es.size = true ∧ Ris t.place.toList ∧ (w.params.followText "set-order" = true ∨ t.led = true)
theorem str_elems {es : Array (Int × Value)} {L : List (Value × Str)} (rows : es.toList.Perm (L.map (strRow P w))) (txt : ∀ p ∈ L, ∃ tok, p.1 = .str p.2 tok) : ElemsOf (PySem.strKind P w) es.toList := fun e he => by
  obtain ⟨p, hp, rfl⟩ := List.mem_map.mp (rows.mem_iff.mp he)
  obtain ⟨tok, q⟩ := txt p hp
  exact ⟨⟨p.2, by show (PySem.strKind P w).is p.2 p.1 = true; rw [q]; exact strKind_is P w p.2 tok, rfl⟩, by show p.1.scannable = true; rw [q]; rfl⟩
theorem str_is {x y : Str} {tok : Tok} (h : (PySem.strKind P w).is x (.str y tok) = true) : x = y := by
  have : (y == x) = true := h
  exact (beq_iff_eq.mp this).symm
theorem str_add {L : List (Value × Str)} {x : Str} {tk : Tok} {Q : Bool → Shared → Prop} (S : StrSet P w s.heap a L) (room : L.length + 1 < scanBound)
    (fin : ∀ (b : Bool) (h' : Heap) (L' : List (Value × Str)), Heap.SameBut a s.heap h' → StrSet P w h' a L' → (x ∈ L.map (·.2) → L' = L) → (x ∉ L.map (·.2) → L'.Perm ((.str x tk, x) :: L)) → Q b { s with heap := h' }) : wpAny (model P w) A (setAddHashed a (.str x tk) ((PySem.strKind P w).hash x)) Q E s := by
  obtain ⟨o, es, ep, t, ho, hex, hd, rows, txt, nd, few, fit, ris, led⟩ := S
  have key : (PySem.strKind P w).is x (.str x tk) = true := strKind_is P w x tk
  have scan : (Value.str x tk).scannable = true := rfl
  have el := str_elems rows txt
  have size : es.size = L.length := by rw [← Array.length_toList, rows.length_eq, List.length_map]
  unfold setAddHashed setAddHashedIn
  refine wpAny_holding (wpAny_bind (wpAny_setState_of ho hd fit ?_))
  dsimp only
  rw [byScan_of scan few el]
  simp only [↓reduceIte]
  unfold setAddByScan
  refine wpAny_bind ?_
  refine wpAny_bind (wpAny_rule ?_)
  refine wpAny_bind (wpAny_setScan_of key ho hd fit el ?_)
  cases met : List.findIdx? (fun e => (PySem.strKind P w).is x e.2) es.toList with
  | some j =>
    dsimp only
    obtain ⟨hj, pj, _⟩ := List.findIdx?_eq_some_iff_getElem.mp met
    have inn : x ∈ L.map (·.2) := by
      obtain ⟨p, hp, e⟩ := List.mem_map.mp (rows.mem_iff.mp (List.getElem_mem hj))
      obtain ⟨tok, q⟩ := txt p hp
      rw [← e] at pj
      have pj : (PySem.strKind P w).is x p.1 = true := pj
      rw [q] at pj
      exact List.mem_map.mpr ⟨p, hp, (str_is pj).symm⟩
    exact wpAny_pure (wpAny_pure (fin false s.heap L (Heap.SameBut.refl a s.heap) ⟨o, es, ep, t, ho, hex, hd, rows, txt, nd, few, fit, ris, led⟩ (fun _ => rfl) fun z => absurd inn z))
  | none =>
    dsimp only
    have out : x ∉ L.map (·.2) := fun z => by
      obtain ⟨p, hp, rfl⟩ := List.mem_map.mp z
      obtain ⟨tok, q⟩ := txt p hp
      have c := List.findIdx?_eq_none_iff.mp met (strRow P w p) (rows.mem_iff.mpr (List.mem_map.mpr ⟨p, hp, rfl⟩))
      have c : (PySem.strKind P w).is p.2 p.1 = false := c
      rw [q, strKind_is] at c
      cases c
    have quiet : ∀ (b : Bool) {t : Shared} {Q' : Unit → Shared → Prop}, Q' () t → wpAny (model P w) A (match b with | true => rule "set.scan.the-table-gave-way" | false => pure ()) Q' E t :=
      fun b t Q' q => by cases b <;> first | exact wpAny_pure q | exact wpAny_rule q
    have p1 := layNew_perm t es ((PySem.strKind P w).hash x) (.str x tk)
    have p2 := layNew_fits t es ((PySem.strKind P w).hash x) (.str x tk)
    have p3 := layNew_ris t es ((PySem.strKind P w).hash x) (.str x tk) ris
    have p4 := layNew_led t es ((PySem.strKind P w).hash x) (.str x tk)
    generalize layNew t es ((PySem.strKind P w).hash x) (.str x tk) = Z at p1 p2 p3 p4 ⊢
    obtain ⟨es1, t1, dummy, gave⟩ := Z
    dsimp only at p1 p2 p3 p4 ⊢
    rw [Array.toList_push] at p1
    have pc : es1.toList.Perm (((.str x tk, x) :: L).map (strRow P w)) := (p1.trans (List.perm_append_singleton _ _)).trans (rows.cons _)
    have n1 : es1.size = L.length + 1 := by rw [← Array.length_toList, pc.length_eq, List.length_map, List.length_cons]
    have few1 : es1.size < scanBound := by rw [n1]; exact room
    have led1 : w.params.followText "set-order" = true ∨ t1.led = true := led.imp (fun z => z) fun z => by rw [p4]; exact z
    have done : ∀ h' es2 ep2 t3, Heap.SameBut a s.heap h' → h'.get? a = some { o with data := .set es2 ep2 t3 } → es2.toList.Perm es1.toList → es2.size < scanBound → t3.fits es2.size = true → Ris t3.place.toList → (w.params.followText "set-order" = true ∨ t3.led = true) → Q true { s with heap := h' } :=
      fun h' es2 ep2 t3 sb ha pm f1 f2 f3 f4 => fin true h' ((.str x tk, x) :: L) sb ⟨_, es2, ep2, t3, ha, ⟨hex.1, hex.2.1, hex.2.2⟩, rfl, pm.trans pc, fun p hp => by
        rcases List.mem_cons.mp hp with z | z
        · exact ⟨tk, by rw [z]⟩
        · exact txt p z, by rw [List.map_cons]; exact List.nodup_cons.mpr ⟨out, nd⟩, f1, f2, f3, f4⟩ (fun z => absurd z out) fun _ => List.Perm.refl _
    refine wpAny_bind (quiet _ ?_)
    split
    · refine wpAny_bind ?_
      rw [hashByValue_scannable 8 scan]
      refine wpAny_pure ?_
      refine store_tail ?_ ho hd few1 ?_ ?_ ?_ ?_
      · intro b t Q' q; cases b <;> first | exact wpAny_pure q | exact wpAny_rule q
      · first | (split <;> first | exact p2 | exact SetTable.fits_plain_off p2) | exact p2
      · first | (split <;> exact p3) | exact p3
      · first | (split <;> exact led1) | exact led1
      · intro h' es2 ep2 t3 sb ha pm f1 f2 f3 f4
        dsimp only
        exact wpAny_pure (done h' es2 ep2 t3 sb ha pm f1 f2 f3 f4)
    · refine wpAny_bind (wpAny_pure ?_)
      simp only [↓reduceIte]
      refine store_tail ?_ ho hd few1 p2 p3 led1 ?_
      · intro b t Q' q; cases b <;> first | exact wpAny_pure q | exact wpAny_rule q
      · intro h' es2 ep2 t3 sb ha pm f1 f2 f3 f4
        dsimp only
        exact wpAny_pure (done h' es2 ep2 t3 sb ha pm f1 f2 f3 f4)
end
def strSK (P : Program) (w : World) : SetK P w Str where
  is := fun _ u x => ∃ tok, u = .str x tok
  Ss := fun h a L => StrSet P w h a L ∧ L.length < 4000
  is_keep := fun h _ => h
  fresh := fun {h a} e => ⟨⟨_, #[], 0, _, e, ⟨rfl, rfl, rfl⟩, rfl, List.Perm.refl _, (fun p hp => by cases hp), List.nodup_nil, by decide, rfl, List.Pairwise.nil, by
    show _ ∨ (!w.params.followText "set-order") = true
    cases w.params.followText "set-order"
    · exact .inr rfl
    · exact .inl rfl⟩, by decide⟩
  keep := fun ⟨⟨o, es, ep, t, ho, r⟩, l⟩ k _ => ⟨⟨o, es, ep, t, k o ho, r⟩, l⟩
  add := fun {A E s a L u x Q} S ⟨tok, e⟩ hu few fin => by
    subst e
    unfold setAdd
    refine wpAny_holding (wpAny_bind ((PySem.strKind P w).pyHash (strKind_is P w x tok) ?_))
    refine str_add (s := { s with toks := s.toks + 1 }) S.1 (by unfold scanBound; omega) fun b h' L' sb S' c1 c2 => fin b h' _ L' (Nat.le_succ _) sb ⟨S', ?_⟩ c1 c2
    by_cases h : x ∈ L.map (·.2)
    · rw [c1 h]; exact S.2
    · rw [(c2 h).length_eq, List.length_cons]; omega
  out := fun {h a L} ⟨⟨o, es, ep, t, ho, hex, hd, rows, txt, nd, few, fit, ris, led⟩, _⟩ => ⟨es, ep, t, ⟨o, ho, hex.1, hd⟩, fit, few, ris, led, by
    have := rows.map (·.2)
    rw [List.map_map] at this
    exact this, nd⟩
end K23

-- text A23
set_option Elab.async false
set_option linter.all false
set_option maxRecDepth 100000
set_option maxHeartbeats 4000000
namespace K23
open PySem PySem.Spec PyProof.Rows L2

/-! ## 37. sets of tuples of whole numbers and texts -/
abbrev mh (P : Program) (w : World) (k : List Key) : Int := tupleKeyHash (mixKind P w) k
abbrev MT (P : Program) (w : World) (h : Heap) (k : List Key) (b : Addr) : Prop := IsTupleKey (mixKind P w) h k b
def mrow (P : Program) (w : World) (p : Value × List Key) : Int × Value := (mh P w p.2, p.1)
def IsM (P : Program) (w : World) (h : Heap) (u : Value) (k : List Key) : Prop := ∃ b, u = .ref b ∧ MT P w h k b
section
variable {P : Program} {w : World} {A : Around} {E : Value → Shared → Prop} {s : Shared}
/-- the items of such a tuple -/
theorem mix_items {k : List Key} {vs : List Value} (h : ItemsAre (mixKind P w) k vs) : ∀ v ∈ vs, (∃ i t, v = Value.int i t) ∨ ∃ z t, v = Value.str z t := by
  induction h with
  | nil => exact fun v hv => by cases hv
  | @cons k0 v0 ks us h1 _ ih =>
    intro v hv
    rcases List.mem_cons.mp hv with e | hv
    · rcases keyIs_shape (k := k0) (v := v0) h1 with ⟨i, t, _, ev⟩ | ⟨z, t, _, ev⟩
      · exact .inl ⟨i, t, e.trans ev⟩
      · exact .inr ⟨z, t, e.trans ev⟩
    · exact ih v hv
theorem noClass (n : Nat) {v : Value} (h : (∃ i t, v = Value.int i t) ∨ ∃ z t, v = Value.str z t) : ofAClassStatement n v = pure false := by
  rcases h with ⟨i, t, rfl⟩ | ⟨z, t, rfl⟩ <;> cases n <;> rfl
theorem byVal (n : Nat) {v : Value} (h : (∃ i t, v = Value.int i t) ∨ ∃ z t, v = Value.str z t) : ∃ b, hashByValue n v = pure b := by
  rcases h with ⟨i, t, rfl⟩ | ⟨z, t, rfl⟩ <;> cases n <;> exact ⟨_, rfl⟩
theorem mt_class {k : List Key} {b : Addr} {Q : Bool → Shared → Prop} (hk : MT P w s.heap k b) (q : Q false s) : wpAny (model P w) A (ofAClassStatement 8 (.ref b)) Q E s := by
  have ty := hk.typeIs
  obtain ⟨o, items, n, ho, _, hd, hi⟩ := hk
  unfold ofAClassStatement
  refine wpAny_bind (wpAny_typeOf ty ?_)
  dsimp only
  have e : (("tuple" : String) == "tuple") = true := by decide
  simp only [e, if_true, Bool.not_true, Bool.false_eq_true, if_false]
  try refine wpAny_bind (wpAny_pure ?_)
  try simp only [Bool.not_true, Bool.false_eq_true, if_false]
  show wpAny _ _ (seqItems? (.ref b) >>= _) _ _ s
  refine wpAny_bind (wpAny_seqItems ho hd ?_)
  dsimp only
  refine wpAny_bind ?_
  show wpAny _ _ (forIn items _ _) _ _ s
  rw [← Array.forIn_toList]
  refine wpAny_forIn_list _ (fun left r t => r.1 = none ∧ t = s ∧ ∀ v ∈ left, (∃ i t, v = Value.int i t) ∨ ∃ z t, v = Value.str z t) _ ?_ ?_ _ _ ⟨rfl, rfl, mix_items hi⟩
  · rintro v left r t ⟨hr, rfl, all⟩
    rw [noClass _ (all v List.mem_cons_self)]
    refine wpAny_bind (wpAny_pure ?_)
    simp only [Bool.false_eq_true, if_false]
    exact wpAny_pure ⟨rfl, rfl, fun u hu => all u (List.mem_cons_of_mem _ hu)⟩
  · rintro ⟨r1, r2⟩ t ⟨hr, rfl, _⟩
    simp only at hr
    subst hr
    exact wpAny_pure q
theorem mt_byval {k : List Key} {b : Addr} {Q : Bool → Shared → Prop} (hk : MT P w s.heap k b) (q : ∀ c, Q c s) : wpAny (model P w) A (hashByValue 8 (.ref b)) Q E s := by
  have ty := hk.typeIs
  obtain ⟨o, items, n, ho, _, hd, hi⟩ := hk
  unfold hashByValue
  refine wpAny_bind (wpAny_specialOf ty F.slot_tuple_hash.lookup ?_)
  show wpAny _ _ (seqItems? (.ref b) >>= _) _ _ s
  refine wpAny_bind (wpAny_seqItems ho hd ?_)
  refine wpAny_bind ?_
  show wpAny _ _ (forIn items _ _) _ _ s
  rw [← Array.forIn_toList]
  refine wpAny_forIn_list _ (fun left r t => t = s ∧ ∀ v ∈ left, (∃ i t, v = Value.int i t) ∨ ∃ z t, v = Value.str z t) _ ?_ ?_ _ _ ⟨rfl, mix_items hi⟩
  · rintro v left r t ⟨rfl, all⟩
    obtain ⟨c, ec⟩ := byVal 7 (all v List.mem_cons_self)
    rw [ec]
    refine wpAny_bind (wpAny_pure ?_)
    cases c with
    | true =>
      simp only [Bool.not_true, Bool.false_eq_true, if_false]
      exact wpAny_pure ⟨rfl, fun u hu => all u (List.mem_cons_of_mem _ hu)⟩
    | false =>
      simp only [Bool.not_false, if_true]
      exact wpAny_pure (wpAny_pure (q _))
  · rintro ⟨r1, r2⟩ t ⟨rfl, _⟩
    cases r1 with
    | none => exact wpAny_pure (q _)
    | some c => exact wpAny_pure (q c)
theorem mt_seen {k : List Key} {b : Addr} {Q : Bool → Shared → Prop} (hk : MT P w s.heap k b) {ys : List Value} (hy : ∀ y ∈ ys, ∃ k', IsM P w s.heap y k') (q : Q false s) : wpAny (model P w) A (searchCouldBeSeen (.ref b) ys) Q E s := by
  unfold searchCouldBeSeen
  refine wpAny_bind ?_
  refine wpAny_forIn_list _ (fun left r t => r.1 = none ∧ t = s ∧ ∀ y ∈ left, ∃ k', IsM P w s.heap y k') _ ?_ ?_ _ _ ⟨rfl, rfl, hy⟩
  · rintro v left r t ⟨hr, rfl, all⟩
    obtain ⟨k', c, rfl, hc⟩ := all v List.mem_cons_self
    have left' : ∀ y ∈ left, ∃ k', IsM P w t.heap y k' := fun u hu => all u (List.mem_cons_of_mem _ hu)
    dsimp only
    by_cases very : (b == c || (carriedByValue (.ref b) && carriedByValue (.ref c))) = true
    · refine wp_if_pos very ?_
      exact wpAny_pure ⟨rfl, rfl, left'⟩
    · refine wp_if_neg very ?_
      refine wpAny_bind (wpAny_eqIsQuiet_tuple hk ?_)
      simp only [Bool.not_true, Bool.false_eq_true, if_false]
      refine wpAny_bind (wpAny_eqIsQuiet_tuple hc ?_)
      simp only [Bool.not_true, Bool.false_eq_true, if_false]
      refine wpAny_bind (mt_class hk ?_)
      simp only [Bool.false_eq_true, if_false]
      refine wpAny_bind (mt_class hc ?_)
      simp only [Bool.false_eq_true, if_false]
      exact wpAny_pure ⟨rfl, rfl, left'⟩
  · rintro ⟨r1, r2⟩ t ⟨hr, rfl, _⟩
    simp only at hr
    subst hr
    exact wpAny_pure q
end
/-- the set of such tuples at a, by its entries and its table -/
structure MSet (P : Program) (w : World) (h : Heap) (a : Addr) (L : List (Value × List Key)) (es : Array (Int × Value)) (ep : Nat) (t : SetTable) : Prop where
  ob : ∃ o, h.get? a = some o ∧ o.ExactSet ∧ o.data = .set es ep t
  rows : es.toList = L.map (mrow P w)
  tab : TabOk t (L.map fun p => mh P w p.2)
  nd : (L.map (·.2)).Nodup
  tup : ∀ p ∈ L, IsM P w h p.1 p.2
  led : w.params.followText "set-order" = true ∨ t.led = true
  room : L.length * 5 < t.mask * 3
  few : L.length < 64
section
variable {P : Program} {w : World} {A : Around} {E : Value → Shared → Prop} {s : Shared} {a : Addr} {L : List (Value × List Key)} {es : Array (Int × Value)} {ep : Nat} {t : SetTable}
theorem MSet.size (R : MSet P w s.heap a L es ep t) : es.size = L.length := by
  rw [← Array.length_toList, R.rows, List.length_map]
theorem MSet.fits (R : MSet P w s.heap a L es ep t) : t.fits es.size = true := by
  have z1 := R.tab.sz
  have z2 := R.size
  have z3 := R.room
  rw [List.length_map] at z1
  unfold SetTable.fits SetTable.fill
  rw [R.tab.dm, Bool.and_eq_true, beq_iff_eq, decide_eq_true_eq]
  exact ⟨by omega, by show t.place.size + 0 ≤ t.mask; omega⟩
theorem MSet.entry (R : MSet P w s.heap a L es ep t) {i : Nat} {p : Value × List Key} (h : L[i]? = some p) : es[i]? = some (mh P w p.2, p.1) := by
  rw [← Array.getElem?_toList, R.rows, List.getElem?_map, h]
  rfl
theorem MSet.odd (R : MSet P w s.heap a L es ep t) : ¬ t.gaveWay = true := by
  unfold SetTable.gaveWay
  rw [mask_odd R.tab.mok]
  decide
/-- the c-th stand of the way -/
abbrev std (t : SetTable) (h : Int) (c : Nat) : SetTable.Probe := nth t.mask (runAt t.mask (SetTable.bits h % (t.mask + 1)) (SetTable.bits h)) c
theorem std_add (t : SetTable) (h : Int) (c q : Nat) : nth t.mask (std t h c) q = std t h (c + q) := (nth_add t.mask c _ q).symm
theorem std_clean (t : SetTable) (h : Int) : ∀ c, (std t h c).dummy = none := by
  have key : ∀ (n : Nat) (p : SetTable.Probe), p.dummy = none → (nth t.mask p n).dummy = none := by
    intro n
    induction n with
    | zero => exact fun p h => h
    | succ n ih =>
      intro p h
      refine ih (adv t.mask p) ?_
      unfold adv
      split <;> exact h
  exact fun c => key c _ rfl
theorem m_look (R : MSet P w s.heap a L es ep t) {x : Addr} {k : List Key} (hx : MT P w s.heap k x) (hu : A.units < cLine) {K : Nat} (lim : K < 10 * SetTable.turns t.mask) (empty : way t.mask (mh P w k) K ∉ t.place.toList) (full : ∀ c, c < K → way t.mask (mh P w k) c ∈ t.place.toList)
    {Q : SetFound → Shared → Prop} (yes : k ∈ L.map (·.2) → Q (.there none) s) (no : k ∉ L.map (·.2) → Q (.free (way t.mask (mh P w k) K) false) s) :
    ∀ (f c : Nat) (stand : Option SetTable.Probe), stand.getD (t.probeStart (mh P w k)) = std t (mh P w k) c → c ≤ K → K - c < f →
      (∀ (i : Nat) (p : Value × List Key), L[i]? = some p → p.2 = k → ∃ c', c ≤ c' ∧ c' < K ∧ t.place.toList[i]? = some (way t.mask (mh P w k) c')) → wpAny (model P w) A (setSearchFrom a (.ref x) (mh P w k) true f stand) Q E s
  | 0, c, stand, _, _, z, _ => absurd z (Nat.not_lt_zero _)
  | f + 1, c, stand, at_, le, fuel, later => by
    obtain ⟨o, ho, hex, hd⟩ := R.ob
    rw [setSearchFrom_succ]
    refine wpAny_bind (wpAny_setState_of ho hd R.fits ?_)
    dsimp only
    refine wp_if_neg R.odd ?_
    try refine wpAny_bind (wpAny_pure ?_)
    have step : ∀ q, (nth t.mask (std t (mh P w k) c) q).j = way t.mask (mh P w k) (c + q) := fun q => congrArg SetTable.Probe.j (std_add t _ c q)
    have met := go_spec t R.tab.ris R.tab.dm (fun i => (es[i]?.map (·.1)).getD 0) (mh P w k) (10 * SetTable.turns t.mask) (K - c) _ (std_clean t _ c) (by omega) (fun q hq => by rw [step]; exact full (c + q) (by omega))
      (by rw [step, show c + (K - c) = K by omega]; exact empty)
    have hashes : ∀ (i : Nat) (p : Value × List Key), L[i]? = some p → (fun i => (es[i]?.map (·.1)).getD 0) i = mh P w p.2 := fun i p hp => by
      show (es[i]?.map (·.1)).getD 0 = _
      rw [R.entry hp]
      rfl
    rcases met with ⟨q, i, hq, hi, _, first, ans⟩ | ⟨first, ans⟩
    · have ans2 : t.probe (fun i => (es[i]?.map (·.1)).getD 0) (mh P w k) (stand.getD (t.probeStart (mh P w k))) = some (.candidate (way t.mask (mh P w k) (c + q)) i (std t (mh P w k) (c + (q + 1)))) := by
        rw [at_, ← step, ← std_add]
        exact ans
      rw [ans2]
      dsimp only
      rw [step] at hi
      have il : i < L.length := by
        have z1 : i < t.place.toList.length := (List.getElem?_eq_some_iff.mp hi).1
        have z2 := R.tab.sz
        rw [List.length_map] at z2
        rw [Array.length_toList] at z1
        omega
      obtain ⟨p, hp⟩ : ∃ p, L[i]? = some p := ⟨_, List.getElem?_eq_getElem il⟩
      have pm : p ∈ L := List.mem_of_getElem? hp
      obtain ⟨y, ey, hy⟩ := R.tup p pm
      have onward : wpAny (model P w) A (searchRest a (.ref x) (mh P w k) true f es t (way t.mask (mh P w k) (c + q)) i (std t (mh P w k) (c + (q + 1)))) Q E s := by
        unfold searchRest
        rw [R.entry hp, ey]
        dsimp only
        refine wpAny_bind (wpAny_holding (wpAny_eqBool_tuple hu hy hx ?_))
        refine wpAny_bind (wpAny_setState_of ho hd R.fits ?_)
        dsimp only
        by_cases same : p.2 = k
        · refine wp_if_pos (by simp [same]) ?_
          exact wpAny_pure (yes (List.mem_map.mpr ⟨p, pm, same⟩))
        · refine wp_if_neg (by simp [same]) ?_
          try refine wpAny_bind (wpAny_pure ?_)
          rw [sameMem]
          dsimp only
          have sl : t.slot (way t.mask (mh P w k) (c + q)) = .live i := slot_live R.tab.ris hi
          simp only [if_true, sl, R.entry hp, ey]
          refine wpAny_bind (wpAny_isSame_ref_self (wpAny_bind (wpAny_pure ?_)))
          simp only [if_true]
          refine wp_if_neg (by simp [same]) ?_
          refine m_look R hx hu lim empty full yes no f (c + (q + 1)) _ rfl (by omega) (by omega) fun i0 p0 h0 k0 => ?_
          obtain ⟨c', z1, z2, z3⟩ := later i0 p0 h0 k0
          refine ⟨c', ?_, z2, z3⟩
          rcases Nat.lt_trichotomy c' (c + q) with lt | eq | gt
          · exact absurd ((hashes i0 p0 h0).trans (congrArg (mh P w) k0)) (first (c' - c) i0 (by omega) (by rw [step, show c + (c' - c) = c' by omega]; exact z3))
          · exfalso
            rw [eq] at z3
            have s2 := slot_live R.tab.ris z3
            rw [sl] at s2
            injection s2 with s2
            rw [← s2, hp] at h0
            exact same (by rw [Option.some.inj h0]; exact k0)
          · omega
      by_cases hl : t.led = true
      · refine wp_if_neg (by simp [hl]) ?_
        try refine wpAny_bind (wpAny_pure ?_)
        exact onward
      · refine wp_if_pos (by simp [hl]) ?_
        refine wpAny_bind (mt_seen hx (fun y2 hy2 => ?_) ?_)
        · obtain ⟨e, he, rfl⟩ := List.mem_map.mp hy2
          have m1 : e ∈ es ∧ e.1 = mh P w k := by simpa using he
          have m2 : e ∈ es.toList := by simpa using m1.1
          rw [R.rows] at m2
          obtain ⟨p2, hp2, rfl⟩ := List.mem_map.mp m2
          exact ⟨p2.2, R.tup p2 hp2⟩
        · refine wp_if_neg (by decide) ?_
          try refine wpAny_bind (wpAny_pure ?_)
          exact onward
    · have ans2 : t.probe (fun i => (es[i]?.map (·.1)).getD 0) (mh P w k) (stand.getD (t.probeStart (mh P w k))) = some (.empty (way t.mask (mh P w k) K) none) := by
        have z : way t.mask (mh P w k) K = (nth t.mask (std t (mh P w k) c) (K - c)).j := by rw [step, show c + (K - c) = K by omega]
        rw [at_, z]
        exact ans
      rw [ans2]
      dsimp only
      refine wpAny_pure (no fun hm => ?_)
      obtain ⟨p0, m0, k0⟩ := List.mem_map.mp hm
      obtain ⟨i0, h0⟩ := List.getElem?_of_mem m0
      obtain ⟨c', z1, z2, z3⟩ := later i0 p0 h0 k0
      exact first (c' - c) i0 (by omega) (by rw [step, show c + (c' - c) = c' by omega]; exact z3) ((hashes i0 p0 h0).trans (congrArg (mh P w) k0))
theorem m_search (R : MSet P w s.heap a L es ep t) {x : Addr} {k : List Key} (hx : MT P w s.heap k x) (hu : A.units < cLine) {Q : SetFound → Shared → Prop} (yes : k ∈ L.map (·.2) → Q (.there none) s)
    (no : ∀ K, k ∉ L.map (·.2) → way t.mask (mh P w k) K ∉ t.place.toList → (∀ c, c < K → way t.mask (mh P w k) c ∈ t.place.toList) → Q (.free (way t.mask (mh P w k) K) false) s) : wpAny (model P w) A (setSearch a (.ref x) (mh P w k) true) Q E s := by
  have room := R.room
  obtain ⟨K, lim, empty, full⟩ := R.tab.first (by rw [List.length_map]; omega) (mh P w k)
  have turns : 10 * SetTable.turns t.mask ≤ 1420 := by
    unfold SetTable.turns
    rcases R.tab.mok with e | e | e <;> omega
  unfold setSearch
  refine m_look R hx hu lim empty full yes (fun z => no K z empty full) 100000 0 none rfl (Nat.zero_le _) (by omega) fun i p hp hk => ?_
  have hi : (L.map fun p => mh P w p.2)[i]? = some (mh P w k) := by rw [List.getElem?_map, hp, ← hk]; rfl
  have il : i < t.place.toList.length := by
    have z1 : i < L.length := (List.getElem?_eq_some_iff.mp hp).1
    have z2 := R.tab.sz
    rw [List.length_map] at z2
    rw [Array.length_toList]
    omega
  have hj := List.getElem?_eq_getElem il
  obtain ⟨c, lt, e⟩ := R.tab.before empty hi hj
  exact ⟨c, Nat.zero_le _, lt, by rw [hj, e]⟩
end
end K23

-- text A24
set_option Elab.async false
set_option linter.all false
set_option maxRecDepth 100000
set_option maxHeartbeats 4000000
namespace K23
open PySem PySem.Spec PyProof.Rows L2
/-- a row re-ordered -/
theorem order_map {α β : Type} (r : α → Int × β) {L : List α} {es : Array (Int × β)} {order : Array Nat} (rows : es.toList = L.map r) (hp : order.toList.Perm (List.range L.length)) :
    ∃ L2 : List α, (order.filterMap (es[·]?)).toList = L2.map r ∧ L2.Perm L ∧ (L2.map fun p => (r p).1) = order.toList.map fun i => (es.map (·.1)).getD i 0 := by
  have ent : ∀ i, es[i]? = (L[i]?).map r := fun i => by rw [← Array.getElem?_toList, rows, List.getElem?_map]
  refine ⟨order.toList.filterMap fun i => L[i]?, ?_, ?_, ?_⟩
  · rw [List.map_filterMap]
    have : (order.filterMap (es[·]?)).toList = order.toList.filterMap fun i => es[i]? := by first | (rw [Array.toList_filterMap]) | simp
    rw [this]
    congr 1
    funext i
    exact ent i
  · have := hp.filterMap fun i => L[i]?
    rw [List.filterMap_getElem?_range_length] at this
    exact this
  · have inn : ∀ i ∈ order.toList, i < L.length := fun i hi => List.mem_range.mp (hp.mem_iff.mp hi)
    generalize order.toList = l at inn
    induction l with
    | nil => rfl
    | cons i l ih =>
      have hi := inn i List.mem_cons_self
      have e1 : L[i]? = some L[i] := List.getElem?_eq_getElem hi
      have e2 : (es.map (·.1)).getD i 0 = (r L[i]).1 := by
        have e3 : (es.map (·.1))[i]? = some (r L[i]).1 := by rw [Array.getElem?_map, ent, e1]; rfl
        simp [Array.getD_eq_getD_getElem?, e3]
      rw [List.filterMap_cons_some e1, List.map_cons, List.map_cons, ih fun j hj => inn j (List.mem_cons_of_mem _ hj), e2]
section
variable {P : Program} {w : World} {A : Around} {E : Value → Shared → Prop} {s : Shared} {a : Addr} {L : List (Value × List Key)} {es : Array (Int × Value)} {ep : Nat} {t : SetTable}
/-- what is no set stands still while a set is changed -/
theorem mt_same {h h' : Heap} {u : Value} {k : List Key} {o : Obj} (hk : IsM P w h u k) (ho : h.get? a = some o) (hd : o.data = .set es ep t) (sb : Heap.SameBut a h h') : IsM P w h' u k := by
  obtain ⟨b, eu, ob, items, n, hb, hc, hdt, hi⟩ := hk
  have ne : b ≠ a := fun z => by
    rw [z, ho] at hb
    rw [← Option.some.inj hb, hd] at hdt
    cases hdt
  exact ⟨b, eu, ob, items, n, (sb.2 b ne).trans hb, hc, hdt, hi⟩
theorem m_relay {o : Obj} (ho : s.heap.get? a = some o) (hex : o.ExactSet) (hd : o.data = .set es ep t) (rows : es.toList = L.map (mrow P w)) (sz : t.place.size = es.size) (dm : t.dummies = #[]) (fl : es.size ≤ t.mask) (nd : (L.map (·.2)).Nodup) (tup : ∀ p ∈ L, IsM P w s.heap p.1 p.2)
    (led : w.params.followText "set-order" = true ∨ t.led = true) (few : L.length < 64) {wanted M : Nat} (hw : SetTable.sizeAbove wanted - 1 = M) (hM : MaskOk M) (hw2 : SetTable.sizeAbove wanted ≤ 128) (room : L.length * 5 < M * 3) {Q : Unit → Shared → Prop}
    (fin : ∀ h' L' es' ep' t', Heap.SameBut a s.heap h' → MSet P w h' a L' es' ep' t' → L'.Perm L → Q () { s with heap := h' }) : wpAny (model P w) A (setRelay a wanted) Q E s := by
  have size : es.size = L.length := by rw [← Array.length_toList, rows, List.length_map]
  have fits : t.fits es.size = true := by
    unfold SetTable.fits SetTable.fill
    rw [dm, Bool.and_eq_true, beq_iff_eq, decide_eq_true_eq]
    exact ⟨sz, by show t.place.size + 0 ≤ t.mask; omega⟩
  obtain ⟨t', order, e, pm, T, em, el, _, ed⟩ := relaid_ok t (hs := es.map (·.1)) (wanted := wanted) hw hM (by rw [Array.size_map, size]; omega)
  rw [Array.size_map, size] at pm
  obtain ⟨L2, r1, r2, r3⟩ := order_map (mrow P w) rows pm
  rw [← r3] at T
  have n2 : (order.filterMap (es[·]?)).size = es.size := by rw [← Array.length_toList, r1, List.length_map, r2.length_eq, size]
  rw [setRelay_eq]
  refine wpAny_bind (wpAny_setState_of ho hd fits ?_)
  dsimp only
  refine wp_if_neg (by rw [sizeLine_eq]; omega) ?_
  try refine wpAny_bind (wpAny_pure ?_)
  rw [e]
  dsimp only
  refine wpAny_bind ?_
  refine wp_if_neg (by rw [n2]; simp) ?_
  try refine wpAny_bind (wpAny_pure ?_)
  refine wpAny_pure ?_
  dsimp only
  refine wpAny_storeSet_of ho hd ?_ (by rw [n2, size, sizeLine_eq]; omega)
  have sb : Heap.SameBut a s.heap (s.heap.update a (Obj.putSet (order.filterMap (es[·]?)) t')) := Heap.SameBut.update ..
  exact fin _ L2 (order.filterMap (es[·]?)) (ep + 1) t' sb ⟨⟨_, store_at ho hd, ⟨hex.1, hex.2.1, hex.2.2⟩, rfl⟩, r1, T, (r2.map (·.2)).nodup_iff.mpr nd, fun p hp => mt_same (tup p (r2.mem_iff.mp hp)) ho hd sb, by rw [el]; exact led, by rw [r2.length_eq, em]; exact room, by rw [r2.length_eq]; exact few⟩ r2
theorem m_add (R : MSet P w s.heap a L es ep t) {x : Addr} {k : List Key} (hx : MT P w s.heap k x) (hu : A.units < cLine) (few : L.length + 1 < 64) {Q : Bool → Shared → Prop}
    (fin : ∀ b h' L' es' ep' t', Heap.SameBut a s.heap h' → MSet P w h' a L' es' ep' t' → (k ∈ L.map (·.2) → L' = L) → (k ∉ L.map (·.2) → L'.Perm ((.ref x, k) :: L)) → Q b { s with heap := h' }) : wpAny (model P w) A (setAddHashed a (.ref x) (mh P w k)) Q E s := by
  obtain ⟨o, ho, hex, hd⟩ := R.ob
  have size := R.size
  have room := R.room
  unfold setAddHashed
  refine wpAny_holding ?_
  rw [show (100000 : Nat) = 99999 + 1 from rfl, setAddHashedIn_succ]
  refine wpAny_bind (wpAny_setState_of ho hd R.fits ?_)
  dsimp only
  refine wp_if_neg (by simp [byScan, Value.scannable]) ?_
  try refine wpAny_bind (wpAny_pure ?_)
  refine wpAny_bind (m_search R hx hu (fun yes => ?_) fun K no empty full => ?_)
  · dsimp only
    exact wpAny_pure (fin false s.heap L es ep t (Heap.SameBut.refl a s.heap) R (fun _ => rfl) fun z => absurd yes z)
  · dsimp only
    refine wpAny_bind (wpAny_setState_of ho hd R.fits ?_)
    dsimp only
    obtain ⟨q1, q2, q3, q4, q5, _, _, _, q9⟩ := R.tab.put empty full
    generalize t.put (way t.mask (mh P w k) K) = pt at q1 q3 q4 q5 q9 ⊢
    obtain ⟨t1, at_⟩ := pt
    dsimp only at q1 q3 q4 q5 q9 ⊢
    subst q1
    have new : (SetTable.insertAt es (SetTable.below t.place (way t.mask (mh P w k) K)) (mh P w k, Value.ref x)).toList = (L.take (SetTable.below t.place (way t.mask (mh P w k) K)) ++ (Value.ref x, k) :: L.drop (SetTable.below t.place (way t.mask (mh P w k) K))).map (mrow P w) := by
      rw [SetTable.toList_insertAt, R.rows, List.map_append, List.map_cons, List.map_take, List.map_drop]
      rfl
    have hs : (L.take (SetTable.below t.place (way t.mask (mh P w k) K)) ++ (Value.ref x, k) :: L.drop (SetTable.below t.place (way t.mask (mh P w k) K))).map (fun p => mh P w p.2) = (L.map fun p => mh P w p.2).take (SetTable.below t.place (way t.mask (mh P w k) K)) ++ mh P w k :: (L.map fun p => mh P w p.2).drop (SetTable.below t.place (way t.mask (mh P w k) K)) := by
      rw [List.map_append, List.map_cons, List.map_take, List.map_drop]
    rw [← hs] at q3
    have pm := put_perm L (SetTable.below t.place (way t.mask (mh P w k) K)) (Value.ref x, k)
    generalize SetTable.insertAt es (SetTable.below t.place (way t.mask (mh P w k) K)) (mh P w k, Value.ref x) = es1 at new ⊢
    generalize L.take (SetTable.below t.place (way t.mask (mh P w k) K)) ++ (Value.ref x, k) :: L.drop (SetTable.below t.place (way t.mask (mh P w k) K)) = L1 at new q3 pm
    have len : L1.length = L.length + 1 := pm.length_eq
    have n1 : es1.size = L.length + 1 := by rw [← Array.length_toList, new, List.length_map, len]
    have nd1 : (L1.map (·.2)).Nodup := (pm.map (·.2)).nodup_iff.mpr (by rw [List.map_cons]; exact List.nodup_cons.mpr ⟨no, R.nd⟩)
    -- whether the hashes go by value or not, the table's places are the same
    have both : ∀ t2 : SetTable, t2.place = t1.place → t2.dummies = t1.dummies → t2.mask = t1.mask → t2.led = t1.led → t2.fill = t1.fill →
        wpAny (model P w) A (do
          storeSet a es1 t2
          if (!false && t2.tooFull) = true then do
            setRelay a (SetTable.grown (es.size + 1))
            pure true
          else pure true) Q E s := by
      intro t2 g1 g2 g3 g4 g5
      have T2 : TabOk t2 (L1.map fun p => mh P w p.2) := by
        refine ⟨by rw [g1]; exact q3.ris, by rw [g2]; exact q3.dm, by rw [g1]; exact q3.sz, by rw [g3]; exact q3.mok, by rw [g1, g3]; exact q3.bd, fun i h j hi hj => ?_⟩
        rw [g1] at hj
        obtain ⟨c, c1, c2⟩ := q3.reach i h j hi hj
        exact ⟨c, by rw [g3]; exact c1, fun c' lt => by rw [g3, g1]; exact c2 c' lt⟩
      refine wpAny_bind (wpAny_storeSet_of ho hd ?_ (by rw [n1, sizeLine_eq]; omega))
      have sb : Heap.SameBut a s.heap (s.heap.update a (Obj.putSet es1 t2)) := Heap.SameBut.update ..
      have ho1 := store_at (es' := es1) (t' := t2) ho hd
      generalize s.heap.update a (Obj.putSet es1 t2) = h1 at sb ho1 ⊢
      have tup1 : ∀ p ∈ L1, IsM P w h1 p.1 p.2 := fun p hp => by
        rcases List.mem_cons.mp (pm.mem_iff.mp hp) with e | hp
        · rw [e]
          exact mt_same ⟨x, rfl, hx⟩ ho hd sb
        · exact mt_same (R.tup p hp) ho hd sb
      have led1 : w.params.followText "set-order" = true ∨ t2.led = true := by rw [g4, q5]; exact R.led
      have mask2 : t2.mask = t.mask := g3.trans q4
      by_cases hf : t2.tooFull = true
      · have over : (L.length + 1) * 5 ≥ t.mask * 3 := by
          have z := hf
          unfold SetTable.tooFull at z
          rw [decide_eq_true_eq, g5, q9, List.length_map, mask2] at z
          exact z
        have two : (t.mask = 7 ∧ L.length = 4) ∨ (t.mask = 31 ∧ L.length = 18) := by
          rcases R.tab.mok with e | e | e
          · exact .inl ⟨e, by omega⟩
          · exact .inr ⟨e, by omega⟩
          · omega
        have grow : ∀ M, SetTable.sizeAbove (SetTable.grown (L.length + 1)) - 1 = M → MaskOk M → SetTable.sizeAbove (SetTable.grown (L.length + 1)) ≤ 128 → (L.length + 1) * 5 < M * 3 →
            wpAny (model P w) A (do
              setRelay a (SetTable.grown (es.size + 1))
              pure true) Q E { s with heap := h1 } := fun M z1 z2 z3 z4 => by
          rw [size]
          refine wpAny_bind (m_relay (s := { s with heap := h1 }) (t := t2) ho1 ⟨hex.1, hex.2.1, hex.2.2⟩ rfl new (by rw [n1, T2.sz, List.length_map, len]) T2.dm (by rw [n1, mask2]; rcases two with ⟨e, e2⟩ | ⟨e, e2⟩ <;> omega) nd1 tup1 led1 (by rw [len]; exact few) z1 z2 z3 (by rw [len]; exact z4) ?_)
          intro h2 L2 es2 ep2 t3 sb2 R2 pm2
          exact wpAny_pure (fin true h2 L2 es2 ep2 t3 (sb.trans sb2) R2 (fun z => absurd z no) fun _ => pm2.trans pm)
        rw [if_pos (by rw [hf]; rfl)]
        rcases two with ⟨_, e2⟩ | ⟨_, e2⟩
        · exact grow 31 (by rw [e2, size_20]) (.inr (.inl rfl)) (by rw [e2, size_20]; decide) (by omega)
        · exact grow 127 (by rw [e2, size_76]) (.inr (.inr rfl)) (by rw [e2, size_76]; decide) (by omega)
      · rw [if_neg (by simp [hf])]
        refine wpAny_pure (fin true h1 L1 es1 (ep + 1) t2 sb ⟨⟨_, ho1, ⟨hex.1, hex.2.1, hex.2.2⟩, rfl⟩, new, T2, nd1, tup1, led1, ?_, by rw [len]; exact few⟩ (fun z => absurd z no) fun _ => pm)
        have z := hf
        unfold SetTable.tooFull at z
        rw [decide_eq_true_eq, g5, q9, List.length_map] at z
        rw [len]
        omega
    have fold : ∀ c : Bool, wpAny (model P w) A (do
          storeSet a es1 (if c = true then t1 else { t1 with plain := false })
          if (!false && (if c = true then t1 else { t1 with plain := false } : SetTable).tooFull) = true then do
            setRelay a (SetTable.grown (es.size + 1))
            pure true
          else pure true) Q E s := fun c => by
      cases c with
      | true => exact both t1 rfl rfl rfl rfl rfl
      | false => exact both { t1 with plain := false } rfl rfl rfl rfl rfl
    by_cases hp : t1.plain = true
    · first
        | (refine wpAny_bind ?_; refine wp_if_pos hp ?_; refine mt_byval hx fun c => ?_)
        | refine wp_if_pos hp (wpAny_bind (mt_byval hx fun c => ?_))
      exact fold c
    · first
        | (refine wpAny_bind ?_; refine wp_if_neg hp ?_; refine wpAny_pure ?_)
        | refine wp_if_neg hp (wpAny_bind (wpAny_pure ?_))
      exact fold true
end
def tupSK (P : Program) (w : World) : SetK P w (List Key) where
  is := fun h u k => IsM P w h u k
  Ss := fun h a L => ∃ es ep t, MSet P w h a L es ep t
  is_keep := fun ⟨b, e, o, items, n, ho, r⟩ k => ⟨b, e, o, items, n, k b o ho, r⟩
  fresh := fun {h a} e => ⟨#[], 0, _, ⟨_, e, ⟨rfl, rfl, rfl⟩, rfl⟩, rfl, ⟨List.Pairwise.nil, rfl, rfl, .inl rfl, fun x hx => (by cases hx), fun i h j hi => (by simp at hi)⟩, List.nodup_nil, fun p hp => (by cases hp), by
      show _ ∨ (!w.params.followText "set-order") = true
      cases w.params.followText "set-order"
      · exact .inr rfl
      · exact .inl rfl, by show 0 * 5 < 7 * 3; decide, by show 0 < 64; decide⟩
  keep := fun ⟨es, ep, t, R⟩ k ok => by
    obtain ⟨o, ho, r⟩ := R.ob
    exact ⟨es, ep, t, ⟨o, k o ho, r⟩, R.rows, R.tab, R.nd, ok, R.led, R.room, R.few⟩
  add := fun {A E s a L u x Q} ⟨es, ep, t, R⟩ ⟨b, e, hb⟩ hu few fin => by
    subst e
    unfold setAdd
    refine wpAny_holding (wpAny_bind (wpAny_pyHash_tuple (by omega) hb ?_))
    exact m_add (s := { s with toks := s.toks + (x.length + 1) }) R hb (by omega) few fun b' h' L' es' ep' t' sb R' c1 c2 => fin b' h' _ L' (Nat.le_add_right _ _) sb ⟨es', ep', t', R'⟩ c1 c2
  out := fun {h a L} ⟨es, ep, t, R⟩ => by
    obtain ⟨o, ho, hex, hd⟩ := R.ob
    have sz : es.size = L.length := by rw [← Array.length_toList, R.rows, List.length_map]
    refine ⟨es, ep, t, ⟨o, ho, hex.1, hd⟩, ?_, by have := R.few; unfold scanBound; omega, R.tab.ris, R.led, ?_, R.nd⟩
    · have z1 := R.tab.sz
      have z3 := R.room
      rw [List.length_map] at z1
      unfold SetTable.fits SetTable.fill
      rw [R.tab.dm, Bool.and_eq_true, beq_iff_eq, decide_eq_true_eq]
      exact ⟨by omega, by show t.place.size + 0 ≤ t.mask; omega⟩
    · rw [R.rows, List.map_map]
      exact List.Perm.refl _
end K23

-- text A25
set_option Elab.async false
set_option linter.all false
set_option maxRecDepth 100000
set_option maxHeartbeats 4000000
namespace K23
open PySem PySem.Spec PyProof.Rows L2

/-! ## 38. sorted(set(xs)) -/
theorem perm_lift {α β : Type} (g : α → β) : ∀ {T : List α} {out : List β}, out.Perm (T.map g) → ∃ T' : List α, T'.Perm T ∧ T'.map g = out
  | [], out, p => ⟨[], List.Perm.refl _, (List.perm_nil.mp p).symm⟩
  | t :: T, out, p => by
    have m : g t ∈ out := p.mem_iff.mpr List.mem_cons_self
    obtain ⟨a, b, rfl⟩ := List.append_of_mem m
    have q : (a ++ b).Perm (T.map g) := List.Perm.cons_inv ((List.perm_middle.symm).trans p)
    obtain ⟨T2, h1, h2⟩ := perm_lift g q
    obtain ⟨ta, tb, e, e1, e2⟩ := List.map_eq_append_iff.mp h2
    refine ⟨ta ++ t :: tb, List.perm_middle.trans (List.Perm.cons _ (e ▸ h1)), ?_⟩
    rw [List.map_append, List.map_cons, e1, e2]
section
variable {α β : Type} {X : Cx} {M : Md} {ds : List (Option D)} {e : Expr} {p p2 q pos : Pos} {f : β → D} {key : β → α} {l : List β} {d : D}
/-- the data stand as the kind says -/
def Stands (X : Cx) (K : SetK X.prog X.w α) (f : β → D) (key : β → α) : Prop := ∀ {pins : List (Addr × Obj)} {σ : L2.St} {H : Hp} {s : Shared} {S : Addr → Prop} {v : V} {u : Value} {b : β}, Inv X pins σ H s → RelV v u → Is X.K S H v (f b) → K.is s.heap u (key b)
/-- values, data and things side by side -/
structure Tri where
  v : V
  u : Value
theorem triples {K : PySem.W.Frag} {S : Addr → Prop} {H : Hp} {f : β → D} : ∀ {xs : List V} {us : List Value} {l : List β}, Vals xs us → Iss K S H xs (l.map f) → ∃ T : List (V × Value × β), T.map (·.2.1) = us ∧ T.map (·.2.2) = l ∧ ∀ t ∈ T, RelV t.1 t.2.1 ∧ Is K S H t.1 (f t.2.2)
  | [], us, l, r, i => by
    cases r
    cases l with
    | nil => exact ⟨[], rfl, rfl, fun t ht => by cases ht⟩
    | cons => cases i
  | x :: xs, us, l, r, i => by
    cases r with
    | cons r1 r2 =>
      cases l with
      | nil => cases i
      | cons b l =>
        cases i with
        | cons i1 i2 =>
          obtain ⟨T, h1, h2, h3⟩ := triples r2 i2
          refine ⟨(x, _, b) :: T, by rw [List.map_cons, h1], by rw [List.map_cons, h2], fun t ht => ?_⟩
          rcases List.mem_cons.mp ht with z | z
          · rw [z]; exact ⟨r1, i1⟩
          · exact h3 t z
theorem tri_vals {K : PySem.W.Frag} {S : Addr → Prop} {H : Hp} {f : β → D} : ∀ {T : List (V × Value × β)}, (∀ t ∈ T, RelV t.1 t.2.1 ∧ Is K S H t.1 (f t.2.2)) → Vals (T.map (·.1)) (T.map (·.2.1)) ∧ Iss K S H (T.map (·.1)) ((T.map (·.2.2)).map f)
  | [], _ => ⟨.nil, .nil⟩
  | t :: T, h => by
    obtain ⟨a, b⟩ := tri_vals fun z hz => h z (List.mem_cons_of_mem _ hz)
    obtain ⟨c, d⟩ := h t List.mem_cons_self
    exact ⟨.cons c a, .cons d b⟩
variable [DecidableEq α] [DecidableEq β]
theorem be_sortedSetG (K : SetK X.prog X.w α) (kd : Kd f) (inj : ∀ a b, key a = key b → a = b) (st : Stands X K f key) (hu : X.A.units + 64 < cLine) (hc : X.calm = true) (hm : X.mg "sorted" = none) (hm2 : X.mg "set" = none) (ha : BE X M ds e d) (few : l.length < 64) (hs : ∀ H v, M.W H → Is X.K M.S H v d → ∃ a xs, v = .ref a ∧ (SqL X.K H a xs ∨ SqT X.K H a xs) ∧ Iss X.K M.S H xs (l.map f))
    (hg : Gl X "sorted" := by rfl) (hg2 : Gl X "set" := by rfl) (na : starEach [e] X.env = (false, eval e X.env) :: starEach [] X.env := by rfl)
    (nb : starEach [.Call (.Name "set" p2) [e] [] q] X.env = (false, eval (.Call (.Name "set" p2) [e] [] q) X.env) :: starEach [] X.env := by rfl) :
    BE X M ds (.Call (.Name "sorted" p) [.Call (.Name "set" p2) [e] [] q] [] pos) (.lst ((srt f (dd l)).map f)) := by
  refine ⟨⟨fun pins s σ H Q I h => ?_⟩⟩
  obtain ⟨en, w, k⟩ := h
  have boot : bootBuiltins ("sorted" : Str) = some (.builtin "sorted") := by decide +kernel
  refine Call_ (ld_blt I hg hm boot ?_)
  refine PyProof.Rows.callWith_builtin1 (PyProof.Rows.args_cons ?_ nb) nb rfl
  refine Call_ (ld_blt I hg2 hm2 PyProof.Rows.boot_set ?_)
  refine PyProof.Rows.callWith_type1 (PyProof.Rows.args_cons (thn (ha.pe.run pins s σ H (fun v H1 => Ex M.S H H1 ∧ M.W H1 ∧ Is X.K M.S H1 v d) I ⟨en, w, fun d1 v H1 pd e1 w1 i1 => by subst pd; exact ⟨e1, w1, i1⟩⟩) fun v s1 ⟨x, H1, I1, r1, e1, w1, i1⟩ => PyProof.Rows.args_nil ?_) na) na rfl
  obtain ⟨a, xs, rfl, sq, is⟩ := hs H1 x w1 i1
  cases r1
  -- from the set on
  have onward : ∀ (its : List Value), Vals xs its → (∀ Q1 : Value → Shared → Prop, (∀ (ks : List (Value × α)), its = ks.map (·.1) → (∀ p ∈ ks, K.is s1.heap p.1 p.2) → ks.length < 64 → (∀ (h' : Heap) (tk : Nat) L, K.Ss h' s1.heap.objs.size L → Gt ks ks.length L → (∀ b o, s1.heap.get? b = some o → h'.get? b = some o) → Q1 (.ref s1.heap.objs.size) { s1 with heap := h', toks := tk }) → wpAny (model X.prog X.w) X.A (call (.type "set") [.ref a]) Q1 X.xe s1)) →
      wpAny (model X.prog X.w) X.A (call (.type "set") [.ref a]) (fun v s₁ => wpAny (model X.prog X.w) X.A (spliced (backTo pos (starEach [] X.env))) (fun vs s₂ => wpAny (model X.prog X.w) X.A (call (.builtin "sorted") (v :: vs)) (EP X pins σ Q) X.xe s₂) X.xe s₁) X.xe s1 := by
    intro its rv mk
    obtain ⟨T, t1, t2, t3⟩ := triples rv is
    have ne : T.length = l.length := by rw [← t2, List.length_map]
    refine mk _ (T.map fun t => (t.2.1, key t.2.2)) (by rw [List.map_map, ← t1]; rfl) (fun p hp => ?_) (by rw [List.length_map, ne]; exact few) fun h' tk L hS g kp => ?_
    · obtain ⟨t, ht, rfl⟩ := List.mem_map.mp hp
      exact st I1 (t3 t ht).1 (t3 t ht).2
    refine PyProof.Rows.args_nil ?_
    have I2 : Inv X pins σ H1 { s1 with heap := h', toks := tk } := I1.kept (t' := tk) kp
    obtain ⟨es, ep, t, at_, fits, small, ris, led, pm, nd⟩ := K.out hS
    refine sorted_by (collect_set (A := X.A.in1) (s := { s1 with heap := h', toks := tk }) (I2.ok.hd hc) at_ fits small ris led fun s3 out k3 _ g3 o3 pm3 => ?_)
    have J : Inv X pins σ H1 s3 := by
      have J1 : Inv X pins σ H1 { s1 with heap := s3.heap, toks := tk } := I2.kept (t' := tk) k3
      exact I2.call' (ch := []) o3 (Un.kept k3) J1.hok (by rw [g3]; exact I2.bare) (fun _ z => by cases z)
    -- which of the things the set has
    have pick : ∀ L0 : List (Value × α), (∀ p ∈ L0, p ∈ T.map fun t => (t.2.1, key t.2.2)) → ∃ T0 : List (V × Value × β), T0.map (fun t => (t.2.1, key t.2.2)) = L0 ∧ ∀ t ∈ T0, t ∈ T := by
      intro L0
      induction L0 with
      | nil => intro _; exact ⟨[], rfl, fun t ht => by cases ht⟩
      | cons p L0 ih =>
        intro hp
        obtain ⟨t, ht, et⟩ := List.mem_map.mp (hp p List.mem_cons_self)
        obtain ⟨T0, h1, h2⟩ := ih fun r hr => hp r (List.mem_cons_of_mem _ hr)
        refine ⟨t :: T0, by rw [List.map_cons, et, h1], fun z hz => ?_⟩
        rcases List.mem_cons.mp hz with y | y
        · rw [y]; exact ht
        · exact h2 z y
    have tklen : (T.map fun t => (t.2.1, key t.2.2)).take (T.map fun t => (t.2.1, key t.2.2)).length = T.map fun t => (t.2.1, key t.2.2) := List.take_of_length_le (Nat.le_refl _)
    obtain ⟨T0, u1, u2⟩ := pick L fun p hp => by
      have := g.from_ p hp
      rw [tklen] at this
      exact this
    have u3 : L.map (·.1) = T0.map (·.2.1) := by rw [← u1, List.map_map]; rfl
    have u4 : L.map (·.2) = (T0.map (·.2.2)).map key := by rw [← u1, List.map_map, List.map_map]; rfl
    obtain ⟨T1, v1, v2⟩ := perm_lift (fun t : V × Value × β => t.2.1) (show out.Perm (T0.map fun t => t.2.1) by rw [← u3]; exact pm3.trans pm)
    have ok1 : ∀ t ∈ T1, RelV t.1 t.2.1 ∧ Is X.K M.S H1 t.1 (f t.2.2) := fun t ht => t3 t (u2 t (v1.mem_iff.mp ht))
    obtain ⟨rv1, is1⟩ := tri_vals ok1
    rw [v2] at rv1
    have ndT : (T1.map (·.2.2)).Nodup := by
      rw [u4] at nd
      have : (T0.map (·.2.2)).Nodup := List.Pairwise.of_map key (fun _ _ h e => h (congrArg key e)) nd
      exact (v1.map (·.2.2)).nodup_iff.mpr this
    have mem : ∀ b, b ∈ T1.map (·.2.2) ↔ b ∈ dd l := fun b => by
      rw [(v1.map (·.2.2)).mem_iff, dd_mem]
      constructor
      · intro hb
        obtain ⟨t, ht, rfl⟩ := List.mem_map.mp hb
        rw [← t2]
        exact List.mem_map.mpr ⟨t, u2 t ht, rfl⟩
      · intro hb
        rw [← t2] at hb
        obtain ⟨t, ht, rfl⟩ := List.mem_map.mp hb
        have := g.full (t.2.1, key t.2.2) (by rw [tklen]; exact List.mem_map.mpr ⟨t, ht, rfl⟩)
        rw [u4] at this
        obtain ⟨b2, h2, e2⟩ := List.mem_map.mp this
        rw [← inj _ _ e2]
        exact h2
    have same : srt f (T1.map (·.2.2)) = srt f (dd l) := kd.srt_eq ((List.perm_ext_iff_of_nodup ndT (dd_nodup l)).mpr mem)
    have lim : ((T1.map (·.2.2)).map f).length ≤ sizeLine := by
      have z1 : T1.length = T0.length := v1.length_eq
      have z2 : L.length = T0.length := by rw [← u1, List.length_map]
      have z3 := g.few
      rw [List.length_map, ne] at z3
      rw [List.length_map, List.length_map, sizeLine_eq]
      omega
    refine sort_end hu J rv1 is1 (kd.sortd _) lim fun pt o2 np io => ?_
    rw [sortD_map, same] at io
    exact k _ _ _ rfl (e1.trans (Ex.new np)) (Md.new w1 np) (.lst upd_same (Md.freeS w1 np) (io.mono (B := NoA) (Ex.new np) fun _ z => z.elim))
  rcases sq with sq | sq
  · obtain ⟨its, rv, pl, hz⟩ := I1.list sq
    exact onward its rv fun Q1 ks hk good fw fin => make_set_list K ks (I1.ok.hd hc) pl.isList (by simpa using hk) good fw (by omega) fin
  · obtain ⟨its, rv, pl, hz⟩ := I1.tuple sq
    exact onward its rv fun Q1 ks hk good fw fin => make_set_tuple K ks (I1.ok.hd hc) pl (by simpa using hk) good fw (by omega) fin
theorem be_sortedSet (K : SetK X.prog X.w α) (kd : Kd f) (inj : ∀ a b, key a = key b → a = b) (st : Stands X K f key) (hu : X.A.units + 64 < cLine) (hc : X.calm = true) (hm : X.mg "sorted" = none) (hm2 : X.mg "set" = none) (ha : BE X M ds e d) (few : l.length < 64) (hs : d.seq = some (l.map f) := by rfl)
    (hg : Gl X "sorted" := by rfl) (hg2 : Gl X "set" := by rfl) (na : starEach [e] X.env = (false, eval e X.env) :: starEach [] X.env := by rfl)
    (nb : starEach [.Call (.Name "set" p2) [e] [] q] X.env = (false, eval (.Call (.Name "set" p2) [e] [] q) X.env) :: starEach [] X.env := by rfl) :
    BE X M ds (.Call (.Name "sorted" p) [.Call (.Name "set" p2) [e] [] q] [] pos) (.lst ((srt f (dd l)).map f)) :=
  be_sortedSetG K kd inj st hu hc hm hm2 ha few (fun H v w i => i.seqLT hs) hg hg2 na nb
/-- .. of a list of our own -/
theorem be_sortedSetA (K : SetK X.prog X.w α) (kd : Kd f) (inj : ∀ a b, key a = key b → a = b) (st : Stands X K f key) (hu : X.A.units + 64 < cLine) (hc : X.calm = true) (hm : X.mg "sorted" = none) (hm2 : X.mg "set" = none) {a0 : Addr} (rd : Rdl X.K M a0 (l.map f)) (il : D.imm.imms (l.map f) = true) (ha : BE X M ds e (.adr a0)) (few : l.length < 64)
    (hg : Gl X "sorted" := by rfl) (hg2 : Gl X "set" := by rfl) (na : starEach [e] X.env = (false, eval e X.env) :: starEach [] X.env := by rfl)
    (nb : starEach [.Call (.Name "set" p2) [e] [] q] X.env = (false, eval (.Call (.Name "set" p2) [e] [] q) X.env) :: starEach [] X.env := by rfl) :
    BE X M ds (.Call (.Name "sorted" p) [.Call (.Name "set" p2) [e] [] q] [] pos) (.lst ((srt f (dd l)).map f)) :=
  be_sortedSetG K kd inj st hu hc hm hm2 ha few (fun H v w i => by
    cases i
    obtain ⟨xs, e1, is⟩ := rd H w
    exact ⟨_, xs, rfl, .inl (.of e1), is.imm (Ex.refl (B := NoA) H) il⟩) hg hg2 na nb
end
end K23

-- text A26
set_option Elab.async false
set_option linter.all false
set_option maxRecDepth 100000
set_option maxHeartbeats 4000000
namespace K23
open PySem PySem.Spec PyProof.Rows L2

/-! ## 39. words for the law's own defs -/
theorem stW {X : Cx} : Stands X (strSK X.prog X.w) Wd.d (fun a => a.s) := fun {pins σ H s S v u b} I r i => by
  cases i
  obtain ⟨t, e⟩ := r
  exact ⟨t, e⟩
theorem wd_inj (a b : Wd) (h : a.s = b.s) : a = b := Wd.ext h
def letK (l : Letter) : List Key := [.inl l.src, .inl l.dst, .inr l.kind.s]
theorem letK_inj (a b : Letter) (h : letK a = letK b) : a = b := by
  obtain ⟨a1, a2, a3⟩ := a
  obtain ⟨b1, b2, b3⟩ := b
  simp only [letK, List.cons.injEq, Sum.inl.injEq, Sum.inr.injEq, and_true] at h
  rw [show a1 = b1 by omega, show a2 = b2 by omega, Wd.ext h.2.2]
theorem stL {X : Cx} : Stands X (tupSK X.prog X.w) Letter.d letK := fun {pins σ H s S v u b} I r i => by
  have i : Is X.K S H v (rowD (letK b)) := i
  obtain ⟨a, rfl, ha⟩ := i.row
  cases r
  exact ⟨a, rfl, key_of I.hok ha⟩
theorem has_true {α : Type} (t : α → Bool) (l : List α) : D.has (l.map fun x => .bl (t x)) (.bl true) = l.any t := by
  unfold D.has
  rw [List.any_map]
  congr 1
  funext x
  show (t x == true) = t x
  cases t x <;> rfl
theorem has_false {α : Type} (t : α → Bool) (l : List α) : (!D.has (l.map fun x => .bl (t x)) (.bl false)) = l.all t := by
  unfold D.has
  rw [List.any_map, List.not_any_eq_all_not]
  congr 1
  funext x
  show (!(t x == false)) = t x
  cases t x <;> rfl
section
variable {X : Cx} {M : Md} {ds : List (Option D)} {a b e : Expr} {p p2 pos pos2 : Pos}
theorem Iss.rg {K : PySem.W.Frag} {S : Addr → Prop} {H : Hp} (lo : Nat) (n : Nat) : Iss K S H (rgV (lo : Int) ((lo : Int) + (n : Int))) ((List.range' lo n).map natD) := by
  have e : rgV (lo : Int) ((lo : Int) + (n : Int)) = (List.range' lo n).map fun i => V.int (i : Nat) := by
    unfold rgV
    rw [show ((lo : Int) + (n : Int) - (lo : Int)).toNat = n by omega, List.range'_eq_map_range, List.map_map]
    rfl
  rw [e]
  generalize List.range' lo n = l
  induction l with
  | nil => exact .nil
  | cons x l ih => exact .cons (.int _) ih
/-- list(range(n)) -/
theorem be_listRng1 {n : Nat} (hc : X.calm = true) (hm : X.mg "list" = none) (hm2 : X.mg "range" = none) (ha : BE X M ds a (.int n)) (hn : n ≤ 1000 := by omega) (hg : Gl X "list" := by rfl) (hg2 : Gl X "range" := by rfl) (na : starEach [a] X.env = (false, eval a X.env) :: starEach [] X.env := by rfl)
    (nb : starEach [.Call (.Name "range" p2) [a] [] pos2] X.env = (false, eval (.Call (.Name "range" p2) [a] [] pos2) X.env) :: starEach [] X.env := by rfl) : BE X M ds (.Call (.Name "list" p) [.Call (.Name "range" p2) [a] [] pos2] [] pos) (.lst ((List.range n).map natD)) :=
  .of (pe_listRg hc hg hm (prg_1 hg2 hm2 ha.pe na) nb) fun σ H Q en w k => ⟨en, w, fun d v H1 pd e1 w1 i1 => by
    subst pd
    cases i1
    refine ⟨n, rfl, ⟨by omega, by omega, by omega, by omega, by omega⟩, fun q nq => k _ _ _ rfl (e1.trans (Ex.new nq)) (Md.new w1 nq) (.lst upd_same (Md.freeS w1 nq) ?_)⟩
    have := Iss.rg (K := X.K) (S := M.S) (H := upd H1 q (.lst (rgV 0 n))) 0 n
    rw [List.range_eq_range']
    simpa using this⟩
/-- list(range(lo, hi)) -/
theorem be_listRng2 {lo hi : Nat} (hc : X.calm = true) (hm : X.mg "list" = none) (hm2 : X.mg "range" = none) (ha : BE X M ds a (.int lo)) (hb : BE X M ds b (.int hi)) (hl : lo ≤ hi := by omega) (hn : hi ≤ 1000 := by omega) (hg : Gl X "list" := by rfl) (hg2 : Gl X "range" := by rfl) (na : starEach [a, b] X.env = (false, eval a X.env) :: starEach [b] X.env := by rfl)
    (na2 : starEach [b] X.env = (false, eval b X.env) :: starEach [] X.env := by rfl) (hp : (backTo pos2 (starEach [b] X.env)).any (·.1) = false := by rfl)
    (nb : starEach [.Call (.Name "range" p2) [a, b] [] pos2] X.env = (false, eval (.Call (.Name "range" p2) [a, b] [] pos2) X.env) :: starEach [] X.env := by rfl) : BE X M ds (.Call (.Name "list" p) [.Call (.Name "range" p2) [a, b] [] pos2] [] pos) (.lst ((List.range' lo (hi - lo)).map natD)) :=
  .of (pe_listRg hc hg hm (prg_2 hg2 hm2 ha.pe hb.pe na na2 hp) nb) fun σ H Q en w k => ⟨en, w, fun d v H1 pd e1 w1 i1 => ⟨en.mono e1 fun _ z => z, w1, fun d2 v2 H2 pd2 e2 w2 i2 => by
    subst pd pd2
    cases i1; cases i2
    refine ⟨lo, hi, rfl, rfl, ⟨by omega, by omega, by omega, by omega, by omega⟩, fun q nq => k _ _ _ rfl ((e1.trans e2).trans (Ex.new nq)) (Md.new w2 nq) (.lst upd_same (Md.freeS w2 nq) ?_)⟩
    have := Iss.rg (K := X.K) (S := M.S) (H := upd H2 q (.lst (rgV lo hi))) lo (hi - lo)
    rw [show (lo : Int) + ((hi - lo : Nat) : Int) = hi by omega] at this
    exact this⟩⟩
variable {rest : List Stmt} {E : Ends} {α : Type}
/-- x, .. = [], e: the list is our own -/
theorem st_newFst {tg : Expr} {d : D} {is : List Nat} {k0 : Nat} {pl pt : Pos} (f : α → D) (im : ∀ a, (f a).imm = true) (ds2 : Addr → List (Option D)) (hb : ∀ q, ¬ M.dep q → BE X (M.ls X.K q f im []) ds e d) (gt : ∀ q, ¬ M.dep q → BG X (M.ls X.K q f im []) tg (.tup [.adr q, d]) ds (ds2 q) is)
    (k : ∀ q, ¬ M.dep q → ST X (M.ls X.K q f im []) (ds2 q) rest E) (hs : swapsWithSole [tg] (.Tuple [.List [] pl, e] k0 pt) pos.line X.env = pure false := by rfl) (hw : swappedStores [tg] (.Tuple [.List [] pl, e] k0 pt) X.env = pure none := by rfl) (h1 : (assignEach [tg] X.env).map (·.2) = [assign tg X.env] := by rfl)
    (he : starEach [.List [] pl, e] X.env = (false, eval (.List [] pl) X.env) :: starEach [e] X.env := by rfl) (he2 : starEach [e] X.env = (false, eval e X.env) :: starEach [] X.env := by rfl) : ST X M ds (.Assign [tg] (.Tuple [.List [] pl, e] k0 pt) pos :: rest) E := by
  let te : TE := fun σ H Q => ∃ q, ¬ M.dep q ∧ tD X.K (M.ls X.K q f im []) ds (fun z => z = d) σ H Q
  let tg' : TG := fun v σ H Q => ∃ q, ¬ M.dep q ∧ tG X.K (M.ls X.K q f im []) (.tup [.adr q, d]) ds (ds2 q) is v σ H Q
  have pe : PE X e te := ⟨fun pins s σ H Q I ⟨q, nq, z⟩ => (hb q nq).pe.run pins s σ H Q I z⟩
  have pg : PG X tg tg' := ⟨fun pins s σ H v u Q I r ⟨q, nq, z⟩ => (gt q nq).pg.run pins s σ H v u Q I r z⟩
  refine st_of (ps_asg (pe_tup (pa_cons (pe_lst pa_nil) (pa_cons pe pa_nil he2) he)) pg hs hw h1) fun σ H en w => ?_
  refine ⟨Nat.zero_le _, fun q nq => ?_⟩
  obtain ⟨w1, en1, nd⟩ := Md.push_en (K := X.K) (hi := imm_map im []) w en nq .nil
  refine ⟨q, nd, en1, w1, fun d1 v H1 pd e1 w2 i1 => ?_⟩
  subst pd
  refine ⟨by show 2 ≤ sizeLine; decide, fun t nt => ?_⟩
  have en2 : En X.K (M.ls X.K q f im []).S (upd H1 t (.tup [.ref q, v])) σ ds := (en1.mono e1 fun _ z => z).mono (B := NoA) (Ex.new nt) fun _ z => z.elim
  refine ⟨q, nd, en2, .tup upd_same (.cons (.adr q) (.cons (i1.mono (B := NoA) (Ex.new nt) fun _ z => z.elim) .nil)), fun σ' en3 _ => (k q nd).go _ _ en3 (Md.new w2 nt)⟩
/-- .., x = e1, e2, [] -/
theorem st_newThd {tg e2 : Expr} {d d2 : D} {is : List Nat} {k0 : Nat} {pl pt : Pos} (f : α → D) (im : ∀ a, (f a).imm = true) (ds2 : Addr → List (Option D)) (hb : BE X M ds e d) (hb2 : BE X M ds e2 d2) (gt : ∀ q, ¬ M.dep q → BG X (M.ls X.K q f im []) tg (.tup [d, d2, .adr q]) ds (ds2 q) is)
    (i1 : d.imm = true) (i2 : d2.imm = true) (k : ∀ q, ¬ M.dep q → ST X (M.ls X.K q f im []) (ds2 q) rest E) (hs : swapsWithSole [tg] (.Tuple [e, e2, .List [] pl] k0 pt) pos.line X.env = pure false := by rfl) (hw : swappedStores [tg] (.Tuple [e, e2, .List [] pl] k0 pt) X.env = pure none := by rfl) (h1 : (assignEach [tg] X.env).map (·.2) = [assign tg X.env] := by rfl)
    (he : starEach [e, e2, .List [] pl] X.env = (false, eval e X.env) :: starEach [e2, .List [] pl] X.env := by rfl) (he2 : starEach [e2, .List [] pl] X.env = (false, eval e2 X.env) :: starEach [.List [] pl] X.env := by rfl) (he3 : starEach [.List [] pl] X.env = (false, eval (.List [] pl) X.env) :: starEach [] X.env := by rfl) :
    ST X M ds (.Assign [tg] (.Tuple [e, e2, .List [] pl] k0 pt) pos :: rest) E := by
  let tg' : TG := fun v σ H Q => ∃ q, ¬ M.dep q ∧ tG X.K (M.ls X.K q f im []) (.tup [d, d2, .adr q]) ds (ds2 q) is v σ H Q
  have pg : PG X tg tg' := ⟨fun pins s σ H v u Q I r ⟨q, nq, z⟩ => (gt q nq).pg.run pins s σ H v u Q I r z⟩
  refine st_of (ps_asg (pe_tup (pa_cons hb.pe (pa_cons hb2.pe (pa_cons (pe_lst pa_nil) pa_nil he3) he2) he)) pg hs hw h1) fun σ H en w => ?_
  refine ⟨en, w, fun x1 v1 H1 p1 e1 w1 j1 => ⟨en.mono e1 fun _ z => z, w1, fun x2 v2 H2 p2 e2' w2 j2 => ?_⟩⟩
  subst p1 p2
  refine ⟨Nat.zero_le _, fun q nq => ?_⟩
  have en2 := (en.mono e1 fun _ z => z).mono e2' fun _ z => z
  obtain ⟨w3, en3, nd⟩ := Md.push_en (K := X.K) (hi := imm_map im []) w2 en2 nq .nil
  refine ⟨by show 3 ≤ sizeLine; decide, fun t nt => ?_⟩
  have g1 := (j1.mono e2' fun _ z => z).imm (S' := (M.ls X.K q f im []).S) ((Ex.new (B := NoA) (o := .lst []) nq).trans (Ex.new (o := .tup [v1, v2, .ref q]) nt)) i1
  have g2 := j2.imm (S' := (M.ls X.K q f im []).S) ((Ex.new (B := NoA) (o := .lst []) nq).trans (Ex.new (o := .tup [v1, v2, .ref q]) nt)) i2
  exact ⟨q, nd, en3.mono (B := NoA) (Ex.new nt) fun _ z => z.elim, .tup upd_same (.cons g1 (.cons g2 (.cons (.adr q) .nil))), fun σ' en4 _ => (k q nd).go _ _ en4 (Md.new w3 nt)⟩
end
end K23

-- text C5
set_option Elab.async false
set_option linter.all false
set_option maxRecDepth 100000
set_option maxHeartbeats 2000000
namespace K23
open PySem PySem.Spec PyProof.Rows L2
theorem cause_able (c : Cause) : D.eqv c.d (.tup [.str "able"]) = decide (c = .able) := by
  cases c with
  | able => rfl
  | unable => rfl
  | timer => rfl
  | some k => rw [Bool.eq_iff_iff]; simp [Cause.d, Cause.items, eqv_nb, D.nb, D.nb.nbs]
  | each k => rw [Bool.eq_iff_iff]; simp [Cause.d, Cause.items, eqv_nb, D.nb, D.nb.nbs]
/-- a house's state is one of the role's -/
def InRange (p : Proto) (h : Nat) (x : House) : Prop := ∀ s, x.state = some s → s < (roleAt p h).states.length
theorem rulesAt_some {p : Proto} {h s : Nat} {x : House} (e : x.state = some s) {st : State} (g : (roleAt p h).states[s]? = some st) : rulesAt p h x = st.rules := by
  unfold rulesAt
  rw [e]
  show (((roleAt p h).states[s]?).map State.rules).getD [] = _
  rw [g]
  rfl
theorem finAt_some {ρ : Role} {s : Nat} {st : State} (g : ρ.states[s]? = some st) : finAt ρ s = st.fin := by
  unfold finAt
  rw [g]
  rfl
def ruleD : Option Rule → D
  | none => .non
  | some r => r.d
theorem said_below (o : Option Nat) (l : Nat) : (!decide (onI o = -1) && decide (onI o < (l : Int))) = saidBelow o l := by
  cases o with
  | none => rfl
  | some q =>
    show (!decide ((q : Int) = -1) && decide ((q : Int) < (l : Int))) = decide (q < l)
    rw [decide_eq_false (by omega), lz]
    rfl
theorem cutD_lo (l : List D) (k : Nat) : cutD l none (some (k : Int)) = l.take k := by
  unfold cutD
  rw [HT.sIx_nat]
  show (l.drop 0).take (min k l.length - 0) = l.take k
  rw [List.drop_zero, Nat.sub_zero]
  rcases Nat.le_total k l.length with h | h
  · rw [Nat.min_eq_left h]
  · rw [Nat.min_eq_right h, List.take_of_length_le (Nat.le_refl _), List.take_of_length_le h]
theorem cutD_hi (l : List D) (k : Nat) : cutD l (some (k : Int)) none = l.drop k := by
  unfold cutD
  rw [HT.sIx_nat]
  show (l.drop (min k l.length)).take (l.length - min k l.length) = l.drop k
  rcases Nat.le_total k l.length with h | h
  · rw [Nat.min_eq_left h, List.take_of_length_le (by rw [List.length_drop]; omega)]
  · rw [Nat.min_eq_right h, List.drop_of_length_le (Nat.le_refl _), List.drop_of_length_le h]
    simp
section
variable {P : Program} {w : World} {K : PySem.W.Frag} {mg : Str → Option Value} {base : Heap}
theorem w_first_house (T : Top K mg) : Fn P w K mg base 2 "first_house" ["role"] (fun1 fun ds d => ∃ ρ : Role, ds = [ρ.d] ∧ 1 ≤ ρ.states.length ∧ d = (firstHouse ρ).d) := by
  obtain ⟨f, fd, hm, F⟩ := T.e54
  have S : FnScope ["role"] ["role"] (defScope s54) := ⟨rfl, rfl, rfl, by decide +kernel, rfl, by decide +kernel, by decide +kernel⟩
  refine fn_mk (k := 1) F hm S (F.bindsN (ps := ["role"]) fun _ _ _ _ _ _ us hl => match us, hl with | [_], _ => rfl) (fun M ds P r => by obtain ⟨_, ⟨ρ, rfl, h, rfl⟩, rfl⟩ := r; rfl) ?_
  rintro cdv A fr s M _ _ H0 E su ⟨_, ⟨ρ, rfl, h, rfl⟩, rfl⟩ rt nx
  have nd := S.nd
  refine ST.norm (ds' := [_]) rfl ?_
  obtain ⟨st, hst⟩ : ∃ st, ρ.states[0]? = some st := ⟨ρ.states[0], List.getElem?_eq_getElem h⟩
  have f1 : finAt ρ 0 = st.fin := finAt_some hst
  refine st_retE (be_tup (bae be_int (bae (be_tup ba_nil) (bae (be_tup ba_nil) (bae be_int (bae be_bl (bae (be_gInt T.g_NOT_SAID) (bae be_bl (bae (be_call (w_told_more T) (su.mono (by decide)) (bae (be_tup ba_nil) (bae (be_ix (be_ix (be_ix (be_var 0) be_int) be_int (at_map (f := State.d) hst)) be_int) ba_nil)) (⟨[], st.fin, rfl, by decide, rfl⟩)) ba_nil))))))))) (rt _ ?_)
  unfold firstHouse
  rw [f1]
  rfl
theorem w_first_of (T : Top K mg) : Fn P w K mg base 3 "first_of" ["protocol", "n"] (fun1 fun ds d => ∃ (p : Proto) (n : Nat), ds = [p.d, .int n] ∧ n ≤ 4 ∧ p.Ok ∧ d = (firstOf p n).d) := by
  obtain ⟨f, fd, hm, F⟩ := T.e55
  have S : FnScope ["protocol", "n", "h"] ["protocol", "n"] (defScope s55) := ⟨rfl, rfl, rfl, by decide +kernel, rfl, by decide +kernel, by decide +kernel⟩
  refine fn_mk (k := 2) F hm S (F.bindsN (ps := ["protocol", "n"]) fun _ _ _ _ _ _ us hl => match us, hl with | [_, _], _ => rfl) (fun M ds P r => by obtain ⟨_, ⟨p, n, rfl, hn, hp, rfl⟩, rfl⟩ := r; rfl) ?_
  rintro cdv A fr s M _ _ H0 E su ⟨_, ⟨p, n, rfl, hn, hp, rfl⟩, rfl⟩ rt nx
  have nd := S.nd
  refine ST.norm (ds' := [_, _, _]) rfl ?_
  have pos : ∀ y : Nat, 1 ≤ (roleAt p y).states.length := fun y => by
    unfold roleAt
    split
    · exact hp.leader.pos
    · exact hp.member.pos
  refine st_retE (be_tup (bae (be_tupleOf T.f_tuple (be_map (φ := natD) (ys := List.range n) (f := fun h => (firstHouse (roleAt p h)).d) (is := [2]) (g := _) (own := [("h", 2)]) ⟨rfl, nd, blkOk_by (N := ["protocol", "n", "h"]) (sc := defScope s55) (own := [("h", 2)]) (by decide +kernel), by decide, fun y hy X' hX => by have su := hX.sur su; obtain ⟨_, _, _, _, _, rfl⟩ := hX.ex; exact bg_name (i := 2) nd, fun y hy X' hX => by have su := hX.sur su; obtain ⟨_, _, _, _, _, rfl⟩ := hX.ex; exact bts_nil, fun y hy hk X' hX => by have su := hX.sur su; obtain ⟨_, _, _, _, _, rfl⟩ := hX.ex; exact be_call (w_first_house T) (su.mono (by decide)) (bae (be_call (w_role_at T) (su.mono (by decide)) (bae (be_var 0) (bae (be_var 2) ba_nil)) (⟨_, _, rfl, rfl⟩)) ba_nil) (⟨_, rfl, pos y, rfl⟩), fun y d hy hk e => by subst e; exact Im.k⟩ (bie_rng1 T.f_range (be_var 1)) (by rw [List.length_range]; exact Nat.le_trans hn (by decide)))) (bae (be_tup ba_nil) ba_nil))) (rt _ ?_)
  unfold firstOf Standing.d
  rw [List.map_map]
  rfl
theorem w_is_there (T : Top K mg) : Fn P w K mg base 1 "is_there" ["cause", "h", "n", "house"] (fun1 fun ds d => ∃ (c : Cause) (h n : Nat) (x : House), ds = [c.d, .int h, .int n, x.d] ∧ n ≤ 4 ∧ d = .bl (isThere c h n x)) := by
  obtain ⟨f, fd, hm, F⟩ := T.e56
  have S : FnScope ["cause", "h", "n", "house", "heard", "other"] ["cause", "h", "n", "house"] (defScope s56) := ⟨rfl, rfl, rfl, by decide +kernel, rfl, by decide +kernel, by decide +kernel⟩
  refine fn_mk (k := 0) F hm S (F.bindsN (ps := ["cause", "h", "n", "house"]) fun _ _ _ _ _ _ us hl => match us, hl with | [_, _, _, _], _ => rfl) (fun M ds P r => by obtain ⟨_, ⟨c, h, n, x, rfl, hn, rfl⟩, rfl⟩ := r; rfl) ?_
  rintro cdv A fr s M _ _ H0 E su ⟨_, ⟨c, h, n, x, rfl, hn, rfl⟩, rfl⟩ rt nx
  have nd := S.nd
  refine ST.norm (ds' := [_, _, _, _, _, _]) rfl ?_
  cases c with
  | able => exact st_take (BT.is (tq_eqS su.u64 (be_ix (be_var 0) be_int) be_str) (by decide +kernel)) (st_retE (be_ix (be_var 3) be_int) (rt _ rfl))
  | unable => exact st_skip (BT.is (tq_eqS su.u64 (be_ix (be_var 0) be_int) be_str) (by decide +kernel)) (st_take (BT.is (tq_eqI su.u64 (be_len T.f_len (be_var 0)) be_int) rfl) (st_retE be_bl (rt _ rfl)))
  | timer => exact st_skip (BT.is (tq_eqS su.u64 (be_ix (be_var 0) be_int) be_str) (by decide +kernel)) (st_take (BT.is (tq_eqI su.u64 (be_len T.f_len (be_var 0)) be_int) rfl) (st_retE be_bl (rt _ rfl)))
  | each k =>
    exact st_skip (BT.is (tq_eqS su.u64 (be_ix (be_var 0) be_int) be_str) (by decide +kernel)) (st_skip (BT.is (tq_eqI su.u64 (be_len T.f_len (be_var 0)) be_int) rfl) (st_setL (i := 4)  (φ := natD) (ys := List.range n) (f := fun o => .bl (decide ((o, k) ∈ x.heard))) (keep := fun o => !decide (o = h)) (is := [5]) (g := _) (own := [("other", 5)]) ⟨rfl, nd, blkOk_by (N := ["cause", "h", "n", "house", "heard", "other"]) (sc := defScope s56) (own := [("other", 5)]) (by decide +kernel), by decide, fun y hy X' hX => by have su := hX.sur su; obtain ⟨_, _, _, _, _, rfl⟩ := hX.ex; exact bg_name (i := 5) nd, fun y hy X' hX => by have su := hX.sur su; obtain ⟨_, _, _, _, _, rfl⟩ := hX.ex; exact bts_one (BT.is (tq_neI su.u64 (be_var 5) (be_var 1)) (nz _ _)), fun y hy hk X' hX => by have su := hX.sur su; obtain ⟨_, _, _, _, _, rfl⟩ := hX.ex; exact bq_inK (t := (y, k)) kdH.inj kdH.nb su.u64 (be_tup (bae (be_var 5) (bae (be_ix (be_var 0) be_int) ba_nil))) (be_ix (be_var 3) be_int), fun y d hy hk e => by subst e; exact Im.k⟩ (bie_rng1 T.f_range (be_var 2)) (by rw [List.length_range]; exact Nat.le_trans hn (by decide)) (st_retE (be_ifT (BT.is (tq_eqS su.u64 (be_ix (be_var 0) be_int) be_str) (by decide +kernel)) (be_allM rfl T.f_all (be_var 4))) (rt _ rfl))))
  | some k =>
    exact st_skip (BT.is (tq_eqS su.u64 (be_ix (be_var 0) be_int) be_str) (by decide +kernel)) (st_skip (BT.is (tq_eqI su.u64 (be_len T.f_len (be_var 0)) be_int) rfl) (st_setL (i := 4)  (φ := natD) (ys := List.range n) (f := fun o => .bl (decide ((o, k) ∈ x.heard))) (keep := fun o => !decide (o = h)) (is := [5]) (g := _) (own := [("other", 5)]) ⟨rfl, nd, blkOk_by (N := ["cause", "h", "n", "house", "heard", "other"]) (sc := defScope s56) (own := [("other", 5)]) (by decide +kernel), by decide, fun y hy X' hX => by have su := hX.sur su; obtain ⟨_, _, _, _, _, rfl⟩ := hX.ex; exact bg_name (i := 5) nd, fun y hy X' hX => by have su := hX.sur su; obtain ⟨_, _, _, _, _, rfl⟩ := hX.ex; exact bts_one (BT.is (tq_neI su.u64 (be_var 5) (be_var 1)) (nz _ _)), fun y hy hk X' hX => by have su := hX.sur su; obtain ⟨_, _, _, _, _, rfl⟩ := hX.ex; exact bq_inK (t := (y, k)) kdH.inj kdH.nb su.u64 (be_tup (bae (be_var 5) (bae (be_ix (be_var 0) be_int) ba_nil))) (be_ix (be_var 3) be_int), fun y d hy hk e => by subst e; exact Im.k⟩ (bie_rng1 T.f_range (be_var 2)) (by rw [List.length_range]; exact Nat.le_trans hn (by decide)) (st_retE (be_ifF (BT.is (tq_eqS su.u64 (be_ix (be_var 0) be_int) be_str) (by decide +kernel)) (be_anyM rfl T.f_any (be_var 4))) (rt _ rfl))))
theorem w_rule_at (T : Top K mg) : Fn P w K mg base 2 "rule_at" ["protocol", "h", "house", "r"] (fun1 fun ds d => ∃ (p : Proto) (h : Nat) (x : House) (r : Nat), ds = [p.d, .int h, x.d, .int r] ∧ InRange p h x ∧ d = ruleD (ruleAt p h x r)) := by
  obtain ⟨f, fd, hm, F⟩ := T.e57
  have S : FnScope ["protocol", "h", "house", "r", "rules"] ["protocol", "h", "house", "r"] (defScope s57) := ⟨rfl, rfl, rfl, by decide +kernel, rfl, by decide +kernel, by decide +kernel⟩
  refine fn_mk (k := 1) F hm S (F.bindsN (ps := ["protocol", "h", "house", "r"]) fun _ _ _ _ _ _ us hl => match us, hl with | [_, _, _, _], _ => rfl) (fun M ds P r => by obtain ⟨_, ⟨p, h, x, r, rfl, hr, rfl⟩, rfl⟩ := r; rfl) ?_
  rintro cdv A fr s M _ _ H0 E su ⟨_, ⟨p, h, x, r, rfl, hr, rfl⟩, rfl⟩ rt nx
  have nd := S.nd
  refine ST.norm (ds' := [_, _, _, _, _]) rfl ?_
  obtain ⟨sx, heard, log, forced, able, said, whole, told⟩ := x
  cases sx with
  | none => exact st_take (BT.is (tq_eq su.u64 (be_ix (be_var 2) be_int) (be_gInt T.g_DOWN)) rfl) (st_retE be_non (rt _ rfl))
  | some s =>
    have hs := hr s rfl
    obtain ⟨st, hst⟩ : ∃ st, (roleAt p h).states[s]? = some st := ⟨_, List.getElem?_eq_getElem hs⟩
    have ra := rulesAt_some (p := p) (h := h) (x := ⟨some s, heard, log, forced, able, said, whole, told⟩) rfl hst
    refine st_skip (BT.is (tq_eq su.u64 (be_ix (be_var 2) be_int) (be_gInt T.g_DOWN)) ((onD_eqv (some s)).trans rfl)) ?_
    refine st_set (i := 4) (hN := nd) (d := .tup (st.rules.map Rule.d)) (be_ix (be_ix (be_ix (be_call (w_role_at T) (su.mono (by decide)) (bae (be_var 0) (bae (be_var 1) ba_nil)) (⟨_, _, rfl, rfl⟩)) be_int) (be_ix (be_var 2) be_int) (at_map (f := State.d) hst)) be_int) ?_
    refine ST.norm (ds' := [_, _, _, _, _]) rfl ?_
    by_cases hr2 : r < st.rules.length
    · have hru : st.rules[r]? = some st.rules[r] := List.getElem?_eq_getElem hr2
      exact st_retE (be_ifT (BT.is (bt_lt (be_var 3) (be_len T.f_len (be_var 4))) (by simp [hr2])) (be_ix (be_var 4) (be_var 3) (at_map (f := Rule.d) hru))) (rt _ (by unfold ruleAt; rw [ra, hru]; rfl))
    · have hru : st.rules[r]? = none := List.getElem?_eq_none (by omega)
      exact st_retE (be_ifF (BT.is (bt_lt (be_var 3) (be_len T.f_len (be_var 4))) (by simp; omega)) be_non) (rt _ (by unfold ruleAt; rw [ra, hru]; rfl))
theorem w_ruled (T : Top K mg) : Fn P w K mg base 2 "ruled" ["protocol", "h", "house", "rule"] (fun1 fun ds d => ∃ (p : Proto) (h : Nat) (x : House) (r : Rule), ds = [p.d, .int h, x.d, r.d] ∧ r.goes < (roleAt p h).states.length ∧ x.log.length ≤ 1000 ∧ x.told.length ≤ 1000 ∧ d = (ruled p h x r).d) := by
  obtain ⟨f, fd, hm, F⟩ := T.e58
  have S : FnScope ["protocol", "h", "house", "rule", "state", "heard", "log", "forced", "able", "said", "whole", "told", "end"] ["protocol", "h", "house", "rule"] (defScope s58) := ⟨rfl, rfl, rfl, by decide +kernel, rfl, by decide +kernel, by decide +kernel⟩
  refine fn_mk (k := 1) F hm S (F.bindsN (ps := ["protocol", "h", "house", "rule"]) fun _ _ _ _ _ _ us hl => match us, hl with | [_, _, _, _], _ => rfl) (fun M ds P r => by obtain ⟨_, ⟨p, h, x, r, rfl, hg, hlog, htold, rfl⟩, rfl⟩ := r; rfl) ?_
  rintro cdv A fr s M _ _ H0 E su ⟨_, ⟨p, h, x, r, rfl, hg, hlog, htold, rfl⟩, rfl⟩ rt nx
  have nd := S.nd
  refine ST.norm (ds' := [_, _, _, _, _, _, _, _, _, _, _, _, _]) rfl ?_
  obtain ⟨st, hst⟩ : ∃ st, (roleAt p h).states[r.goes]? = some st := ⟨_, List.getElem?_eq_getElem hg⟩
  have sz : (x.log.map Wd.d).length + [Wd.d r.mark].length ≤ sizeLine := by rw [List.length_map]; exact Nat.le_trans (Nat.add_le_add_right hlog _) (by show 1000 + 1 ≤ sizeLine; decide)
  refine st_unpack (be_var 2) (bg_tup rfl (bgs_cons (bg_name (i := 4) nd) (bgs_cons (bg_name (i := 5) nd) (bgs_cons (bg_name (i := 6) nd) (bgs_cons (bg_name (i := 7) nd) (bgs_cons (bg_name (i := 8) nd) (bgs_cons (bg_name (i := 9) nd) (bgs_cons (bg_name (i := 10) nd) (bgs_cons (bg_name (i := 11) nd) (bgs_nil))))))))) 8) ?_
  refine ST.norm (ds' := [_, _, _, _, _, _, _, _, _, _, _, _, _]) rfl ?_
  refine st_ifSet (i := 9) (c := decide (r.cause = .able) && decide (x.said = none)) (d := .int x.log.length) (d0 := onD x.said) (BT.is (BW.bt (bw_and (tq_eq su.u64 (be_ix (be_var 3) be_int) (be_tup (bae be_str ba_nil))) fun _ => bw_and1 (tq_eq su.u64 (be_var 9) (be_gInt T.g_NOT_SAID)))) (by rw [cause_able, onD_eqv])) (fun _ => BP.is (be_len T.f_len (be_var 6)) (by rw [List.length_map])) rfl ?_ nd
  refine ST.norm (ds' := [_, _, _, _, _, _, _, _, _, _, _, _, _]) rfl ?_
  refine st_ifSet (i := 6) (c := !decide (r.mark.s = ("" : Str)) && !decide (r.mark ∈ x.log)) (d := .tup ((x.log ++ [r.mark]).map Wd.d)) (d0 := .tup (x.log.map Wd.d)) (BW.bt (bw_and (tq_neS su.u64 (be_ix (be_var 3) be_int) be_str) fun _ => bw_and1 (tq_ninK kdW.inj kdW.nb su.u64 (be_ix (be_var 3) be_int) (be_var 6)))) (fun _ => BP.is (be_catT (be_var 6) (be_tup (bae (be_ix (be_var 3) be_int) ba_nil)) (by first | decide | assumption | (simp [PySem.sizeLine]; done) | omega)) (by rw [List.map_append]; rfl)) rfl ?_ nd
  refine ST.norm (ds' := [_, _, _, _, _, _, _, _, _, _, _, _, _]) rfl ?_
  have el : (if (!decide (r.mark.s = ("" : Str)) && !decide (r.mark ∈ x.log)) = true then D.tup ((x.log ++ [r.mark]).map Wd.d) else D.tup (x.log.map Wd.d)) = .tup ((ruledLog x r).map Wd.d) := by
    unfold ruledLog
    by_cases c1 : r.mark.s = ("" : Str) <;> by_cases c2 : r.mark ∈ x.log <;> simp [c1, c2]
  rw [el]
  refine st_ifSet (i := 7) (c := r.forced) (d := .int (ruledLog x r).length) (d0 := .int x.forced) (bte_val (be_ix (be_var 3) be_int)) (fun _ => BP.is (be_len T.f_len (be_var 6)) (by rw [List.length_map])) rfl ?_ nd
  refine ST.norm (ds' := [_, _, _, _, _, _, _, _, _, _, _, _, _]) rfl ?_
  refine st_set (i := 12) (hN := nd) (d := .str st.fin.s) (be_ix (be_ix (be_ix (be_call (w_role_at T) (su.mono (by decide)) (bae (be_var 0) (bae (be_var 1) ba_nil)) (⟨_, _, rfl, rfl⟩)) be_int) (be_ix (be_var 3) be_int) (at_map (f := State.d) hst)) be_int) ?_
  refine ST.norm (ds' := [_, _, _, _, _, _, _, _, _, _, _, _, _]) rfl ?_
  refine st_retE (be_tup (bae (be_ix (be_var 3) be_int) (bae (be_var 5) (bae (be_var 6) (bae (be_var 7) (bae (be_var 8) (bae (be_var 9) (bae (be_var 10) (bae (be_call (w_told_more T) (su.mono (by decide)) (bae (be_var 11) (bae (be_var 12) ba_nil)) (⟨x.told, st.fin, rfl, htold, rfl⟩)) ba_nil))))))))) (rt _ ?_)
  unfold ruled
  rw [finAt_some hst]
  have e1 : (if (decide (r.cause = .able) && decide (x.said = none)) = true then D.int x.log.length else onD x.said) = onD (if r.cause = .able ∧ x.said = none then some x.log.length else x.said) := by
    by_cases c1 : r.cause = .able <;> by_cases c2 : x.said = none <;> simp [c1, c2, onD, onI]
  have e2 : (if r.forced = true then D.int ((ruledLog x r).length : Int) else D.int (x.forced : Int)) = D.int ((if r.forced then (ruledLog x r).length else x.forced : Nat) : Int) := by
    cases r.forced <;> rfl
  rw [e1, e2]
  rfl
theorem w_letters_by (T : Top K mg) : Fn P w K mg base 2 "letters_by" ["h", "n", "rule"] (fun1 fun ds d => ∃ (h n : Nat) (r : Rule), ds = [.int h, .int n, r.d] ∧ n ≤ 4 ∧ r.sends.length ≤ 4 ∧ d = .lst ((lettersBy h n r).map Letter.d)) := by
  obtain ⟨f, fd, hm, F⟩ := T.e59
  have S : FnScope ["h", "n", "rule", "kind", "receiver", "other"] ["h", "n", "rule"] (defScope s59) := ⟨rfl, rfl, rfl, by decide +kernel, rfl, by decide +kernel, by decide +kernel⟩
  refine fn_mk (k := 1) F hm S (F.bindsN (ps := ["h", "n", "rule"]) fun _ _ _ _ _ _ us hl => match us, hl with | [_, _, _], _ => rfl) (fun M ds P r => by obtain ⟨_, ⟨h, n, r, rfl, hn, hs, rfl⟩, rfl⟩ := r; rfl) ?_
  rintro cdv A fr s M _ _ H0 E su ⟨_, ⟨h, n, r, rfl, hn, hs, rfl⟩, rfl⟩ rt nx
  have nd := S.nd
  refine ST.norm (ds' := [_, _, _, _, _, _]) rfl ?_
  have tl : ∀ y : Sd, (housesTold h n y.2).length ≤ 4 := fun y => by
    unfold housesTold
    split
    · exact Nat.le_trans (List.length_filter_le _ _) (by decide)
    · refine Nat.le_trans (List.length_filter_le _ _) ?_
      rw [List.length_range']
      omega
  have hz : (r.sends.flatMap fun y => (housesTold h n y.2).map fun o => D.tup [.int h, .int (o : Nat), .str y.1.s]).length ≤ sizeLine := by
    rw [List.length_flatMap]
    have := sum_le (fun y : Sd => ((housesTold h n y.2).map fun o => D.tup [.int h, .int (o : Nat), .str y.1.s]).length) 4 r.sends fun y _ => by rw [List.length_map]; exact tl y
    have z : (16 : Nat) ≤ sizeLine := by decide
    omega
  refine st_retE (be_lc2 (φ := sdD) (ys := r.sends) (ψ := natD) (zs := fun y => housesTold h n y.2) (f := fun y o => .tup [.int h, .int (o : Nat), .str y.1.s]) (is := [3, 4]) (is1 := [5]) (g := _) (g1 := _) (own := [("kind", 3), ("receiver", 4), ("other", 5)]) (vs1 := [5]) ⟨rfl, nd, blkOk_by (N := ["h", "n", "rule", "kind", "receiver", "other"]) (sc := defScope s59) (own := [("kind", 3), ("receiver", 4), ("other", 5)]) (by decide +kernel), by decide, by decide, by decide, fun y hy X' hX M' => by have su := hX.sur su; obtain ⟨_, _, _, _, _, rfl⟩ := hX.ex; exact bg_tup rfl (bgs_cons (bg_name (i := 3) nd) (bgs_cons (bg_name (i := 4) nd) (bgs_nil))) 2, fun y hy X' hX M' => by have su := hX.sur su; obtain ⟨_, _, _, _, _, rfl⟩ := hX.ex; exact bie_lst (be_call (w_houses_told T) (su.mono (by decide)) (bae (be_var 0) (bae (be_var 1) (bae (be_var 4) ba_nil))) (⟨_, _, _, rfl, hn, rfl⟩)), fun y hy z hz X' hX M' => by have su := hX.sur su; obtain ⟨_, _, _, _, _, rfl⟩ := hX.ex; exact bg_name (i := 5) nd, fun y hy z hz X' hX M' => by have su := hX.sur su; obtain ⟨_, _, _, _, _, rfl⟩ := hX.ex; exact be_tup (bae (be_var 0) (bae (be_var 5) (bae (be_var 3) ba_nil))), fun y hy => Im.k, fun y hy z hz => Im.k, hz⟩ (bie_tup (be_ix (be_var 2) be_int))) (rt _ ?_)
  unfold lettersBy
  rw [List.map_flatMap]
  congr 2
  funext y
  rw [List.map_map]
  rfl
theorem w_fallen_house (T : Top K mg) : Fn P w K mg base 1 "fallen_house" ["house", "left"] (fun1 fun ds d => ∃ (x : House) (l : Nat), ds = [x.d, .int l] ∧ d = (fallen x l).d) := by
  obtain ⟨f, fd, hm, F⟩ := T.e60
  have S : FnScope ["house", "left", "state", "heard", "log", "forced", "able", "said", "whole", "told"] ["house", "left"] (defScope s60) := ⟨rfl, rfl, rfl, by decide +kernel, rfl, by decide +kernel, by decide +kernel⟩
  refine fn_mk (k := 0) F hm S (F.bindsN (ps := ["house", "left"]) fun _ _ _ _ _ _ us hl => match us, hl with | [_, _], _ => rfl) (fun M ds P r => by obtain ⟨_, ⟨x, l, rfl, rfl⟩, rfl⟩ := r; rfl) ?_
  rintro cdv A fr s M _ _ H0 E su ⟨_, ⟨x, l, rfl, rfl⟩, rfl⟩ rt nx
  have nd := S.nd
  refine ST.norm (ds' := [_, _, _, _, _, _, _, _, _, _]) rfl ?_
  obtain ⟨sx, heard, log, forced, able, said, whole, told⟩ := x
  have cut : cutD (log.map Wd.d) none (some (l : Int)) = (log.take l).map Wd.d := by
    rw [cutD_lo, List.map_take]
  refine st_unpack (be_var 0) (bg_tup rfl (bgs_cons (bg_name (i := 2) nd) (bgs_cons (bg_name (i := 3) nd) (bgs_cons (bg_name (i := 4) nd) (bgs_cons (bg_name (i := 5) nd) (bgs_cons (bg_name (i := 6) nd) (bgs_cons (bg_name (i := 7) nd) (bgs_cons (bg_name (i := 8) nd) (bgs_cons (bg_name (i := 9) nd) (bgs_nil))))))))) 8) ?_
  refine ST.norm (ds' := [_, _, _, _, _, _, _, _, _, _]) rfl ?_
  refine st_retE (be_tup (bae (be_gInt T.g_DOWN) (bae (be_tup ba_nil) (bae (be_slT (be_var 4) bo_none (bo_some (be_var 1))) (bae (be_var 1) (bae be_bl (bae (be_var 7) (bae (be_and (be_var 8) fun _ => be_and (bq_neI su.u64 (be_var 7) (be_gInt T.g_NOT_SAID)) fun _ => be_one (be_gt (be_var 1) (be_var 7))) (bae (be_var 9) ba_nil))))))))) (rt _ ?_)
  have e := said_below said l
  rw [cut]
  show D.tup [_, _, _, _, _, _, .bl (whole && (!decide (onI said = -1) && decide (onI said < (l : Int)))), _] = _
  rw [e]
  rfl
theorem w_upped (T : Top K mg) : Fn P w K mg base 2 "upped" ["protocol", "h", "house"] (fun1 fun ds d => ∃ (p : Proto) (h : Nat) (x : House), ds = [p.d, .int h, x.d] ∧ (roleAt p h).ups.length ≤ sizeLine ∧ (∃ q ∈ (roleAt p h).ups, q.1 = lastOf x.log) ∧ stateUp (roleAt p h) x.log < (roleAt p h).states.length ∧ x.told.length ≤ 1000 ∧ d = (upped p h x).d) := by
  obtain ⟨f, fd, hm, F⟩ := T.e61
  have S : FnScope ["protocol", "h", "house", "role", "state"] ["protocol", "h", "house"] (defScope s61) := ⟨rfl, rfl, rfl, by decide +kernel, rfl, by decide +kernel, by decide +kernel⟩
  refine fn_mk (k := 1) F hm S (F.bindsN (ps := ["protocol", "h", "house"]) fun _ _ _ _ _ _ us hl => match us, hl with | [_, _, _], _ => rfl) (fun M ds P r => by obtain ⟨_, ⟨p, h, x, rfl, hz, hq, hlt, htold, rfl⟩, rfl⟩ := r; rfl) ?_
  rintro cdv A fr s M _ _ H0 E su ⟨_, ⟨p, h, x, rfl, hz, hq, hlt, htold, rfl⟩, rfl⟩ rt nx
  have nd := S.nd
  refine ST.norm (ds' := [_, _, _, _, _]) rfl ?_
  obtain ⟨st, hst⟩ : ∃ st, (roleAt p h).states[stateUp (roleAt p h) x.log]? = some st := ⟨_, List.getElem?_eq_getElem hlt⟩
  refine st_set (i := 3) (hN := nd) (d := (roleAt p h).d) (be_call (w_role_at T) (su.mono (by decide)) (bae (be_var 0) (bae (be_var 1) ba_nil)) (⟨_, _, rfl, rfl⟩)) ?_
  refine ST.norm (ds' := [_, _, _, _, _]) rfl ?_
  refine st_set (i := 4) (hN := nd) (be_call (w_state_up T) (su.mono (by decide)) (bae (be_var 3) (bae (be_ix (be_var 2) be_int) ba_nil)) (⟨_, _, rfl, hz, hq, rfl⟩)) ?_
  refine ST.norm (ds' := [_, _, _, _, _]) rfl ?_
  refine st_retE (be_catT (be_catT (be_tup (bae (be_var 4) ba_nil)) (BP.is (d' := .tup [.tup (x.heard.map hdD), .tup (x.log.map Wd.d), .int x.forced, .bl x.able, onD x.said, .bl x.whole]) (be_slT (be_var 2) (bo_some be_int) (bo_some be_int)) rfl) (by first | decide | assumption | (simp [PySem.sizeLine]; done) | omega)) (be_tup (bae (be_call (w_told_more T) (su.mono (by decide)) (bae (be_ix (be_var 2) be_int) (bae (be_ix (be_ix (be_ix (be_var 3) be_int) (be_var 4) (at_map (f := State.d) hst)) be_int) ba_nil)) (⟨x.told, st.fin, rfl, htold, rfl⟩)) ba_nil)) (by first | decide | assumption | (simp [PySem.sizeLine]; done) | omega)) (rt _ ?_)
  unfold upped
  rw [finAt_some hst]
  rfl
theorem w_with_house (T : Top K mg) : Fn P w K mg base 1 "with_house" ["standing", "h", "house", "letters"] (fun1 fun ds d => ∃ (S : Standing) (h : Nat) (x : House) (ls : List Letter), ds = [S.d, .int h, x.d, .lst (ls.map Letter.d)] ∧ S.sent.length ≤ 1000 ∧ ls.length ≤ 1000 ∧ S.houses.length ≤ 4 ∧ d = (withHouse S h x ls).d) := by
  obtain ⟨f, fd, hm, F⟩ := T.e62
  have S : FnScope ["standing", "h", "house", "letters", "houses", "sent", "fresh", "letter"] ["standing", "h", "house", "letters"] (defScope s62) := ⟨rfl, rfl, rfl, by decide +kernel, rfl, by decide +kernel, by decide +kernel⟩
  refine fn_mk (k := 0) F hm S (F.bindsN (ps := ["standing", "h", "house", "letters"]) fun _ _ _ _ _ _ us hl => match us, hl with | [_, _, _, _], _ => rfl) (fun M ds P r => by obtain ⟨_, ⟨S0, h, x, ls, rfl, hs, hl, hh, rfl⟩, rfl⟩ := r; rfl) ?_
  rintro cdv A fr s M _ _ H0 E su ⟨_, ⟨S0, h, x, ls, rfl, hs, hl, hh, rfl⟩, rfl⟩ rt nx
  have nd := S.nd
  refine ST.norm (ds' := [_, _, _, _, _, _, _, _]) rfl ?_
  have c1 : (1000 : Nat) ≤ sizeLine := by decide
  have c2 : 1000 + 1000 ≤ sizeLine := by decide
  have fl : (ls.filter fun l => !decide (l ∈ S0.sent)).length ≤ 1000 := Nat.le_trans (List.length_filter_le _ _) hl
  refine st_unpack (be_var 0) (bg_tup rfl (bgs_cons (bg_name (i := 4) nd) (bgs_cons (bg_name (i := 5) nd) (bgs_nil))) 2) ?_
  refine ST.norm (ds' := [_, _, _, _, _, _, _, _]) rfl ?_
  refine st_setL (i := 6)  (φ := Letter.d) (ys := ls) (f := Letter.d) (keep := fun l => !decide (l ∈ S0.sent)) (is := [7]) (g := _) (own := [("letter", 7)]) ⟨rfl, nd, blkOk_by (N := ["standing", "h", "house", "letters", "houses", "sent", "fresh", "letter"]) (sc := defScope s62) (own := [("letter", 7)]) (by decide +kernel), by decide, fun y hy X' hX => by have su := hX.sur su; obtain ⟨_, _, _, _, _, rfl⟩ := hX.ex; exact bg_name (i := 7) nd, fun y hy X' hX => by have su := hX.sur su; obtain ⟨_, _, _, _, _, rfl⟩ := hX.ex; exact bts_one (tq_ninK kdL.inj kdL.nb su.u64 (be_var 7) (be_var 5)), fun y hy hk X' hX => by have su := hX.sur su; obtain ⟨_, _, _, _, _, rfl⟩ := hX.ex; exact be_var 7, fun y d hy hk e => by subst e; exact Im.k⟩ (bie_lst (be_var 3)) (Nat.le_trans hl c1) ?_
  refine ST.norm (ds' := [_, _, _, _, _, _, _, _]) rfl ?_
  have sz : (S0.sent.map Letter.d).length + ((ls.filter fun l => !decide (l ∈ S0.sent)).map Letter.d).length ≤ sizeLine := by rw [List.length_map, List.length_map]; omega
  have ek : (dd (((S0.sent ++ ls.filter fun l => !decide (l ∈ S0.sent)).filter fun _ => true).map letK)).map rowD = (dd (S0.sent ++ ls.filter fun l => !decide (l ∈ S0.sent))).map Letter.d := by
    rw [List.filter_eq_self.mpr fun _ _ => rfl, dd_map letK_inj, List.map_map]
    rfl
  have so : Sortd ((dd (((S0.sent ++ ls.filter fun l => !decide (l ∈ S0.sent)).filter fun _ => true).map letK)).map rowD) := by
    rw [ek]
    exact kdL.sortd _
  have ne : (!D.eqv (.lst ((ls.filter fun l => !decide (l ∈ S0.sent)).map Letter.d)) (.lst [])) = !decide ((ls.filter fun l => !decide (l ∈ S0.sent)) = []) := by
    rw [eqv_nilL]
    cases ls.filter fun l => !decide (l ∈ S0.sent) <;> simp
  refine st_ifSet (i := 5) (d := .tup ((srt Letter.d (dd (S0.sent ++ ls.filter fun l => !decide (l ∈ S0.sent)))).map Letter.d)) (d0 := .tup (S0.sent.map Letter.d)) (BT.is (tq_ne su.u64 (be_var 6) (be_lst ba_nil)) ne) (fun _ => BP.is (be_tupleOf T.f_tuple (be_sortedDT su.u64 rfl T.f_sorted (bdt_dc (φ := Letter.d) (ys := S0.sent ++ ls.filter fun l => !decide (l ∈ S0.sent)) (f := letK) (keep := fun _ => true) (is := [7]) (g := _) (own := [("letter", 7)]) ⟨rfl, nd, blkOk_by (N := ["standing", "h", "house", "letters", "houses", "sent", "fresh", "letter"]) (sc := defScope s62) (own := [("letter", 7)]) (by decide +kernel), by decide, fun y hy X' hX => by have su := hX.sur su; obtain ⟨_, _, _, _, _, rfl⟩ := hX.ex; exact bg_name (i := 7) nd, fun y hy X' hX => by have su := hX.sur su; obtain ⟨_, _, _, _, _, rfl⟩ := hX.ex; exact bts_nil, fun y hy hk X' hX => by have su := hX.sur su; obtain ⟨_, _, _, _, _, rfl⟩ := hX.ex; exact be_var 7, fun y d hy hk e => by subst e; rfl⟩ su.u64 (fun y hy X' hX => be_bl.imp fun _ _ => trivial) (BI.is (bie_lst (be_catL (be_listOf T.f_list (be_var 5)) (be_var 6) (by first | decide | assumption | (simp [PySem.sizeLine]; done) | omega))) ((List.map_append).symm)) (by rw [List.length_append]; omega)) so)) (by rw [ek, sortD_map])) rfl ?_ nd
  refine ST.norm (ds' := [_, _, _, _, _, _, _, _]) rfl ?_
  have sz1 : (cutD (S0.houses.map House.d) none (some (h : Int))).length + [x.d].length ≤ sizeLine := by
    rw [cutD_lo, List.length_take, List.length_map]
    show min h S0.houses.length + 1 ≤ sizeLine
    omega
  have sz2 : (cutD (S0.houses.map House.d) none (some (h : Int)) ++ [x.d]).length + (cutD (S0.houses.map House.d) (some ((h + 1 : Nat) : Int)) none).length ≤ sizeLine := by
    rw [cutD_lo, cutD_hi, List.length_append, List.length_take, List.length_map, List.length_drop, List.length_map]
    show min h S0.houses.length + 1 + (S0.houses.length - (h + 1)) ≤ sizeLine
    omega
  refine st_retE (be_tup (bae (be_catT (be_catT (be_slT (be_var 4) bo_none (bo_some (be_var 1))) (be_tup (bae (be_var 2) ba_nil)) (by first | decide | assumption | (simp [PySem.sizeLine]; done) | omega)) (be_slT (be_var 4) (bo_some (BP.is (d' := .int ((h + 1 : Nat) : Int)) (be_add (be_var 1) be_int) rfl)) bo_none) (by first | decide | assumption | (simp [PySem.sizeLine]; done) | omega)) (bae (be_var 5) ba_nil))) (rt _ ?_)
  rw [cutD_lo, cutD_hi]
  unfold withHouse Standing.d sentMore
  rw [List.map_append, List.map_append, List.map_take, List.map_drop]
  by_cases e : (ls.filter fun l => !decide (l ∈ S0.sent)) = []
  · simp [e]
  · simp [e]
end
end K23


-- text S2
set_option Elab.async false
set_option linter.all false
set_option maxRecDepth 100000
set_option maxHeartbeats 2000000
namespace K23
open PySem PySem.Spec PyProof.Rows L2
/-! ## 31. how large things grow -/
theorem nodup_bound {α : Type} [DecidableEq α] : ∀ {l m : List α}, l.Nodup → (∀ a ∈ l, a ∈ m) → l.length ≤ m.length
  | [], _, _, _ => Nat.zero_le _
  | x :: l, m, h, s => by
    have hx : x ∈ m := s x List.mem_cons_self
    have nd := List.nodup_cons.mp h
    have := nodup_bound (l := l) (m := m.erase x) nd.2 fun a ha => (List.mem_erase_of_ne (show a ≠ x from fun e => nd.1 (by rw [← e]; exact ha))).mpr (s a (List.mem_cons_of_mem _ ha))
    rw [List.length_erase_of_mem hx] at this
    have pos : 0 < m.length := List.length_pos_of_mem hx
    simp only [List.length_cons]
    omega
theorem mem_rulesOf {ρ : Role} {t : Nat × Nat × Rule} (h : t ∈ rulesOf ρ) : ∃ st ∈ ρ.states, t.2.2 ∈ st.rules := by
  unfold rulesOf at h
  obtain ⟨q, hq, h2⟩ := List.mem_flatMap.mp h
  obtain ⟨r, hr, e⟩ := List.mem_map.mp h2
  exact ⟨q.1, List.fst_mem_of_mem_zipIdx hq, by rw [← e]; exact List.fst_mem_of_mem_zipIdx hr⟩
theorem rulesOf_mem {ρ : Role} {st : State} {r : Rule} (h1 : st ∈ ρ.states) (h2 : r ∈ st.rules) : ∃ a b, (a, b, r) ∈ rulesOf ρ := by
  obtain ⟨i, hi⟩ := List.getElem?_of_mem h1
  obtain ⟨j, hj⟩ := List.getElem?_of_mem h2
  refine ⟨i, j, List.mem_flatMap.mpr ⟨(st, i), List.mem_zipIdx_iff_getElem?.mpr hi, List.mem_map.mpr ⟨(r, j), List.mem_zipIdx_iff_getElem?.mpr hj, rfl⟩⟩⟩
theorem Role.Ok.rule {b : Bool} {ρ : Role} (h : ρ.Ok b) {t : Nat × Nat × Rule} (ht : t ∈ rulesOf ρ) : t.2.2.Ok b ρ.states.length := by
  obtain ⟨st, h1, h2⟩ := mem_rulesOf ht
  exact (h.states st h1).rules _ h2
theorem w0_names : w0 ∉ NAMES := by decide +kernel
theorem marksIn_names {b : Bool} {ρ : Role} (h : ρ.Ok b) {m : Wd} (hm : m ∈ marksIn ρ) : m ∈ NAMES := by
  unfold marksIn at hm
  rw [srt_mem, dd_mem] at hm
  obtain ⟨t, ht, rfl⟩ := List.mem_map.mp hm
  obtain ⟨h1, h2⟩ := List.mem_filter.mp ht
  rcases (h.rule h1).mark with z | ⟨z, _⟩
  · exact z
  · rw [z] at h2
    exact absurd h2 (by decide +kernel)
theorem kindsOf_names {b : Bool} {ρ : Role} (h : ρ.Ok b) {m : Wd} (hm : m ∈ kindsOf ρ) : m ∈ NAMES := by
  unfold kindsOf at hm
  obtain ⟨t, ht, h2⟩ := List.mem_flatMap.mp hm
  rcases List.mem_append.mp h2 with z | z
  · exact (h.rule ht).cause m z
  · obtain ⟨s, hs, rfl⟩ := List.mem_map.mp z
    exact ((h.rule ht).sends s hs).1
theorem kindsIn_names {p : Proto} (h : p.Ok) {m : Wd} (hm : m ∈ kindsIn p) : m ∈ NAMES := by
  unfold kindsIn at hm
  rw [srt_mem, dd_mem] at hm
  rcases List.mem_append.mp hm with z | z
  · exact kindsOf_names h.leader z
  · exact kindsOf_names h.member z
theorem Proto.Ok.role {p : Proto} (h : p.Ok) (k : Nat) : ∃ b, (roleAt p k).Ok b := by
  unfold roleAt
  split
  · exact ⟨true, h.leader⟩
  · exact ⟨false, h.member⟩
theorem names15 : NAMES.length = 15 := by decide +kernel
theorem House.Ok.log15 {p : Proto} {n h : Nat} {x : House} (k : x.Ok p n h) (hp : p.Ok) : x.log.length ≤ 15 := by
  obtain ⟨b, hb⟩ := hp.role h
  rw [← names15]
  exact nodup_bound k.logNd fun a ha => marksIn_names hb (k.log a ha)
theorem House.Ok.told2 {p : Proto} {n h : Nat} {x : House} (k : x.Ok p n h) : x.told.length ≤ 2 :=
  nodup_bound (m := [wd "dropped", wd "kept"]) k.toldUp.nodup fun a ha => by
    rcases k.told a ha with z | z <;> rw [z] <;> simp
def pairs {α β : Type} (l : List α) (m : List β) : List (α × β) := l.flatMap fun a => m.map fun b => (a, b)
theorem mem_pairs {α β : Type} {l : List α} {m : List β} {a : α} {b : β} (h : a ∈ l) (k : b ∈ m) : (a, b) ∈ pairs l m := List.mem_flatMap.mpr ⟨a, h, List.mem_map.mpr ⟨b, k, rfl⟩⟩
theorem pairs_len {α β : Type} (l : List α) (m : List β) : (pairs l m).length = l.length * m.length := by
  unfold pairs
  rw [List.length_flatMap]
  induction l with
  | nil => simp
  | cons a l ih => simp only [List.map_cons, List.sum_cons, List.length_map, List.length_cons, Nat.succ_mul] at *; omega
theorem House.Ok.heard60 {p : Proto} {n h : Nat} {x : House} (k : x.Ok p n h) (hp : p.Ok) (hn : n ≤ 4) : x.heard.length ≤ 60 := by
  have := nodup_bound (m := pairs (List.range 4) NAMES) k.heardUp.nodup fun a ha => mem_pairs (List.mem_range.mpr (by have := (k.heard a ha).1; omega)) (kindsIn_names hp (k.heard a ha).2.2)
  rw [pairs_len, names15] at this
  simpa using this
theorem Standing.Ok.sent240 {p : Proto} {n : Nat} {S : Standing} (k : S.Ok p n) (hp : p.Ok) (hn : n ≤ 4) : S.sent.length ≤ 240 := by
  have inj : (S.sent.map fun l => ((l.src, l.dst), l.kind)).Nodup := by
    refine List.Pairwise.map _ (fun a b h e => h ?_) k.sentUp.nodup
    obtain ⟨a1, a2, a3⟩ := a
    obtain ⟨b1, b2, b3⟩ := b
    simp only [Prod.mk.injEq] at e
    rw [e.1.1, e.1.2, e.2]
  have := nodup_bound (m := pairs (pairs (List.range 4) (List.range 4)) NAMES) inj fun a ha => by
    obtain ⟨l, hl, rfl⟩ := List.mem_map.mp ha
    obtain ⟨h1, h2, _, h4⟩ := k.sent l hl
    exact mem_pairs (mem_pairs (List.mem_range.mpr (by omega)) (List.mem_range.mpr (by omega))) (kindsIn_names hp h4)
  rw [pairs_len, pairs_len, names15, List.length_map] at this
  simpa using this
theorem Standing.Ok.house {p : Proto} {n : Nat} {S : Standing} (k : S.Ok p n) {h : Nat} (hh : h < n) : ∃ x, S.houses[h]? = some x ∧ houseAt S h = x := by
  rw [← k.len] at hh
  exact ⟨S.houses[h], List.getElem?_eq_getElem hh, by unfold houseAt; rw [List.getElem?_eq_getElem hh]; rfl⟩
theorem stepsAt_h {p : Proto} {n : Nat} {sent : List Letter} {h : Nat} {x : House} {s : Step} (m : s ∈ stepsAt p n sent h x) : s.h = h := by
  unfold stepsAt at m
  cases e : x.state with
  | none =>
    rw [e] at m
    rw [List.mem_singleton.mp m]
    rfl
  | some k =>
    rw [e] at m
    simp only [List.mem_append] at m
    rcases m with ((m | m) | m) | m
    · obtain ⟨q, _, rfl⟩ := List.mem_map.mp m; rfl
    · obtain ⟨q, _, rfl⟩ := List.mem_map.mp m; rfl
    · obtain ⟨q, _, rfl⟩ := List.mem_map.mp m; rfl
    · unfold forceSteps at m
      split at m
      · rw [List.mem_singleton.mp m]; rfl
      · cases m
theorem mem_stepsOf {p : Proto} {n : Nat} {S : Standing} {s : Step} : s ∈ stepsOf p n S ↔ ∃ x, S.houses[s.h]? = some x ∧ s ∈ stepsAt p n S.sent s.h x := by
  unfold stepsOf
  constructor
  · intro m
    obtain ⟨q, hq, h2⟩ := List.mem_flatMap.mp m
    have e := stepsAt_h h2
    exact ⟨q.1, by rw [e]; exact List.mem_zipIdx_iff_getElem?.mp hq, by rw [e]; exact h2⟩
  · rintro ⟨x, h1, h2⟩
    exact List.mem_flatMap.mpr ⟨(x, s.h), List.mem_zipIdx_iff_getElem?.mpr h1, h2⟩
theorem rulesAt_len {p : Proto} (hp : p.Ok) (h : Nat) (x : House) : (rulesAt p h x).length ≤ 6 := by
  unfold rulesAt
  cases x.state with
  | none => exact Nat.zero_le _
  | some s =>
    show ((((roleAt p h).states[s]?).map State.rules).getD []).length ≤ 6
    cases e : (roleAt p h).states[s]? with
    | none => exact Nat.zero_le _
    | some st =>
      obtain ⟨b, hb⟩ := hp.role h
      exact (hb.states st (List.mem_of_getElem? e)).len
theorem ruleSteps_len {p : Proto} (hp : p.Ok) (n h : Nat) (x : House) : (ruleSteps p n h x).length ≤ 6 := by
  unfold ruleSteps
  rw [List.length_map]
  refine Nat.le_trans (List.length_filter_le _ _) ?_
  rw [List.length_zipIdx]
  exact rulesAt_len hp h x
theorem hearSteps_len (sent : List Letter) (h : Nat) (x : House) : (hearSteps sent h x).length ≤ sent.length := by
  unfold hearSteps
  rw [List.length_map]
  exact List.length_filter_le _ _
theorem fallSteps_len (h : Nat) (x : House) : (fallSteps h x).length ≤ x.log.length + 1 := by
  unfold fallSteps
  rw [List.length_map, List.length_range']
  omega
theorem forceSteps_len (h : Nat) (x : House) : (forceSteps h x).length ≤ 1 := by
  unfold forceSteps
  split <;> simp
theorem stepsAt_len {p : Proto} {n : Nat} (hp : p.Ok) {sent : List Letter} (hs : sent.length ≤ 240) {h : Nat} {x : House} (hl : x.log.length ≤ 15) : (stepsAt p n sent h x).length ≤ 300 := by
  unfold stepsAt
  cases x.state with
  | none => show 1 ≤ 300; decide
  | some s =>
    show (((ruleSteps p n h x ++ hearSteps sent h x) ++ fallSteps h x) ++ forceSteps h x).length ≤ 300
    have a := ruleSteps_len hp n h x
    have b := hearSteps_len sent h x
    have c := fallSteps_len h x
    have d := forceSteps_len h x
    simp only [List.length_append]
    omega
theorem fm_next {α β : Type} {f : α → List β} {l : List α} {i : Nat} {y : α} (h : l[i]? = some y) : (l.take (i + 1)).flatMap f = (l.take i).flatMap f ++ f y := by
  rw [List.take_succ, h]
  simp
theorem fm_len {α β : Type} {f : α → List β} {l : List α} {c : Nat} (h : ∀ y ∈ l, (f y).length ≤ c) (i : Nat) : ((l.take i).flatMap f).length ≤ l.length * c := by
  have key : ∀ l : List α, (∀ y ∈ l, (f y).length ≤ c) → (l.flatMap f).length ≤ l.length * c := fun l => by
    induction l with
    | nil => intro _; simp
    | cons y l ih =>
      intro h
      have a := ih fun z hz => h z (List.mem_cons_of_mem _ hz)
      have b := h y List.mem_cons_self
      simp only [List.flatMap_cons, List.length_append, List.length_cons, Nat.succ_mul]
      omega
  refine Nat.le_trans (key _ fun y hy => h y (List.mem_of_mem_take hy)) (Nat.mul_le_mul_right _ ?_)
  rw [List.length_take]
  exact Nat.min_le_right _ _
theorem ups_len {b : Bool} {ρ : Role} (h : ρ.Ok b) : ρ.ups.length ≤ 16 := by
  have e : ρ.ups.length = (marksIn ρ).length + 1 := by simpa using congrArg List.length h.marks
  have nd : (marksIn ρ).Nodup := srt_nodup (dd_nodup _)
  have := nodup_bound nd fun a ha => marksIn_names h ha
  rw [names15] at this
  omega
theorem last_mem {log : List Wd} (h : log ≠ []) : lastOf log ∈ log := by
  unfold lastOf
  cases e : log.getLast? with
  | none => exact absurd (List.getLast?_eq_none_iff.mp e) h
  | some x => exact List.mem_of_getLast? e
theorem up_there {b : Bool} {ρ : Role} (h : ρ.Ok b) {log : List Wd} (hl : ∀ m ∈ log, m ∈ marksIn ρ) : ∃ q ∈ ρ.ups, q.1 = lastOf log := by
  have : lastOf log ∈ ρ.ups.map (·.1) := by
    rw [h.marks]
    by_cases e : log = []
    · rw [e]
      exact List.mem_cons_self
    · exact List.mem_cons_of_mem _ (hl _ (last_mem e))
  obtain ⟨q, h1, h2⟩ := List.mem_map.mp this
  exact ⟨q, h1, h2⟩
theorem up_state {b : Bool} {ρ : Role} (h : ρ.Ok b) {log : List Wd} (hl : ∀ m ∈ log, m ∈ marksIn ρ) : stateUp ρ log < ρ.states.length := by
  obtain ⟨q, h1, h2⟩ := up_there h hl
  have hm : q ∈ ρ.ups.filter fun q => decide (q.1.s = (lastOf log).s) := List.mem_filter.mpr ⟨h1, decide_eq_true (by rw [h2])⟩
  unfold stateUp
  cases e : ρ.ups.filter fun q => decide (q.1.s = (lastOf log).s) with
  | nil => rw [e] at hm; cases hm
  | cons x l =>
    have hx : x ∈ ρ.ups := (List.mem_filter.mp (by rw [e]; exact List.mem_cons_self : x ∈ ρ.ups.filter fun q => decide (q.1.s = (lastOf log).s))).1
    exact h.ups x hx
theorem rulesAt_mem {p : Proto} {h : Nat} {x : House} {r : Rule} (m : r ∈ rulesAt p h x) : ∃ st ∈ (roleAt p h).states, r ∈ st.rules := by
  unfold rulesAt at m
  cases e : x.state with
  | none => rw [e] at m; cases m
  | some s =>
    rw [e] at m
    cases g : (roleAt p h).states[s]? with
    | none => simp only [g] at m; cases m
    | some st =>
      simp only [g] at m
      exact ⟨st, List.mem_of_getElem? g, m⟩
/-- what each step that can be done says -/
theorem step_rule {p : Proto} {n : Nat} {sent : List Letter} {h k r : Nat} {x : House} (m : Step.rule k r ∈ stepsAt p n sent h x) : k = h ∧ ∃ rule, ruleAt p h x r = some rule ∧ isThere rule.cause h n x = true ∧ rule ∈ rulesAt p h x := by
  have e := stepsAt_h m
  refine ⟨e, ?_⟩
  unfold stepsAt at m
  cases q : x.state with
  | none => rw [q] at m; cases List.mem_singleton.mp m
  | some s =>
    rw [q] at m
    simp only [List.mem_append] at m
    rcases m with ((m | m) | m) | m
    · obtain ⟨a, ha, e⟩ := List.mem_map.mp m
      obtain ⟨h1, h2⟩ := List.mem_filter.mp ha
      cases e
      exact ⟨a.1, List.mem_zipIdx_iff_getElem?.mp h1, h2, List.fst_mem_of_mem_zipIdx h1⟩
    · obtain ⟨a, ha, e⟩ := List.mem_map.mp m; cases e
    · obtain ⟨a, ha, e⟩ := List.mem_map.mp m; cases e
    · unfold forceSteps at m
      split at m
      · cases List.mem_singleton.mp m
      · cases m
theorem step_hear {p : Proto} {n : Nat} {sent : List Letter} {h k g : Nat} {kd : Wd} {x : House} (m : Step.hear k g kd ∈ stepsAt p n sent h x) : k = h ∧ (⟨g, h, kd⟩ : Letter) ∈ sent ∧ (g, kd) ∉ x.heard ∧ x.state ≠ none := by
  have e := stepsAt_h m
  unfold stepsAt at m
  cases q : x.state with
  | none => rw [q] at m; cases List.mem_singleton.mp m
  | some s =>
    rw [q] at m
    simp only [List.mem_append] at m
    rcases m with ((m | m) | m) | m
    · obtain ⟨a, ha, e⟩ := List.mem_map.mp m; cases e
    · obtain ⟨a, ha, e2⟩ := List.mem_map.mp m
      obtain ⟨h1, h2⟩ := List.mem_filter.mp ha
      obtain ⟨a1, a2, a3⟩ := a
      cases e2
      simp only [Bool.and_eq_true, decide_eq_true_eq, Bool.not_eq_true', decide_eq_false_iff_not] at h2
      obtain ⟨h3, h4⟩ := h2
      subst h3
      exact ⟨rfl, h1, h4, fun z => nomatch z⟩
    · obtain ⟨a, ha, e⟩ := List.mem_map.mp m; cases e
    · unfold forceSteps at m
      split at m
      · cases List.mem_singleton.mp m
      · cases m
theorem step_fall {p : Proto} {n : Nat} {sent : List Letter} {h k l : Nat} {x : House} (m : Step.fall k l ∈ stepsAt p n sent h x) : k = h ∧ x.forced ≤ l ∧ l ≤ x.log.length ∧ x.state ≠ none := by
  have e := stepsAt_h m
  unfold stepsAt at m
  cases q : x.state with
  | none => rw [q] at m; cases List.mem_singleton.mp m
  | some s =>
    rw [q] at m
    simp only [List.mem_append] at m
    rcases m with ((m | m) | m) | m
    · obtain ⟨a, ha, e⟩ := List.mem_map.mp m; cases e
    · obtain ⟨a, ha, e⟩ := List.mem_map.mp m; cases e
    · obtain ⟨a, ha, e2⟩ := List.mem_map.mp m
      cases e2
      obtain ⟨i, h1, h2⟩ := List.mem_range'.mp ha
      exact ⟨rfl, by omega, by omega, fun z => nomatch z⟩
    · unfold forceSteps at m
      split at m
      · cases List.mem_singleton.mp m
      · cases m
theorem step_force {p : Proto} {n : Nat} {sent : List Letter} {h k : Nat} {x : House} (m : Step.force k ∈ stepsAt p n sent h x) : k = h ∧ x.forced < x.log.length ∧ x.state ≠ none := by
  have e := stepsAt_h m
  unfold stepsAt at m
  cases q : x.state with
  | none => rw [q] at m; cases List.mem_singleton.mp m
  | some s =>
    rw [q] at m
    simp only [List.mem_append] at m
    rcases m with ((m | m) | m) | m
    · obtain ⟨a, ha, e⟩ := List.mem_map.mp m; cases e
    · obtain ⟨a, ha, e⟩ := List.mem_map.mp m; cases e
    · obtain ⟨a, ha, e⟩ := List.mem_map.mp m; cases e
    · unfold forceSteps at m
      split at m
      · cases List.mem_singleton.mp m
        exact ⟨rfl, by assumption, fun z => nomatch z⟩
      · cases m
theorem step_up {p : Proto} {n : Nat} {sent : List Letter} {h k : Nat} {x : House} (m : Step.up k ∈ stepsAt p n sent h x) : k = h ∧ x.state = none := by
  have e := stepsAt_h m
  unfold stepsAt at m
  cases q : x.state with
  | none => exact ⟨e, rfl⟩
  | some s =>
    rw [q] at m
    simp only [List.mem_append] at m
    rcases m with ((m | m) | m) | m
    · obtain ⟨a, ha, e⟩ := List.mem_map.mp m; cases e
    · obtain ⟨a, ha, e⟩ := List.mem_map.mp m; cases e
    · obtain ⟨a, ha, e⟩ := List.mem_map.mp m; cases e
    · unfold forceSteps at m
      split at m
      · cases List.mem_singleton.mp m
      · cases m
theorem lettersBy_len {h n : Nat} {r : Rule} (hn : n ≤ 4) (hs : r.sends.length ≤ 4) : (lettersBy h n r).length ≤ 16 := by
  unfold lettersBy
  have tl : ∀ y : Sd, (housesTold h n y.2).length ≤ 4 := fun y => by
    unfold housesTold
    split
    · exact Nat.le_trans (List.length_filter_le _ _) (by decide)
    · refine Nat.le_trans (List.length_filter_le _ _) ?_
      rw [List.length_range']
      omega
  have := fm_len (f := fun s : Sd => (housesTold h n s.2).map fun o => (⟨h, o, s.1⟩ : Letter)) (l := r.sends) (c := 4) (fun y _ => by rw [List.length_map]; exact tl y) r.sends.length
  rw [List.take_of_length_le (Nat.le_refl _)] at this
  omega
end K23

-- text C6
set_option Elab.async false
set_option linter.all false
set_option maxRecDepth 100000
set_option maxHeartbeats 2000000
namespace K23
open PySem PySem.Spec PyProof.Rows L2
theorem House.Ok.inRange {p : Proto} {n h : Nat} {x : House} (k : x.Ok p n h) : InRange p h x := k.state
section
variable {P : Program} {w : World} {K : PySem.W.Frag} {mg : Str → Option Value} {base : Heap}
theorem w_rule_steps (T : Top K mg) : Fn P w K mg base 2 "rule_steps" ["protocol", "n", "standing", "h"] (fun1 fun ds d => ∃ (p : Proto) (n : Nat) (S : Standing) (h : Nat) (x : House), ds = [p.d, .int n, S.d, .int h] ∧ S.houses[h]? = some x ∧ InRange p h x ∧ n ≤ 4 ∧ p.Ok ∧ d = .lst ((ruleSteps p n h x).map Step.d)) := by
  obtain ⟨f, fd, hm, F⟩ := T.e63
  have S : FnScope ["protocol", "n", "standing", "h", "house", "rules", "r", "rule"] ["protocol", "n", "standing", "h"] (defScope s63) := ⟨rfl, rfl, rfl, by decide +kernel, rfl, by decide +kernel, by decide +kernel⟩
  refine fn_mk (k := 1) F hm S (F.bindsN (ps := ["protocol", "n", "standing", "h"]) fun _ _ _ _ _ _ us hl => match us, hl with | [_, _, _, _], _ => rfl) (fun M ds P r => by obtain ⟨_, ⟨p, n, S0, h, x, rfl, hx, hr, hn, hp, rfl⟩, rfl⟩ := r; rfl) ?_
  rintro cdv A fr s M _ _ H0 E su ⟨_, ⟨p, n, S0, h, x, rfl, hx, hr, hn, hp, rfl⟩, rfl⟩ rt nx
  have nd := S.nd
  refine ST.norm (ds' := [_, _, _, _, _, _, _, _]) rfl ?_
  refine st_set (i := 4) (hN := nd) (d := x.d) (be_ix (be_ix (be_var 2) be_int) (be_var 3) (at_map (f := House.d) hx)) ?_
  refine ST.norm (ds' := [_, _, _, _, _, _, _, _]) rfl ?_
  obtain ⟨sx, heard, log, forced, able, said, whole, told⟩ := x
  cases sx with
  | none => exact st_take (BT.is (tq_eq su.u64 (be_ix (be_var 4) be_int) (be_gInt T.g_DOWN)) (onD_eqv none)) (st_retE (be_lst ba_nil) (rt _ rfl))
  | some s =>
    have hs := hr s rfl
    obtain ⟨st, hst⟩ : ∃ st, (roleAt p h).states[s]? = some st := ⟨_, List.getElem?_eq_getElem hs⟩
    have ra := rulesAt_some (p := p) (h := h) (x := ⟨some s, heard, log, forced, able, said, whole, told⟩) rfl hst
    have lr : st.rules.length ≤ 6 := by
      obtain ⟨b, hb⟩ := hp.role h
      exact (hb.states st (List.mem_of_getElem? hst)).len
    refine st_skip (BT.is (tq_eq su.u64 (be_ix (be_var 4) be_int) (be_gInt T.g_DOWN)) ((onD_eqv (some s)).trans rfl)) ?_
    refine st_set (i := 5) (hN := nd) (d := .tup (st.rules.map Rule.d)) (be_ix (be_ix (be_ix (be_call (w_role_at T) (su.mono (by decide)) (bae (be_var 0) (bae (be_var 3) ba_nil)) (⟨_, _, rfl, rfl⟩)) be_int) (be_ix (be_var 4) be_int) (at_map (f := State.d) hst)) be_int) ?_
    refine ST.norm (ds' := [_, _, _, _, _, _, _, _]) rfl ?_
    refine st_retE (be_lc (φ := fun q : Rule × Nat => D.tup [.int q.2, q.1.d]) (ys := st.rules.zipIdx) (f := fun q => .tup [.str "rule", .int h, .int q.2]) (keep := fun q => isThere q.1.cause h n ⟨some s, heard, log, forced, able, said, whole, told⟩) (is := [6, 7]) (g := _) (own := [("r", 6), ("rule", 7)]) ⟨rfl, nd, blkOk_by (N := ["protocol", "n", "standing", "h", "house", "rules", "r", "rule"]) (sc := defScope s63) (own := [("r", 6), ("rule", 7)]) (by decide +kernel), by decide, fun y hy X' hX => by have su := hX.sur su; obtain ⟨_, _, _, _, _, rfl⟩ := hX.ex; exact bg_tup rfl (bgs_cons (bg_name (i := 6) nd) (bgs_cons (bg_name (i := 7) nd) (bgs_nil))) 2, fun y hy X' hX => by have su := hX.sur su; obtain ⟨_, _, _, _, _, rfl⟩ := hX.ex; exact bts_one (bte_val (be_call (w_is_there T) (su.mono (by decide)) (bae (be_ix (be_var 7) be_int) (bae (be_var 3) (bae (be_var 1) (bae (be_var 4) ba_nil)))) (⟨_, _, _, _, rfl, hn, rfl⟩))), fun y hy hk X' hX => by have su := hX.sur su; obtain ⟨_, _, _, _, _, rfl⟩ := hX.ex; exact be_tup (bae (be_gStr T.g_RULE) (bae (be_var 3) (bae (be_var 6) ba_nil))), fun y d hy hk e => by subst e; exact Im.k⟩ (bie_enum T.f_enumerate (be_var 5)) (by rw [List.length_zipIdx]; exact Nat.le_trans lr (by decide))) (rt _ ?_)
    unfold ruleSteps
    rw [ra, List.map_map]
    rfl
theorem w_hear_steps (T : Top K mg) : Fn P w K mg base 1 "hear_steps" ["standing", "h"] (fun1 fun ds d => ∃ (S : Standing) (h : Nat) (x : House), ds = [S.d, .int h] ∧ S.houses[h]? = some x ∧ S.sent.length ≤ 1000 ∧ d = .lst ((hearSteps S.sent h x).map Step.d)) := by
  obtain ⟨f, fd, hm, F⟩ := T.e64
  have S : FnScope ["standing", "h", "heard", "near", "far", "kind"] ["standing", "h"] (defScope s64) := ⟨rfl, rfl, rfl, by decide +kernel, rfl, by decide +kernel, by decide +kernel⟩
  refine fn_mk (k := 0) F hm S (F.bindsN (ps := ["standing", "h"]) fun _ _ _ _ _ _ us hl => match us, hl with | [_, _], _ => rfl) (fun M ds P r => by obtain ⟨_, ⟨S0, h, x, rfl, hx, hs, rfl⟩, rfl⟩ := r; rfl) ?_
  rintro cdv A fr s M _ _ H0 E su ⟨_, ⟨S0, h, x, rfl, hx, hs, rfl⟩, rfl⟩ rt nx
  have nd := S.nd
  refine ST.norm (ds' := [_, _, _, _, _, _]) rfl ?_
  refine st_set (i := 2) (hN := nd) (d := .tup (x.heard.map hdD)) (be_ix (be_ix (be_ix (be_var 0) be_int) (be_var 1) (at_map (f := House.d) hx)) be_int) ?_
  refine ST.norm (ds' := [_, _, _, _, _, _]) rfl ?_
  refine st_retE (be_lc (φ := Letter.d) (ys := S0.sent) (f := fun l => .tup [.str "hear", .int h, .int l.src, .str l.kind.s]) (keep := fun l => decide (l.dst = h) && !decide ((l.src, l.kind) ∈ x.heard)) (is := [3, 4, 5]) (g := _) (own := [("near", 3), ("far", 4), ("kind", 5)]) ⟨rfl, nd, blkOk_by (N := ["standing", "h", "heard", "near", "far", "kind"]) (sc := defScope s64) (own := [("near", 3), ("far", 4), ("kind", 5)]) (by decide +kernel), by decide, fun y hy X' hX => by have su := hX.sur su; obtain ⟨_, _, _, _, _, rfl⟩ := hX.ex; exact bg_tup rfl (bgs_cons (bg_name (i := 3) nd) (bgs_cons (bg_name (i := 4) nd) (bgs_cons (bg_name (i := 5) nd) (bgs_nil)))) 3, fun y hy X' hX => by have su := hX.sur su; obtain ⟨_, _, _, _, _, rfl⟩ := hX.ex; exact bts_one (BT.is (BW.bt (bw_and (tq_eqI su.u64 (be_var 4) (be_var 1)) fun _ => bw_and1 (tq_ninK (t := (y.src, y.kind)) kdH.inj kdH.nb su.u64 (be_tup (bae (be_var 3) (bae (be_var 5) ba_nil))) (be_var 2)))) (by rw [ez])), fun y hy hk X' hX => by have su := hX.sur su; obtain ⟨_, _, _, _, _, rfl⟩ := hX.ex; exact be_tup (bae (be_gStr T.g_HEAR) (bae (be_var 1) (bae (be_var 3) (bae (be_var 5) ba_nil)))), fun y d hy hk e => by subst e; exact Im.k⟩ (bie_tup (be_ix (be_var 0) be_int)) (Nat.le_trans hs (by decide))) (rt _ ?_)
  unfold hearSteps
  rw [List.map_map]
  rfl
theorem w_steps_of (T : Top K mg) : Fn P w K mg base 3 "steps_of" ["protocol", "n", "standing"] (fun1 fun ds d => ∃ (p : Proto) (n : Nat) (S : Standing), ds = [p.d, .int n, S.d] ∧ n ≤ 4 ∧ p.Ok ∧ S.Ok p n ∧ d = .lst ((stepsOf p n S).map Step.d)) := by
  obtain ⟨f, fd, hm, F⟩ := T.e65
  have S : FnScope ["protocol", "n", "standing", "found", "h", "house", "left"] ["protocol", "n", "standing"] (defScope s65) := ⟨rfl, rfl, rfl, by decide +kernel, rfl, by decide +kernel, by decide +kernel⟩
  refine fn_mk (k := 2) F hm S (F.bindsN (ps := ["protocol", "n", "standing"]) fun _ _ _ _ _ _ us hl => match us, hl with | [_, _, _], _ => rfl) (fun M ds P r => by obtain ⟨_, ⟨p, n, S0, rfl, hn, hp, hS, rfl⟩, rfl⟩ := r; rfl) ?_
  rintro cdv A fr s M _ _ H0 E su ⟨_, ⟨p, n, S0, rfl, hn, hp, hS, rfl⟩, rfl⟩ rt nx
  have nd := S.nd
  refine ST.norm (ds' := [_, _, _, _, _, _, _]) rfl ?_
  have s240 := hS.sent240 hp hn
  refine st_nl (i := 3) Step.d (fun _ => Im.k) (fun q nq => ?_) nd
  refine ST.norm (ds' := [_, _, _, _, _, _, _]) rfl ?_
  have hl15 : ∀ y ∈ S0.houses.zipIdx, y.1.log.length ≤ 15 := fun y hy => (hS.houses y.2 y.1 (List.mem_zipIdx_iff_getElem?.mp hy)).log15 hp
  have size : ∀ i, ((S0.houses.zipIdx.take i).flatMap fun q => stepsAt p n S0.sent q.2 q.1).length ≤ 4 * 300 := fun i => by
    have a := fm_len (f := fun q : House × Nat => stepsAt p n S0.sent q.2 q.1) (l := S0.houses.zipIdx) (c := 300) (fun y hy => stepsAt_len hp s240 (hl15 y hy)) i
    rw [List.length_zipIdx, hS.len] at a
    exact Nat.le_trans a (Nat.mul_le_mul_right _ hn)
  have big : 4 * 300 + 300 < sizeLine := by decide
  refine st_forS (φ := fun y : House × Nat => .tup [.int y.2, y.1.d]) (ys := S0.houses.zipIdx) (bie_enum T.f_enumerate (be_ix (be_var 2) be_int)) (fun i => ((M.at H0).ls K q Step.d (fun _ => Im.k) ((S0.houses.zipIdx.take i).flatMap fun q => stepsAt p n S0.sent q.2 q.1))) rfl (fun _ => rfl) ?_ ?_
  · rintro H1 i ⟨x, h⟩ hy
    have hm := List.mem_of_getElem? hy
    have hx : S0.houses[h]? = some x := List.mem_zipIdx_iff_getElem?.mp hm
    have hok := hS.houses h x hx
    have l15 := hok.log15 hp
    have sz0 := size i
    have e := fm_next (f := fun q : House × Nat => stepsAt p n S0.sent q.2 q.1) hy
    refine ⟨_, _, (bg_tup rfl (bgs_cons (bg_name (i := 4) nd) (bgs_cons (bg_name (i := 5) nd) (bgs_nil))) 2), ?_⟩
    refine ST.norm (ds' := [_, _, _, _, _, _, _]) rfl ?_
    dsimp only
    rw [e]
    generalize ((S0.houses.zipIdx.take i).flatMap fun q => stepsAt p n S0.sent q.2 q.1) = L at sz0 ⊢
    have mu : ∀ L1 L2 : List Step, Mut K (((M.at H0).ls K q Step.d (fun _ => Im.k) L1).at H1) (((M.at H0).ls K q Step.d (fun _ => Im.k) (L1 ++ L2)).at H1) q (L1.map Step.d) (L1.map Step.d ++ L2.map Step.d) := fun _ _ => (ls_mut nq).at
    obtain ⟨sx, heard, log, forced, able, said, whole, told⟩ := x
    cases sx with
    | none =>
      refine st_take (BT.is (tq_eq su.u64 (be_ix (be_var 5) be_int) (be_gInt T.g_DOWN)) (onD_eqv none)) ?_
      refine st_app (i := 3) (a := Step.up h) (fun _ => Im.k) (be_tup (bae (be_gStr T.g_UP) (bae (be_var 4) ba_nil))) (mu _ _) ?_ (by omega)
      exact st_then (st_rch rfl (by repeat first | exact Wk.nil | apply Wk.keep | apply Wk.drop))
    | some st =>
      generalize ex : (⟨some st, heard, log, forced, able, said, whole, told⟩ : House) = x at *
      have rs := ruleSteps_len hp n h x
      have hs' := hearSteps_len S0.sent h x
      have fs := fallSteps_len h x
      have e2 : L ++ stepsAt p n S0.sent h x = ((L ++ (ruleSteps p n h x ++ hearSteps S0.sent h x)) ++ fallSteps h x) ++ forceSteps h x := by
        subst ex
        unfold stepsAt
        simp only [List.append_assoc]
      rw [e2]
      have ll : x.log.length = log.length := by rw [← ex]
      refine st_ifE (q := false) (BT.is (tq_eq su.u64 (be_ix (be_var 5) be_int) (be_gInt T.g_DOWN)) (by rw [← ex]; exact (onD_eqv (some st)).trans rfl)) (fun z => nomatch z) fun _ => ?_
      have szc : ((ruleSteps p n h x).map Step.d).length + ((hearSteps S0.sent h x).map Step.d).length ≤ sizeLine := by rw [List.length_map, List.length_map]; omega
      refine st_ext (i := 3) (L2 := ruleSteps p n h x ++ hearSteps S0.sent h x) (fun _ => Im.k) (BP.is (be_catL (be_call (w_rule_steps T) (su.mono (by decide)) (bae (be_var 0) (bae (be_var 1) (bae (be_var 2) (bae (be_var 4) ba_nil)))) (⟨_, _, _, _, _, rfl, hx, hok.inRange, hn, hp, rfl⟩)) (be_call (w_hear_steps T) (su.mono (by decide)) (bae (be_var 2) (bae (be_var 4) ba_nil)) (⟨_, _, _, rfl, hx, by omega, rfl⟩)) (by first | decide | assumption | (simp [PySem.sizeLine]; done) | omega)) (by rw [← List.map_append])) (mu _ _) ?_ (by rw [List.length_append]; omega)
      have fz : x.forced < 2 ^ 62 := Nat.lt_of_le_of_lt hok.forced (Nat.lt_of_le_of_lt l15 (by decide))
      have lz' : x.log.length + 1 < 2 ^ 62 := Nat.lt_of_le_of_lt (Nat.succ_le_succ l15) (by decide)
      refine st_ext (i := 3) (L2 := fallSteps h x) (fun _ => Im.k) (BP.is (be_map (φ := natD) (ys := List.range' x.forced (x.log.length + 1 - x.forced)) (f := fun l => .tup [.str "fall", .int h, .int (l : Nat)]) (is := [6]) (g := _) (own := [("left", 6)]) ⟨rfl, nd, blkOk_by (N := ["protocol", "n", "standing", "found", "h", "house", "left"]) (sc := defScope s65) (own := [("left", 6)]) (by decide +kernel), by decide, fun y hy X' hX => by have su := hX.sur su; obtain ⟨_, _, _, _, _, rfl⟩ := hX.ex; exact bg_name (i := 6) nd, fun y hy X' hX => by have su := hX.sur su; obtain ⟨_, _, _, _, _, rfl⟩ := hX.ex; exact bts_nil, fun y hy hk X' hX => by have su := hX.sur su; obtain ⟨_, _, _, _, _, rfl⟩ := hX.ex; exact be_tup (bae (be_gStr T.g_FALL) (bae (be_var 4) (bae (be_var 6) ba_nil))), fun y d hy hk e => by subst e; exact Im.k⟩ (bie_rng2 T.f_range (be_ix (be_var 5) be_int) (BP.is (d' := .int ((x.log.length + 1 : Nat) : Int)) (be_add (be_len T.f_len (be_ix (be_var 5) be_int)) be_int) (by rw [List.length_map]; rfl))) (by rw [List.length_range']; omega)) (by unfold fallSteps; rw [List.map_map]; rfl)) (mu _ _) ?_ (by rw [List.length_append, List.length_append]; omega)
      refine st_ifE (q := decide (x.forced < x.log.length)) (BT.is (bt_lt (be_ix (be_var 5) be_int) (be_len T.f_len (be_ix (be_var 5) be_int))) (by rw [List.length_map, lz])) (fun c => ?_) fun c => ?_
      · have e3 : forceSteps h x = [Step.force h] := if_pos (of_decide_eq_true c)
        rw [e3]
        refine st_app (i := 3) (a := Step.force h) (fun _ => Im.k) (be_tup (bae (be_gStr T.g_FORCE) (bae (be_var 4) ba_nil))) (mu _ _) ?_ (by rw [List.length_append, List.length_append, List.length_append]; omega)
        exact st_then (st_then (st_rch rfl (by repeat first | exact Wk.nil | apply Wk.keep | apply Wk.drop)))
      · have e3 : forceSteps h x = [] := if_neg (of_decide_eq_false c)
        rw [e3, List.append_nil]
        exact st_then (st_then (st_rch rfl (by repeat first | exact Wk.nil | apply Wk.keep | apply Wk.drop)))
  · intro H1
    exact st_retE (be_var 3) (Ret.at (Ret.ls nq (rt _ (by rw [List.length_zipIdx, List.take_of_length_le (by rw [List.length_zipIdx]; exact Nat.le_refl _)]; rfl))))
end
end K23


-- text C7
set_option Elab.async false
set_option linter.all false
set_option maxRecDepth 100000
set_option maxHeartbeats 2000000
namespace K23
open PySem PySem.Spec PyProof.Rows L2
theorem houseAt_some {S : Standing} {h : Nat} {x : House} (e : S.houses[h]? = some x) : houseAt S h = x := by
  unfold houseAt
  rw [e]
  rfl
section
variable {P : Program} {w : World} {K : PySem.W.Frag} {mg : Str → Option Value} {base : Heap}
theorem w_step_done (T : Top K mg) : Fn P w K mg base 3 "step_done" ["protocol", "n", "standing", "step"] (fun1 fun ds d => ∃ (p : Proto) (n : Nat) (S : Standing) (s : Step), ds = [p.d, .int n, S.d, s.d] ∧ n ≤ 4 ∧ p.Ok ∧ S.Ok p n ∧ s ∈ stepsOf p n S ∧ d = (stepDone p n S s).d) := by
  obtain ⟨f, fd, hm, F⟩ := T.e66
  have S : FnScope ["protocol", "n", "standing", "step", "h", "house", "rule", "heard"] ["protocol", "n", "standing", "step"] (defScope s66) := ⟨rfl, rfl, rfl, by decide +kernel, rfl, by decide +kernel, by decide +kernel⟩
  refine fn_mk (k := 2) F hm S (F.bindsN (ps := ["protocol", "n", "standing", "step"]) fun _ _ _ _ _ _ us hl => match us, hl with | [_, _, _, _], _ => rfl) (fun M ds P r => by obtain ⟨_, ⟨p, n, S0, s, rfl, hn, hp, hS, hs, rfl⟩, rfl⟩ := r; rfl) ?_
  rintro cdv A fr s M _ _ H0 E su ⟨_, ⟨p, n, S0, s, rfl, hn, hp, hS, hs, rfl⟩, rfl⟩ rt nx
  have nd := S.nd
  refine ST.norm (ds' := [_, _, _, _, _, _, _, _]) rfl ?_
  obtain ⟨x, hx, hsx⟩ := mem_stepsOf.mp hs
  have ok := hS.houses _ x hx
  have ha := houseAt_some hx
  have z1 : S0.sent.length ≤ 1000 := Nat.le_trans (hS.sent240 hp hn) (by decide)
  have z3 : S0.houses.length ≤ 4 := by rw [hS.len]; exact hn
  have l15 := ok.log15 hp
  have l2 := ok.told2
  have l60 := ok.heard60 hp hn
  obtain ⟨b, hb⟩ := hp.role s.h
  refine st_set (i := 4) (hN := nd) (d := .int s.h) (BP.is (d := .int s.h) (by cases s <;> exact (be_ix (be_var 3) be_int)) rfl) ?_
  refine ST.norm (ds' := [_, _, _, _, _, _, _, _]) rfl ?_
  refine st_set (i := 5) (hN := nd) (d := x.d) (be_ix (be_ix (be_var 2) be_int) (be_var 4) (at_map (f := House.d) hx)) ?_
  refine ST.norm (ds' := [_, _, _, _, _, _, _, _]) rfl ?_
  unfold stepDone at rt
  rw [ha] at rt
  cases s with
  | rule h r =>
    obtain ⟨_, rule, r1, _, r3⟩ := step_rule hsx
    obtain ⟨st, st1, st2⟩ := rulesAt_mem r3
    replace r1 : ruleAt p h x r = some rule := r1
    have rok := (hb.states st st1).rules rule st2
    have lb := lettersBy_len (h := h) hn rok.len
    have z4 : (lettersBy h n rule).length ≤ 1000 := Nat.le_trans lb (by decide)
    simp only [houseDone, lettersOf, r1, Step.h] at rt
    refine st_take (BT.is (tq_eqS su.u64 (be_ix (be_var 3) be_int) (be_gStr T.g_RULE)) (by decide +kernel)) ?_
    refine st_set (i := 6) (hN := nd) (d := rule.d) (BP.is (be_call (w_rule_at T) (su.mono (by decide)) (bae (be_var 0) (bae (be_var 4) (bae (be_var 5) (bae (be_ix (be_var 3) be_int) ba_nil)))) (⟨_, _, _, _, rfl, ok.inRange, rfl⟩)) (congrArg ruleD r1)) ?_
    refine ST.norm (ds' := [_, _, _, _, _, _, _, _]) rfl ?_
    exact st_retE (be_call (w_with_house T) (su.mono (by decide)) (bae (be_var 2) (bae (be_var 4) (bae (be_call (w_ruled T) (su.mono (by decide)) (bae (be_var 0) (bae (be_var 4) (bae (be_var 5) (bae (be_var 6) ba_nil)))) (⟨_, _, _, _, rfl, rok.goes, by omega, by omega, rfl⟩)) (bae (be_call (w_letters_by T) (su.mono (by decide)) (bae (be_var 4) (bae (be_var 1) (bae (be_var 6) ba_nil))) (⟨_, _, _, rfl, hn, rok.len, rfl⟩)) ba_nil)))) (⟨_, _, _, _, rfl, z1, z4, z3, rfl⟩)) (rt _ rfl)
  | hear h g k =>
    simp only [houseDone, lettersOf, Step.h] at rt
    have szp : (x.heard.map hdD).length + [hdD (g, k)].length ≤ sizeLine := by rw [List.length_map]; exact Nat.le_trans (Nat.add_le_add_right l60 _) (by show 60 + 1 ≤ sizeLine; decide)
    have so : Sortd (x.heard.map hdD ++ [hdD (g, k)]) := by
      rw [show x.heard.map hdD ++ [hdD (g, k)] = (x.heard ++ [(g, k)]).map hdD by rw [List.map_append]; rfl]
      exact kdH.sortd _
    have szz : (x.heard.map hdD ++ [hdD (g, k)]).length ≤ sizeLine := by rw [List.length_append]; exact szp
    refine st_skip (BT.is (tq_eqS su.u64 (be_ix (be_var 3) be_int) (be_gStr T.g_RULE)) (by decide +kernel)) ?_
    refine st_take (BT.is (tq_eqS su.u64 (be_ix (be_var 3) be_int) (be_gStr T.g_HEAR)) (by decide +kernel)) ?_
    refine st_set (i := 7) (hN := nd) (d := .tup ((srt hdD (x.heard ++ [(g, k)])).map hdD)) (BP.is (be_tupleOf T.f_tuple (be_sorted su.u64 T.f_sorted (be_catT (be_ix (be_var 5) be_int) (be_tup (bae (be_tup (bae (be_ix (be_var 3) be_int) (bae (be_ix (be_var 3) be_int) ba_nil))) ba_nil)) (by first | decide | assumption | (simp [PySem.sizeLine]; done) | omega)) so szz)) (by rw [← sortD_map, List.map_append]; rfl)) ?_
    refine ST.norm (ds' := [_, _, _, _, _, _, _, _]) rfl ?_
    exact st_retE (be_call (w_with_house T) (su.mono (by decide)) (bae (be_var 2) (bae (be_var 4) (bae (be_catT (be_catT (BP.is (d' := .tup [onD x.state]) (be_slT (be_var 5) bo_none (bo_some be_int)) rfl) (be_tup (bae (be_var 7) ba_nil)) (by first | decide | assumption | (simp [PySem.sizeLine]; done) | omega)) (BP.is (d' := .tup [.tup (x.log.map Wd.d), .int x.forced, .bl x.able, onD x.said, .bl x.whole, .tup (x.told.map Wd.d)]) (be_slT (be_var 5) (bo_some be_int) bo_none) rfl) (by first | decide | assumption | (simp [PySem.sizeLine]; done) | omega)) (bae (be_lst ba_nil) ba_nil)))) (⟨_, _, heardMore x g k, [], rfl, z1, by decide, z3, rfl⟩)) (rt _ rfl)
  | force h =>
    simp only [houseDone, lettersOf, Step.h] at rt
    refine st_skip (BT.is (tq_eqS su.u64 (be_ix (be_var 3) be_int) (be_gStr T.g_RULE)) (by decide +kernel)) ?_
    refine st_skip (BT.is (tq_eqS su.u64 (be_ix (be_var 3) be_int) (be_gStr T.g_HEAR)) (by decide +kernel)) ?_
    refine st_take (BT.is (tq_eqS su.u64 (be_ix (be_var 3) be_int) (be_gStr T.g_FORCE)) (by decide +kernel)) ?_
    exact st_retE (be_call (w_with_house T) (su.mono (by decide)) (bae (be_var 2) (bae (be_var 4) (bae (be_catT (be_catT (BP.is (d' := .tup [onD x.state, .tup (x.heard.map hdD), .tup (x.log.map Wd.d)]) (be_slT (be_var 5) bo_none (bo_some be_int)) rfl) (be_tup (bae (BP.is (d' := .int (x.log.length : Nat)) (be_len T.f_len (be_ix (be_var 5) be_int)) (by rw [List.length_map])) ba_nil)) (by first | decide | assumption | (simp [PySem.sizeLine]; done) | omega)) (BP.is (d' := .tup [.bl x.able, onD x.said, .bl x.whole, .tup (x.told.map Wd.d)]) (be_slT (be_var 5) (bo_some be_int) bo_none) rfl) (by first | decide | assumption | (simp [PySem.sizeLine]; done) | omega)) (bae (be_lst ba_nil) ba_nil)))) (⟨_, _, forcedAll x, [], rfl, z1, by decide, z3, rfl⟩)) (rt _ rfl)
  | fall h l =>
    simp only [houseDone, lettersOf, Step.h] at rt
    refine st_skip (BT.is (tq_eqS su.u64 (be_ix (be_var 3) be_int) (be_gStr T.g_RULE)) (by decide +kernel)) ?_
    refine st_skip (BT.is (tq_eqS su.u64 (be_ix (be_var 3) be_int) (be_gStr T.g_HEAR)) (by decide +kernel)) ?_
    refine st_skip (BT.is (tq_eqS su.u64 (be_ix (be_var 3) be_int) (be_gStr T.g_FORCE)) (by decide +kernel)) ?_
    refine st_take (BT.is (tq_eqS su.u64 (be_ix (be_var 3) be_int) (be_gStr T.g_FALL)) (by decide +kernel)) ?_
    exact st_retE (be_call (w_with_house T) (su.mono (by decide)) (bae (be_var 2) (bae (be_var 4) (bae (be_call (w_fallen_house T) (su.mono (by decide)) (bae (be_var 5) (bae (be_ix (be_var 3) be_int) ba_nil)) (⟨_, _, rfl, rfl⟩)) (bae (be_lst ba_nil) ba_nil)))) (⟨_, _, fallen x l, [], rfl, z1, by decide, z3, rfl⟩)) (rt _ rfl)
  | up h =>
    simp only [houseDone, lettersOf, Step.h] at rt
    have u1 : (roleAt p h).ups.length ≤ sizeLine := Nat.le_trans (ups_len hb) (by decide)
    refine st_skip (BT.is (tq_eqS su.u64 (be_ix (be_var 3) be_int) (be_gStr T.g_RULE)) (by decide +kernel)) ?_
    refine st_skip (BT.is (tq_eqS su.u64 (be_ix (be_var 3) be_int) (be_gStr T.g_HEAR)) (by decide +kernel)) ?_
    refine st_skip (BT.is (tq_eqS su.u64 (be_ix (be_var 3) be_int) (be_gStr T.g_FORCE)) (by decide +kernel)) ?_
    refine st_skip (BT.is (tq_eqS su.u64 (be_ix (be_var 3) be_int) (be_gStr T.g_FALL)) (by decide +kernel)) ?_
    exact st_retE (be_call (w_with_house T) (su.mono (by decide)) (bae (be_var 2) (bae (be_var 4) (bae (be_call (w_upped T) (su.mono (by decide)) (bae (be_var 0) (bae (be_var 4) (bae (be_var 5) ba_nil))) (⟨_, _, _, rfl, u1, up_there hb ok.log, up_state hb ok.log, by omega, rfl⟩)) (bae (be_lst ba_nil) ba_nil)))) (⟨_, _, upped p h x, [], rfl, z1, by decide, z3, rfl⟩)) (rt _ rfl)
end
end K23


-- text S4
set_option Elab.async false
set_option linter.all false
set_option maxRecDepth 100000
set_option maxHeartbeats 2000000
namespace K23
open PySem PySem.Spec PyProof.Rows L2
/-! ## 32. what repr gives: real signs, not too long -/
theorem strOk_app (a b : Str) : PyData.strOk (a ++ b) = (PyData.strOk a && PyData.strOk b) := by
  unfold PyData.strOk
  show (a.cps ++ b.cps).all (· < 0x110000) = _
  rw [Array.all_append]
theorem from_ok (n : Nat) : ∀ (ts : List Str) (k : Nat) (acc : Str), PyData.strOk acc = true → (∀ t ∈ ts, PyData.strOk t = true ∧ t.length ≤ n) → PyData.strOk (textFrom k acc ts) = true ∧ (textFrom k acc ts).length ≤ acc.length + ts.length * (n + 2)
  | [], k, acc, h, _ => ⟨h, by show acc.length ≤ _; omega⟩
  | t :: ts, k, acc, h, g => by
    obtain ⟨g1, g2⟩ := g t List.mem_cons_self
    have e : PyData.strOk (acc ++ (if k > 0 then ", " else "" : String) ++ t) = true := by
      rw [strOk_app, strOk_app, h, g1]
      split <;> decide +kernel
    obtain ⟨a, b⟩ := from_ok n ts (k + 1) _ e fun u hu => g u (List.mem_cons_of_mem _ hu)
    refine ⟨a, Nat.le_trans b ?_⟩
    have z : ((if k > 0 then ", " else "" : String) : Str).length ≤ 2 := by split <;> decide +kernel
    rw [strLen_append, strLen_append, List.length_cons, Nat.succ_mul]
    omega
theorem join_ok (n : Nat) : ∀ ts : List Str, (∀ t ∈ ts, PyData.strOk t = true ∧ t.length ≤ n) → PyData.strOk (Str.join ", " ts) = true ∧ (Str.join ", " ts).length ≤ ts.length * (n + 2)
  | [], _ => ⟨by decide +kernel, Nat.zero_le _⟩
  | [x], h => by
    obtain ⟨a, b⟩ := h x List.mem_cons_self
    exact ⟨a, by show x.length ≤ 1 * (n + 2); omega⟩
  | x :: y :: r, h => by
    obtain ⟨a, b⟩ := h x List.mem_cons_self
    obtain ⟨c, d⟩ := join_ok n (y :: r) fun t ht => h t (List.mem_cons_of_mem _ ht)
    have z : ((", " : String) : Str).length = 2 := rfl
    have o : PyData.strOk ((", " : String) : Str) = true := by decide +kernel
    refine ⟨?_, ?_⟩
    · show PyData.strOk (x ++ ", " ++ Str.join ", " (y :: r)) = true
      rw [strOk_app, strOk_app, a, c, o]
      rfl
    · show (x ++ ", " ++ Str.join ", " (y :: r)).length ≤ _
      rw [strLen_append, strLen_append, z, List.length_cons, Nat.succ_mul]
      omega
/-- a datum that repr can show in n signs -/
structure Sh (d : D) (n : Nat) : Prop where
  sh : d.py.showable = true
  tx : PyData.strOk d.py.shown = true
  len : d.py.shown.length ≤ n
theorem Sh.mono {d : D} {n m : Nat} (h : Sh d n) (k : n ≤ m) : Sh d m := ⟨h.sh, h.tx, Nat.le_trans h.len k⟩
theorem showAll_of (n : Nat) : ∀ l : List D, (∀ d ∈ l, Sh d n) → PyData.showableAll (D.py.pys l) = true
  | [], _ => rfl
  | d :: l, h => by
    show (d.py.showable && PyData.showableAll (D.py.pys l)) = true
    rw [(h d List.mem_cons_self).sh, showAll_of n l fun e he => h e (List.mem_cons_of_mem _ he)]
    rfl
theorem shownAll_of (n : Nat) : ∀ l : List D, (∀ d ∈ l, Sh d n) → (∀ t ∈ PyData.shownAll (D.py.pys l), PyData.strOk t = true ∧ t.length ≤ n) ∧ (PyData.shownAll (D.py.pys l)).length = l.length
  | [], _ => ⟨(fun _ h => by cases h), rfl⟩
  | d :: l, h => by
    obtain ⟨a, b⟩ := shownAll_of n l fun e he => h e (List.mem_cons_of_mem _ he)
    refine ⟨fun t ht => ?_, congrArg (· + 1) b⟩
    have ht : t ∈ d.py.shown :: PyData.shownAll (D.py.pys l) := ht
    rcases List.mem_cons.mp ht with z | z
    · rw [z]
      exact ⟨(h d List.mem_cons_self).tx, (h d List.mem_cons_self).len⟩
    · exact a t z
theorem Sh.lst {l : List D} {n : Nat} (h : ∀ d ∈ l, Sh d n) : Sh (.lst l) (l.length * (n + 2) + 2) := by
  obtain ⟨a, b⟩ := shownAll_of n l h
  have o1 : PyData.strOk (("[" : String) : Str) = true := by decide +kernel
  have o2 : PyData.strOk (("]" : String) : Str) = true := by decide +kernel
  have l1 : ((("[" : String) : Str)).length = 1 := rfl
  have l2 : ((("]" : String) : Str)).length = 1 := rfl
  obtain ⟨c, d⟩ := from_ok n (PyData.shownAll (D.py.pys l)) 0 "[" o1 a
  refine ⟨showAll_of n l h, ?_, ?_⟩
  · show PyData.strOk (textFrom 0 "[" (PyData.shownAll (D.py.pys l)) ++ "]") = true
    rw [strOk_app, c, o2]
    rfl
  · show (textFrom 0 "[" (PyData.shownAll (D.py.pys l)) ++ ("]" : String)).length ≤ _
    rw [strLen_append, l2]
    rw [b, l1] at d
    omega
theorem Sh.tup {l : List D} {n : Nat} (h : ∀ d ∈ l, Sh d n) : Sh (.tup l) (l.length * (n + 2) + 3) := by
  obtain ⟨a, b⟩ := shownAll_of n l h
  have o1 : PyData.strOk (("(" : String) : Str) = true := by decide +kernel
  have o2 : PyData.strOk ((if (PyData.shownAll (D.py.pys l)).length == 1 then ",)" else ")" : String) : Str) = true := by split <;> decide +kernel
  have l1 : ((("(" : String) : Str)).length = 1 := rfl
  have l2 : ((if (PyData.shownAll (D.py.pys l)).length == 1 then ",)" else ")" : String) : Str).length ≤ 2 := by split <;> decide +kernel
  obtain ⟨c, d⟩ := join_ok n (PyData.shownAll (D.py.pys l)) a
  refine ⟨showAll_of n l h, ?_, ?_⟩
  · show PyData.strOk (("(" : Str) ++ Str.join ", " (PyData.shownAll (D.py.pys l)) ++ (if (PyData.shownAll (D.py.pys l)).length == 1 then ",)" else ")" : String)) = true
    rw [strOk_app, strOk_app, c, o1, o2]
    rfl
  · show (("(" : Str) ++ Str.join ", " (PyData.shownAll (D.py.pys l)) ++ (if (PyData.shownAll (D.py.pys l)).length == 1 then ",)" else ")" : String)).length ≤ _
    rw [strLen_append, strLen_append]
    rw [b] at d
    omega
theorem Sh.nat {i : Nat} (h : i < 64) : Sh (.int i) 2 := by
  have key : ((List.range 64).all fun i => (PyData.int i).showable && (PyData.strOk (PyData.int i).shown && decide ((PyData.int i).shown.length ≤ 2))) = true := by decide +kernel
  have := List.all_eq_true.mp key i (List.mem_range.mpr h)
  simp only [Bool.and_eq_true, decide_eq_true_eq] at this
  exact ⟨this.1, this.2.1, this.2.2⟩
theorem Sh.wd (w : Wd) : Sh w.d 12 := by
  have key : (WORDS.all fun z => PyData.strOk (PyData.str z).shown && decide ((PyData.str z).shown.length ≤ 12)) = true := by decide +kernel
  have := List.all_eq_true.mp key w.s w.ok
  simp only [Bool.and_eq_true, decide_eq_true_eq] at this
  exact ⟨rfl, this.1, this.2⟩
theorem Sh.bl (b : Bool) : Sh (.bl b) 5 := by cases b <;> exact ⟨rfl, by decide +kernel, by decide +kernel⟩
theorem Sh.on {o : Option Nat} (h : ∀ k, o = some k → k < 64) : Sh (onD o) 2 := by
  cases o with
  | none => exact ⟨by decide +kernel, by decide +kernel, by decide +kernel⟩
  | some k => exact Sh.nat (h k rfl)
theorem sh_map {α : Type} {f : α → D} {l : List α} {n : Nat} (h : ∀ a ∈ l, Sh (f a) n) : ∀ d ∈ l.map f, Sh d n := fun d hd => by
  obtain ⟨a, ha, rfl⟩ := List.mem_map.mp hd
  exact h a ha
theorem Sh.hd {q : Hd} (h : q.1 < 64) : Sh (hdD q) 31 :=
  (Sh.tup (n := 12) (l := [.int q.1, .str q.2.s]) fun d hd => by
    simp only [List.mem_cons, List.not_mem_nil, or_false] at hd
    rcases hd with rfl | rfl
    · exact (Sh.nat h).mono (by decide)
    · exact Sh.wd q.2).mono (by simp)
theorem Sh.letter {l : Letter} (h1 : l.src < 64) (h2 : l.dst < 64) : Sh l.d 45 :=
  (Sh.tup (n := 12) (l := [.int l.src, .int l.dst, .str l.kind.s]) fun d hd => by
    simp only [List.mem_cons, List.not_mem_nil, or_false] at hd
    rcases hd with rfl | rfl | rfl
    · exact (Sh.nat h1).mono (by decide)
    · exact (Sh.nat h2).mono (by decide)
    · exact Sh.wd l.kind).mono (by simp)
/-- all numbers of the step are below 64 -/
def Step.Sm : Step → Prop
  | .rule h r => h < 64 ∧ r < 64
  | .hear h g _ => h < 64 ∧ g < 64
  | .force h => h < 64
  | .fall h l => h < 64 ∧ l < 64
  | .up h => h < 64
theorem Sh.step {s : Step} (h : s.Sm) : Sh s.d 60 := by
  cases s with
  | rule a b => exact (Sh.tup (n := 12) (l := [.str "rule", .int a, .int b]) fun d hd => by
      simp only [List.mem_cons, List.not_mem_nil, or_false] at hd
      rcases hd with rfl | rfl | rfl
      · exact Sh.wd (K23.wd "rule")
      · exact (Sh.nat h.1).mono (by decide)
      · exact (Sh.nat h.2).mono (by decide)).mono (by simp)
  | hear a b k => exact (Sh.tup (n := 12) (l := [.str "hear", .int a, .int b, .str k.s]) fun d hd => by
      simp only [List.mem_cons, List.not_mem_nil, or_false] at hd
      rcases hd with rfl | rfl | rfl | rfl
      · exact Sh.wd (K23.wd "hear")
      · exact (Sh.nat h.1).mono (by decide)
      · exact (Sh.nat h.2).mono (by decide)
      · exact Sh.wd k).mono (by simp)
  | force a => exact (Sh.tup (n := 12) (l := [.str "force", .int a]) fun d hd => by
      simp only [List.mem_cons, List.not_mem_nil, or_false] at hd
      rcases hd with rfl | rfl
      · exact Sh.wd (K23.wd "force")
      · exact (Sh.nat h).mono (by decide)).mono (by simp)
  | fall a b => exact (Sh.tup (n := 12) (l := [.str "fall", .int a, .int b]) fun d hd => by
      simp only [List.mem_cons, List.not_mem_nil, or_false] at hd
      rcases hd with rfl | rfl | rfl
      · exact Sh.wd (K23.wd "fall")
      · exact (Sh.nat h.1).mono (by decide)
      · exact (Sh.nat h.2).mono (by decide)).mono (by simp)
  | up a => exact (Sh.tup (n := 12) (l := [.str "up", .int a]) fun d hd => by
      simp only [List.mem_cons, List.not_mem_nil, or_false] at hd
      rcases hd with rfl | rfl
      · exact Sh.wd (K23.wd "up")
      · exact (Sh.nat h).mono (by decide)).mono (by simp)
theorem Sh.house {p : Proto} {n h : Nat} {x : House} (k : x.Ok p n h) (hp : p.Ok) (hn : n ≤ 4) : Sh x.d 16000 := by
  obtain ⟨b, hb⟩ := hp.role h
  have l1 := k.log15 hp
  have l2 := k.told2
  have l3 := k.heard60 hp hn
  have m15 : (marksIn (roleAt p h)).length ≤ 15 := by
    rw [← names15]
    exact nodup_bound (srt_nodup (dd_nodup _)) fun a ha => marksIn_names hb ha
  have t1 : Sh (.tup (x.heard.map hdD)) 1983 := (Sh.tup (sh_map fun a ha => Sh.hd (by have := (k.heard a ha).1; omega))).mono (by rw [List.length_map]; omega)
  have t2 : Sh (.tup (x.log.map Wd.d)) 1983 := (Sh.tup (sh_map fun a _ => Sh.wd a)).mono (by rw [List.length_map]; omega)
  have t3 : Sh (.tup (x.told.map Wd.d)) 1983 := (Sh.tup (sh_map fun a _ => Sh.wd a)).mono (by rw [List.length_map]; omega)
  refine (Sh.tup (n := 1983) (l := [onD x.state, .tup (x.heard.map hdD), .tup (x.log.map Wd.d), .int x.forced, .bl x.able, onD x.said, .bl x.whole, .tup (x.told.map Wd.d)]) fun d hd => ?_).mono (by simp)
  simp only [List.mem_cons, List.not_mem_nil, or_false] at hd
  rcases hd with rfl | rfl | rfl | rfl | rfl | rfl | rfl | rfl
  · exact (Sh.on fun s e => by have a := k.state s e; have b := hb.len; omega).mono (by decide)
  · exact t1
  · exact t2
  · exact (Sh.nat (by have := k.forced; omega)).mono (by decide)
  · exact (Sh.bl _).mono (by decide)
  · exact (Sh.on fun s e => by have a := k.said s e; omega).mono (by decide)
  · exact (Sh.bl _).mono (by decide)
  · exact t3
theorem Sh.standing {p : Proto} {n : Nat} {S : Standing} (k : S.Ok p n) (hp : p.Ok) (hn : n ≤ 4) : Sh S.d 150000 := by
  have l1 := k.sent240 hp hn
  have l2 := k.len
  have t1 : Sh (.tup (S.houses.map House.d)) 64100 := (Sh.tup (n := 16000) (sh_map fun a ha => by
    obtain ⟨i, hi⟩ := List.getElem?_of_mem ha
    exact Sh.house (k.houses i a hi) hp hn)).mono (by rw [List.length_map]; omega)
  have t2 : Sh (.tup (S.sent.map Letter.d)) 64100 := (Sh.tup (n := 45) (sh_map fun a ha => by
    obtain ⟨h1, h2, _⟩ := k.sent a ha
    exact Sh.letter (by omega) (by omega))).mono (by rw [List.length_map]; omega)
  refine (Sh.tup (n := 64100) (l := [.tup (S.houses.map House.d), .tup (S.sent.map Letter.d)]) fun d hd => ?_).mono (by simp)
  simp only [List.mem_cons, List.not_mem_nil, or_false] at hd
  rcases hd with rfl | rfl
  · exact t1
  · exact t2
theorem shown_of {d : D} {n m : Nat} [g : Gd d m] (h : Sh d n) (hn : n ≤ sizeLine) (hm : m ≤ 60 := by decide) : Shown d := ⟨g.ok, Nat.le_trans g.dp hm, h.sh, Nat.le_trans h.len hn⟩
/-! the steps that there are -/
def STEPS : List Step := (List.range 4).flatMap fun h => ((List.range 6).map fun r => Step.rule h r) ++ ((List.range 4).flatMap fun g => NAMES.map fun k => Step.hear h g k) ++ ((List.range 16).map fun l => Step.fall h l) ++ [Step.force h, Step.up h]
def codeT (z : Str) : Nat := (z.cps.toList.foldl (fun a c => a * 256 + c) 0) % 1000003
def CODES : List Nat := [128597, 128853, 129109, 129365, 129621, 129877, 846562, 720806, 657527, 542411, 389826, 939662, 875911, 814288, 435750, 843966, 909502, 630395, 472539, 894445, 222579, 622164, 496408, 433129, 120729, 740513, 290346, 670249, 589890, 230088, 132223, 197759, 918655, 823226, 245129, 776865, 397766, 272010, 208731, 699050, 91197, 641033, 464587, 365492, 24426, 420483, 486019, 206912, 173910, 595816, 331148, 173368, 47612, 984336, 277368, 441884, 991720, 258925, 141094, 818767, 708743, 774279, 495172, 524597, 946503, 885434, 736230, 736486, 736742, 736998, 737254, 737510, 737766, 738022, 738278, 738534, 541685, 541941, 542197, 542453, 542709, 542965, 399723, 135875, 83008, 83264, 83520, 83776, 84032, 84288, 424880, 299124, 235845, 768986, 286616, 836452, 430194, 392606, 990036, 619568, 685104, 405997, 369329, 791235, 272311, 200482, 74726, 11447, 347304, 637303, 187136, 224532, 168208, 784374, 907828, 973364, 694257, 720016, 141919, 826597, 976087, 850331, 787052, 925625, 987990, 537823, 18870, 943813, 578712, 196085, 261621, 982517, 70700, 492606, 380880, 751689, 625933, 562654, 503943, 338674, 888510, 813211, 719415, 373050, 484345, 549881, 270774, 421387, 843293, 935166, 690641, 690897, 691153, 691409, 691665, 691921, 692177, 692433, 692689, 692945, 870937, 871193, 871449, 871705, 871961, 872217, 399979, 136131, 37419, 37675, 37931, 38187, 38443, 38699, 3198, 877445, 814166, 995561, 183406, 733242, 984480, 970927, 544319, 395170, 460706, 181599, 266119, 688025, 322043, 778803, 653047, 589768, 573879, 534093, 83926, 778818, 746529, 338657, 683430, 748966, 469859, 616806, 38709, 876329, 554405, 428649, 365370, 152197, 884780, 434613, 573156, 522131, 132995, 971690, 37223, 758119, 967493, 389396, 430612, 330007, 204251, 140972, 730518, 235464, 785300, 367494, 297733, 927336, 259947, 325483, 46376, 318177, 740083, 984898, 645052, 645308, 645564, 645820, 646076, 646332, 646588, 646844, 647100, 647356, 200186, 200442, 200698, 200954, 201210, 201466, 400235, 136387, 991833, 992089, 992345, 992601, 992857, 993113, 581519, 455763, 392484, 222133, 80196, 630032, 538763, 549245, 98602, 170772, 236308, 957204, 162909, 584815, 371775, 357121, 231365, 168086, 800454, 430883, 980719, 333101, 324847, 892943, 459032, 524568, 245461, 513596, 935502, 926061, 132723, 6967, 943691, 378772, 781570, 331403, 127439, 100449, 687281, 747292, 812828, 533721, 864283, 286186, 480344, 908328, 782572, 719293, 957093, 132254, 682090, 921780, 876054, 481619, 35549, 101085, 821981, 214967, 636873, 34627, 599463, 599719, 599975, 600231, 600487, 600743, 600999, 601255, 601511, 601767, 529438, 529694, 529950, 530206, 530462, 530718, 400491, 136643]
theorem steps_codes : (STEPS.map fun s => codeT s.d.py.shown) = CODES := by decide +kernel
def apart : List Nat → Bool
  | [] => true
  | x :: l => l.all (fun y => !Nat.beq x y) && apart l
theorem apart_nd : ∀ l : List Nat, apart l = true → l.Nodup
  | [], _ => List.nodup_nil
  | x :: l, h => by
    obtain ⟨h1, h2⟩ := Bool.and_eq_true_iff.mp h
    refine List.nodup_cons.mpr ⟨fun m => ?_, apart_nd l h2⟩
    have := List.all_eq_true.mp h1 x m
    rw [Nat.beq_refl] at this
    cases this
theorem codes_nd : CODES.Nodup := apart_nd _ (by decide +kernel)
theorem steps_code : (STEPS.map fun s => codeT s.d.py.shown).Nodup := by
  rw [steps_codes]
  exact codes_nd
theorem nodup_inj {α β : Type} {f : α → β} : ∀ {l : List α}, (l.map f).Nodup → ∀ {a b : α}, a ∈ l → b ∈ l → f a = f b → a = b
  | [], _, _, _, h, _, _ => by cases h
  | x :: l, nd, a, b, ha, hb, e => by
    rw [List.map_cons, List.nodup_cons] at nd
    rcases List.mem_cons.mp ha with h1 | h1
    · rcases List.mem_cons.mp hb with h2 | h2
      · rw [h1, h2]
      · exact absurd (List.mem_map.mpr ⟨b, h2, by rw [← h1, e]⟩) nd.1
    · rcases List.mem_cons.mp hb with h2 | h2
      · exact absurd (List.mem_map.mpr ⟨a, h1, by rw [← h2, e]⟩) nd.1
      · exact nodup_inj nd.2 h1 h2 e
theorem shown_inj {a b : Step} (ha : a ∈ STEPS) (hb : b ∈ STEPS) (e : a.d.py.shown = b.d.py.shown) : a = b := nodup_inj steps_code ha hb (congrArg codeT e)
theorem mem_STEPS {p : Proto} {n : Nat} {S : Standing} (k : S.Ok p n) (hp : p.Ok) (hn : n ≤ 4) {s : Step} (m : s ∈ stepsOf p n S) : s ∈ STEPS ∧ s.Sm := by
  obtain ⟨x, hx, hs⟩ := mem_stepsOf.mp m
  have ok := k.houses _ x hx
  have h4 : s.h < 4 := by
    have := (List.getElem?_eq_some_iff.mp hx).1
    rw [k.len] at this
    omega
  have l15 := ok.log15 hp
  refine ⟨List.mem_flatMap.mpr ⟨s.h, List.mem_range.mpr h4, ?_⟩, ?_⟩
  · cases s with
    | rule h r =>
      obtain ⟨_, rule, r1, _, _⟩ := step_rule hs
      have := (List.getElem?_eq_some_iff.mp r1).1
      have b := rulesAt_len hp h x
      exact List.mem_append_left _ (List.mem_append_left _ (List.mem_append_left _ (List.mem_map.mpr ⟨r, List.mem_range.mpr (Nat.lt_of_lt_of_le this b), rfl⟩)))
    | hear h g k2 =>
      obtain ⟨_, m1, _, _⟩ := step_hear hs
      obtain ⟨a1, _, _, a4⟩ := k.sent _ m1
      exact List.mem_append_left _ (List.mem_append_left _ (List.mem_append_right _ (List.mem_flatMap.mpr ⟨g, List.mem_range.mpr (by have : g < n := a1; omega), List.mem_map.mpr ⟨k2, kindsIn_names hp a4, rfl⟩⟩)))
    | force h => exact List.mem_append_right _ (by simp [Step.h])
    | fall h l =>
      obtain ⟨_, _, m2, _⟩ := step_fall hs
      exact List.mem_append_left _ (List.mem_append_right _ (List.mem_map.mpr ⟨l, List.mem_range.mpr (by omega), rfl⟩))
    | up h => exact List.mem_append_right _ (by simp [Step.h])
  · cases s with
    | rule h r =>
      obtain ⟨_, rule, r1, _, _⟩ := step_rule hs
      have := (List.getElem?_eq_some_iff.mp r1).1
      have b := rulesAt_len hp h x
      exact ⟨Nat.lt_trans h4 (by decide), Nat.lt_of_lt_of_le this (Nat.le_trans b (by decide))⟩
    | hear h g k2 =>
      obtain ⟨_, m1, _, _⟩ := step_hear hs
      obtain ⟨a1, _, _, a4⟩ := k.sent _ m1
      exact ⟨Nat.lt_trans h4 (by decide), by have : g < n := a1; omega⟩
    | force h => exact Nat.lt_trans h4 (by decide)
    | fall h l =>
      obtain ⟨_, _, m2, _⟩ := step_fall hs
      exact ⟨Nat.lt_trans h4 (by decide), by omega⟩
    | up h => exact Nat.lt_trans h4 (by decide)
end K23

-- text S5
set_option Elab.async false
set_option linter.all false
set_option maxRecDepth 100000
set_option maxHeartbeats 2000000
namespace K23
open PySem PySem.Spec PyProof.Rows L2
/-! ## 33. what the steps keep -/
theorem put_at {α : Type} {l : List α} {h : Nat} (hh : h < l.length) (x : α) (j : Nat) : (l.take h ++ [x] ++ l.drop (h + 1))[j]? = if j = h then some x else l[j]? := by
  rw [List.append_assoc]
  have e : (l.take h).length = h := by rw [List.length_take]; omega
  rcases Nat.lt_trichotomy j h with c | c | c
  · rw [List.getElem?_append_left (by omega), if_neg (by omega), List.getElem?_take_of_lt c]
  · subst c
    rw [List.getElem?_append_right (by omega), e, Nat.sub_self, if_pos rfl]
    rfl
  · rw [List.getElem?_append_right (by omega), e, if_neg (by omega)]
    obtain ⟨k, rfl⟩ : ∃ k, j = h + 1 + k := ⟨j - (h + 1), by omega⟩
    rw [show h + 1 + k - h = k + 1 by omega]
    show (l.drop (h + 1))[k]? = _
    rw [List.getElem?_drop]
theorem put_len {α : Type} {l : List α} {h : Nat} (hh : h < l.length) (x : α) : (l.take h ++ [x] ++ l.drop (h + 1)).length = l.length := by
  simp only [List.length_append, List.length_take, List.length_drop, List.length_cons, List.length_nil]
  omega
theorem toldMore_mem {told : List Wd} {e a : Wd} : a ∈ toldMore told e → a ∈ told ∨ (a = e ∧ e.s ≠ ("" : Str)) := by
  unfold toldMore
  by_cases h : e.s = ("" : Str) ∨ e ∈ told
  · rw [if_pos h]
    exact .inl
  · rw [if_neg h, srt_mem]
    intro m
    rcases List.mem_append.mp m with z | z
    · exact .inl z
    · exact .inr ⟨by simpa using z, fun q => h (.inl q)⟩
theorem toldMore_up {told : List Wd} (h : Up Wd.d told) (e : Wd) : Up Wd.d (toldMore told e) := by
  unfold toldMore
  by_cases q : e.s = ("" : Str) ∨ e ∈ told
  · rw [if_pos q]
    exact h
  · rw [if_neg q]
    refine kdW.up (List.nodup_append.mpr ⟨h.nodup, by simp, fun a ha b hb => ?_⟩)
    rw [List.mem_singleton.mp hb]
    exact fun z => q (.inr (z ▸ ha))
theorem finAt_fins {b : Bool} {ρ : Role} (h : ρ.Ok b) (s : Nat) : finAt ρ s ∈ FINS := by
  unfold finAt
  cases e : ρ.states[s]? with
  | none => simp [FINS]
  | some st => exact (h.states st (List.mem_of_getElem? e)).fin
theorem told_ok {b : Bool} {ρ : Role} (h : ρ.Ok b) {told : List Wd} (ht : ∀ e ∈ told, e = wd "dropped" ∨ e = wd "kept") (s : Nat) : ∀ e ∈ toldMore told (finAt ρ s), e = wd "dropped" ∨ e = wd "kept" := fun e m => by
  rcases toldMore_mem m with z | ⟨rfl, z⟩
  · exact ht e z
  · have := finAt_fins h s
    simp only [FINS, List.mem_cons, List.not_mem_nil, or_false] at this
    rcases this with q | q | q
    · exact .inr q
    · exact .inl q
    · rw [q] at z
      exact absurd rfl z
theorem mark_in {b : Bool} {ρ : Role} {st : State} {r : Rule} (h1 : st ∈ ρ.states) (h2 : r ∈ st.rules) (hm : r.mark.s ≠ ("" : Str)) : r.mark ∈ marksIn ρ := by
  unfold marksIn
  rw [srt_mem, dd_mem]
  obtain ⟨a, c, h⟩ := rulesOf_mem h1 h2
  exact List.mem_map.mpr ⟨_, List.mem_filter.mpr ⟨h, by simpa using hm⟩, rfl⟩
theorem send_in {p : Proto} {h : Nat} {st : State} {r : Rule} {s : Sd} (h1 : st ∈ (roleAt p h).states) (h2 : r ∈ st.rules) (hs : s ∈ r.sends) : s.1 ∈ kindsIn p := by
  unfold kindsIn
  rw [srt_mem, dd_mem]
  have key : s.1 ∈ kindsOf (roleAt p h) := by
    obtain ⟨a, c, m⟩ := rulesOf_mem h1 h2
    exact List.mem_flatMap.mpr ⟨_, m, List.mem_append_right _ (List.mem_map.mpr ⟨s, hs, rfl⟩)⟩
  unfold roleAt at key
  split at key
  · exact List.mem_append_left _ key
  · exact List.mem_append_right _ key
theorem mem_told {h n o : Nat} {r : Wd} (hn : 1 ≤ n) (m : o ∈ housesTold h n r) : o < n ∧ o ≠ h := by
  unfold housesTold at m
  split at m
  · obtain ⟨a, b⟩ := List.mem_filter.mp m
    have : o = 0 := by simpa using a
    exact ⟨by omega, by simpa using b⟩
  · obtain ⟨a, b⟩ := List.mem_filter.mp m
    obtain ⟨i, h1, h2⟩ := List.mem_range'.mp a
    exact ⟨by omega, by simpa using b⟩
theorem mem_lettersBy {h n : Nat} {r : Rule} {l : Letter} (m : l ∈ lettersBy h n r) : l.src = h ∧ ∃ s ∈ r.sends, l.kind = s.1 ∧ l.dst ∈ housesTold h n s.2 := by
  unfold lettersBy at m
  obtain ⟨s, hs, h2⟩ := List.mem_flatMap.mp m
  obtain ⟨o, ho, rfl⟩ := List.mem_map.mp h2
  exact ⟨rfl, s, hs, rfl, ho⟩
theorem sentMore_mem {sent ls : List Letter} {l : Letter} : l ∈ sentMore sent ls ↔ l ∈ sent ∨ l ∈ ls := by
  unfold sentMore
  split
  · rename_i h
    refine ⟨.inl, fun m => m.elim (fun z => z) fun z => ?_⟩
    by_cases q : l ∈ sent
    · exact q
    · have : l ∈ ls.filter fun l => !decide (l ∈ sent) := List.mem_filter.mpr ⟨z, by simpa using q⟩
      rw [h] at this
      cases this
  · rw [srt_mem, dd_mem, List.mem_append, List.mem_filter]
    refine ⟨fun m => m.elim .inl fun z => .inr z.1, fun m => m.elim .inl fun z => ?_⟩
    by_cases q : l ∈ sent
    · exact .inl q
    · exact .inr ⟨z, by simpa using q⟩
theorem sentMore_up {sent : List Letter} (h : Up Letter.d sent) (ls : List Letter) : Up Letter.d (sentMore sent ls) := by
  unfold sentMore
  split
  · exact h
  · exact kdL.up (dd_nodup _)
theorem ruledLog_mem {x : House} {r : Rule} {m : Wd} (h : m ∈ ruledLog x r) : m ∈ x.log ∨ (m = r.mark ∧ r.mark.s ≠ ("" : Str)) := by
  unfold ruledLog at h
  split at h
  · rename_i q
    rcases List.mem_append.mp h with z | z
    · exact .inl z
    · exact .inr ⟨by simpa using z, q.1⟩
  · exact .inl h
theorem ruledLog_nd {x : House} {r : Rule} (h : x.log.Nodup) : (ruledLog x r).Nodup := by
  unfold ruledLog
  split
  · rename_i q
    exact List.nodup_append.mpr ⟨h, by simp, fun a ha b hb => by rw [List.mem_singleton.mp hb]; exact fun z => q.2 (z ▸ ha)⟩
  · exact h
theorem ruledLog_len {x : House} {r : Rule} : x.log.length ≤ (ruledLog x r).length := by
  unfold ruledLog
  split
  · simp
  · exact Nat.le_refl _
/-- a house behind its own step keeps what houses keep -/
theorem houseDone_ok {p : Proto} {n : Nat} (hp : p.Ok) {sent : List Letter} (hs : ∀ l ∈ sent, l.src < n ∧ l.dst < n ∧ l.src ≠ l.dst ∧ l.kind ∈ kindsIn p) {h : Nat} {x : House} (ok : x.Ok p n h) {s : Step} (m : s ∈ stepsAt p n sent h x) : (houseDone p x s).Ok p n h := by
  obtain ⟨b, hb⟩ := hp.role h
  cases s with
  | rule k r =>
    obtain ⟨rfl, rule, r1, _, r3⟩ := step_rule m
    obtain ⟨st, st1, st2⟩ := rulesAt_mem r3
    have rok := (hb.states st st1).rules rule st2
    simp only [houseDone, r1]
    refine ⟨fun s e => ?_, ok.heard, ok.heardUp, fun a ha => ?_, ruledLog_nd ok.logNd, ?_, fun s e => ?_, told_ok hb ok.told _, toldMore_up ok.toldUp _, fun e => nomatch e⟩
    · cases e
      exact rok.goes
    · rcases ruledLog_mem ha with z | ⟨rfl, z⟩
      · exact ok.log a z
      · exact mark_in (b := b) st1 st2 z
    · show (if rule.forced = true then (ruledLog x rule).length else x.forced) ≤ (ruledLog x rule).length
      split
      · exact Nat.le_refl _
      · exact Nat.le_trans ok.forced ruledLog_len
    · have e : (if rule.cause = .able ∧ x.said = none then some x.log.length else x.said) = some s := e
      split at e
      · cases e
        exact nodup_bound ok.logNd ok.log
      · exact ok.said s e
  | hear k g kd =>
    obtain ⟨rfl, h1, h2, h3⟩ := step_hear m
    obtain ⟨a1, a2, a3, a4⟩ := hs _ h1
    refine ⟨ok.state, fun q hq => ?_, ?_, ok.log, ok.logNd, ok.forced, ok.said, ok.told, ok.toldUp, fun e => absurd e h3⟩
    · have hq : q ∈ srt hdD (x.heard ++ [(g, kd)]) := hq
      rw [srt_mem] at hq
      rcases List.mem_append.mp hq with z | z
      · exact ok.heard q z
      · have : q = (g, kd) := by simpa using z
        rw [this]
        exact ⟨a1, a3, a4⟩
    · refine kdH.up (List.nodup_append.mpr ⟨ok.heardUp.nodup, by simp, fun a ha c hc => ?_⟩)
      rw [List.mem_singleton.mp hc]
      exact fun z => h2 (z ▸ ha)
  | force k =>
    obtain ⟨rfl, h1, h3⟩ := step_force m
    exact ⟨ok.state, ok.heard, ok.heardUp, ok.log, ok.logNd, Nat.le_refl _, ok.said, ok.told, ok.toldUp, fun e => absurd e h3⟩
  | fall k l =>
    obtain ⟨rfl, h1, h2, h3⟩ := step_fall m
    refine ⟨(fun s e => nomatch e), (fun q hq => nomatch hq), List.Pairwise.nil, fun a ha => ok.log a (List.mem_of_mem_take ha), ok.logNd.sublist (List.take_sublist _ _), ?_, ok.said, ok.told, ok.toldUp, fun _ => ⟨rfl, rfl, ?_⟩⟩
    · show l ≤ (x.log.take l).length
      rw [List.length_take]
      omega
    · show l = (x.log.take l).length
      rw [List.length_take]
      omega
  | up k =>
    obtain ⟨rfl, h1⟩ := step_up m
    obtain ⟨d1, d2, d3⟩ := ok.down h1
    exact ⟨fun s e => by cases e; exact up_state hb ok.log, ok.heard, ok.heardUp, ok.log, ok.logNd, ok.forced, ok.said, told_ok hb ok.told _, toldMore_up ok.toldUp _, fun e => nomatch e⟩
theorem lettersOf_ok {p : Proto} {n : Nat} (hn : 1 ≤ n) {sent : List Letter} {h : Nat} (hh : h < n) {x : House} {s : Step} (m : s ∈ stepsAt p n sent h x) : ∀ l ∈ lettersOf p n x s, l.src = h ∧ l.dst < n ∧ l.src ≠ l.dst ∧ l.kind ∈ kindsIn p := fun l hl => by
  cases s with
  | rule k r =>
    obtain ⟨rfl, rule, r1, _, r3⟩ := step_rule m
    obtain ⟨st, st1, st2⟩ := rulesAt_mem r3
    simp only [lettersOf, r1] at hl
    obtain ⟨e1, sd, hsd, e2, e3⟩ := mem_lettersBy hl
    obtain ⟨d1, d2⟩ := mem_told hn e3
    exact ⟨e1, d1, by rw [e1]; exact fun z => d2 z.symm, by rw [e2]; exact send_in st1 st2 hsd⟩
  | _ => cases hl
theorem stepDone_ok {p : Proto} {n : Nat} (hp : p.Ok) {S : Standing} (ok : S.Ok p n) {s : Step} (m : s ∈ stepsOf p n S) : (stepDone p n S s).Ok p n := by
  obtain ⟨x, hx, hs⟩ := mem_stepsOf.mp m
  have hh : s.h < S.houses.length := (List.getElem?_eq_some_iff.mp hx).1
  have hn : s.h < n := ok.len ▸ hh
  have ha : houseAt S s.h = x := by
    unfold houseAt
    rw [hx]
    rfl
  unfold stepDone
  rw [ha]
  have xo := houseDone_ok hp ok.sent (ok.houses _ x hx) hs
  have lo := lettersOf_ok (p := p) (by omega) hn hs
  refine ⟨by show (S.houses.take s.h ++ [_] ++ S.houses.drop (s.h + 1)).length = n; rw [put_len hh, ok.len], fun j y e => ?_, fun l hl => ?_, sentMore_up ok.sentUp _⟩
  · have e : (S.houses.take s.h ++ [houseDone p x s] ++ S.houses.drop (s.h + 1))[j]? = some y := e
    rw [put_at hh] at e
    split at e
    · rename_i q
      cases e
      rw [q]
      exact xo
    · exact ok.houses j y e
  · rcases sentMore_mem.mp hl with z | z
    · exact ok.sent l z
    · obtain ⟨a1, a2, a3, a4⟩ := lo l z
      exact ⟨by rw [a1]; exact hn, a2, a3, a4⟩
theorem firstOf_ok {p : Proto} (hp : p.Ok) (n : Nat) : (firstOf p n).Ok p n := by
  refine ⟨by simp [firstOf], fun h x e => ?_, (fun l hl => by cases hl), List.Pairwise.nil⟩
  obtain ⟨k, hk, rfl⟩ := getElem_map_some (show ((List.range n).map fun h => firstHouse (roleAt p h))[h]? = some x from e)
  have e2 : k = h := by
    have := List.getElem?_eq_some_iff.mp hk
    obtain ⟨h1, h2⟩ := this
    rw [List.getElem_range] at h2
    exact h2.symm
  rw [e2]
  obtain ⟨b, hb⟩ := hp.role h
  exact ⟨(fun s e => by cases e; exact hb.pos), (fun q hq => by cases hq), List.Pairwise.nil, (fun m hm => by cases hm), List.nodup_nil, Nat.le_refl _, (fun s e => by cases e), told_ok hb (fun e he => by cases he) _, toldMore_up List.Pairwise.nil _, fun e => nomatch e⟩
/-- the row's standings -/
theorem runFrom_ok {p : Proto} {n : Nat} (hp : p.Ok) : ∀ (r : List Step) (S : Standing), S.Ok p n → ∀ S', runFrom p n S r = some S' → S'.Ok p n
  | [], S, ok, S', e => by cases e; exact ok
  | s :: r, S, ok, S', e => by
    unfold runFrom at e
    split at e
    · rename_i m
      exact runFrom_ok hp r _ (stepDone_ok hp ok m) S' e
    · cases e
theorem runFrom_app {p : Proto} {n : Nat} : ∀ (r r2 : List Step) (S : Standing), runFrom p n S (r ++ r2) = (runFrom p n S r).bind fun S' => runFrom p n S' r2
  | [], r2, S => rfl
  | s :: r, r2, S => by
    show (if s ∈ stepsOf p n S then runFrom p n (stepDone p n S s) (r ++ r2) else none) = ((if s ∈ stepsOf p n S then runFrom p n (stepDone p n S s) r else none).bind _)
    split
    · exact runFrom_app r r2 _
    · rfl
end K23

-- text C8
set_option Elab.async false
set_option linter.all false
set_option maxRecDepth 100000
set_option maxHeartbeats 2000000
namespace K23
open PySem PySem.Spec PyProof.Rows L2
theorem decide_shown {a b : Step} (ha : a ∈ STEPS) (hb : b ∈ STEPS) : decide (a.d.py.shown = b.d.py.shown) = decide (a = b) :=
  decide_eq_decide.mpr ⟨shown_inj ha hb, fun e => by rw [e]⟩
theorem Shown.step {s : Step} (h : s.Sm) : Shown s.d := shown_of (Sh.step h) (by decide)
theorem SOk.step {s : Step} (h : s.Sm) : SOk s.d.py.shown := ⟨(Sh.step h).tx⟩
def stepD (o : Option Step) : D := match o with
  | none => .non
  | some s => s.d
def standD (o : Option Standing) : D := match o with
  | none => .non
  | some s => s.d
theorem take_len {α : Type} (l : List α) : l.take l.length = l := List.take_of_length_le (Nat.le_refl _)
section
variable {P : Program} {w : World} {K : PySem.W.Frag} {mg : Str → Option Value} {base : Heap}
theorem w_step_like (T : Top K mg) : Fn P w K mg base 4 "step_like" ["protocol", "n", "standing", "thing"] (fun1 fun ds d => ∃ (p : Proto) (n : Nat) (S : Standing) (t : Step), ds = [p.d, .int n, S.d, t.d] ∧ n ≤ 4 ∧ p.Ok ∧ S.Ok p n ∧ t ∈ STEPS ∧ t.Sm ∧ d = stepD (if t ∈ stepsOf p n S then some t else none)) := by
  obtain ⟨f, fd, hm, F⟩ := T.e67
  have S : FnScope ["protocol", "n", "standing", "thing", "step"] ["protocol", "n", "standing", "thing"] (defScope s67) := ⟨rfl, rfl, rfl, by decide +kernel, rfl, by decide +kernel, by decide +kernel⟩
  refine fn_mk (k := 3) F hm S (F.bindsN (ps := ["protocol", "n", "standing", "thing"]) fun _ _ _ _ _ _ us hl => match us, hl with | [_, _, _, _], _ => rfl) (fun M ds P r => by obtain ⟨_, ⟨p, n, S0, t, rfl, hn, hp, hS, ht, hts, rfl⟩, rfl⟩ := r; rfl) ?_
  rintro cdv A fr s M _ _ H0 E su ⟨_, ⟨p, n, S0, t, rfl, hn, hp, hS, ht, hts, rfl⟩, rfl⟩ rt nx
  have nd := S.nd
  refine ST.norm (ds' := [_, _, _, _, _]) rfl ?_
  refine ST.toFact (φ := t ∉ (stepsOf p n S0).take 0) (by simp) ?_
  refine st_forS (φ := Step.d) (ys := stepsOf p n S0) (bie_lst (be_call (w_steps_of T) (su.mono (by decide)) (bae (be_var 0) (bae (be_var 1) (bae (be_var 2) ba_nil))) (⟨_, _, _, rfl, hn, hp, hS, rfl⟩))) (fun i => (M.at H0).fact (t ∉ (stepsOf p n S0).take i)) rfl (fun _ => rfl) ?_ ?_
  · rintro H1 i y hy
    have hm := List.mem_of_getElem? hy
    obtain ⟨m1, m2⟩ := mem_STEPS hS hp hn hm
    refine ⟨_, _, (bg_name (i := 4) nd), ?_⟩
    refine ST.norm (ds' := [_, _, _, _, _]) rfl ?_
    refine ST.fact fun hf => ?_
    have sh := Shown.step hts
    have shy := Shown.step m2
    have so1 := SOk.step hts
    have so2 := SOk.step m2
    refine st_ifE (q := decide (y = t)) (BT.is (BW.bt (bw_and (bte_val (be_isi T.f_isinstance T.f_tuple "tuple" (be_var 3) rfl)) fun _ => bw_and1 (tq_eqS su.u64 (be_repr su T.f_repr (be_var 4) shy) (be_repr su T.f_repr (be_var 3) sh)))) (by rw [decide_shown m1 ht]; rfl)) (fun c => ?_) fun c => ?_
    · have e : y = t := of_decide_eq_true c
      refine st_retE (be_var 4) (Ret.at (Ret.fact (rt _ ?_)))
      rw [← e, if_pos hm]
      rfl
    · have ne : y ≠ t := of_decide_eq_false c
      refine st_then (st_rchF ?_ rfl (by repeat first | exact Wk.nil | apply Wk.keep | apply Wk.drop))
      intro z
      rw [List.take_succ, hy] at z
      rcases List.mem_append.mp z with z | z
      · exact hf z
      · have z2 : t = y := by simpa using z
        exact ne z2.symm
  · intro H1
    refine ST.fact fun hf => ?_
    rw [take_len] at hf
    exact st_retE be_non (Ret.at (Ret.fact (rt _ (by rw [if_neg hf]; rfl))))
theorem w_standing_by (T : Top K mg) : Fn P w K mg base 5 "standing_by" ["protocol", "n", "thing"] (fun1 fun ds d => ∃ (p : Proto) (n : Nat) (r : List Step), ds = [p.d, .int n, .tup (r.map Step.d)] ∧ n ≤ 4 ∧ p.Ok ∧ (∀ t ∈ r, t ∈ STEPS ∧ t.Sm) ∧ d = standD (runFrom p n (firstOf p n) r)) := by
  obtain ⟨f, fd, hm, F⟩ := T.e68
  have S : FnScope ["protocol", "n", "thing", "standing", "own", "step"] ["protocol", "n", "thing"] (defScope s68) := ⟨rfl, rfl, rfl, by decide +kernel, rfl, by decide +kernel, by decide +kernel⟩
  refine fn_mk (k := 4) F hm S (F.bindsN (ps := ["protocol", "n", "thing"]) fun _ _ _ _ _ _ us hl => match us, hl with | [_, _, _], _ => rfl) (fun M ds P r => by obtain ⟨_, ⟨p, n, r, rfl, hn, hp, hr, rfl⟩, rfl⟩ := r; rfl) ?_
  rintro cdv A fr s M _ _ H0 E su ⟨_, ⟨p, n, r, rfl, hn, hp, hr, rfl⟩, rfl⟩ rt nx
  have nd := S.nd
  refine ST.norm (ds' := [_, _, _, _, _, _]) rfl ?_
  refine st_skip (BT.is (bt_not (bte_val (be_isi T.f_isinstance T.f_tuple "tuple" (be_var 2) rfl))) rfl) ?_
  refine st_set (i := 3) (hN := nd) (d := (firstOf p n).d) (be_call (w_first_of T) (su.mono (by decide)) (bae (be_var 0) (bae (be_var 1) ba_nil)) (⟨_, _, rfl, hn, hp, rfl⟩)) ?_
  refine ST.norm (ds' := [_, _, _, _, _, _]) rfl ?_
  let Si : Nat → Standing := fun i => (runFrom p n (firstOf p n) (r.take i)).getD (firstOf p n)
  refine ST.toFact (φ := runFrom p n (firstOf p n) (r.take 0) = some (Si 0)) rfl ?_
  refine st_forD (φ := Step.d) (ys := r) (bie_tup (be_var 2)) (fun i => (M.at H0).fact (runFrom p n (firstOf p n) (r.take i) = some (Si i))) (fun i => [some p.d, some (.int n), some (.tup (r.map Step.d)), some (Si i).d, none, none]) rfl rfl (fun _ => rfl) ?_ ?_
  · rintro H1 i y hy
    obtain ⟨y1, y2⟩ := hr y (List.mem_of_getElem? hy)
    refine ⟨_, _, (bg_name (i := 4) nd), ?_⟩
    refine ST.norm (ds' := [_, _, _, _, _, _]) rfl ?_
    refine ST.fact fun hf => ?_
    have ok := runFrom_ok hp _ _ (firstOf_ok hp n) _ hf
    have tk : r.take (i + 1) = r.take i ++ [y] := by rw [List.take_succ, hy]; rfl
    have nxt : runFrom p n (firstOf p n) (r.take (i + 1)) = if y ∈ stepsOf p n (Si i) then some (stepDone p n (Si i) y) else none := by
      rw [tk, runFrom_app, hf]
      rfl
    refine st_set (i := 5) (hN := nd) (d := stepD (if y ∈ stepsOf p n (Si i) then some y else none)) (be_call (w_step_like T) (su.mono (by decide)) (bae (be_var 0) (bae (be_var 1) (bae (be_var 3) (bae (be_var 4) ba_nil)))) (⟨_, _, _, _, rfl, hn, hp, ok, y1, y2, rfl⟩)) ?_
    refine ST.norm (ds' := [_, _, _, _, _, _]) rfl ?_
    by_cases hm : y ∈ stepsOf p n (Si i)
    · rw [if_pos hm] at nxt ⊢
      have eS : Si (i + 1) = stepDone p n (Si i) y := by
        show (runFrom p n (firstOf p n) (r.take (i + 1))).getD _ = _
        rw [nxt]
        rfl
      refine st_skip (BT.is (bt_isN (be_var 5) be_non) rfl) ?_
      refine st_set (i := 3) (hN := nd) (d := (Si (i + 1)).d) (BP.is (be_call (w_step_done T) (su.mono (by decide)) (bae (be_var 0) (bae (be_var 1) (bae (be_var 3) (bae (be_var 5) ba_nil)))) (⟨_, _, _, y, rfl, hn, hp, ok, hm, rfl⟩)) (by rw [eS])) ?_
      refine ST.norm (ds' := [_, _, _, _, _, _]) rfl ?_
      exact st_rchF (by rw [nxt, eS]) rfl (by repeat first | exact Wk.nil | apply Wk.keep | apply Wk.drop)
    · rw [if_neg hm] at nxt ⊢
      have none' : runFrom p n (firstOf p n) r = none := by
        rw [← List.take_append_drop (i + 1) r, runFrom_app, nxt]
        rfl
      exact st_take (BT.is (bt_isN (be_var 5) be_non) rfl) (st_retE be_non (Ret.at (Ret.fact (rt _ (by rw [none']; rfl)))))
  · intro H1
    refine ST.fact fun hf => ?_
    rw [take_len] at hf
    exact st_retE (be_var 3) (Ret.at (Ret.fact (rt _ (by rw [hf]; rfl))))
theorem w_is_row_standings (T : Top K mg) : Fn P w K mg base 9 "is_row_standings" ["protocol", "n", "thing"] (fun1 fun ds d => ∃ (p : Proto) (n : Nat) (r : List Step), ds = [p.d, .int n, .tup (r.map Step.d)] ∧ 1 ≤ n ∧ n ≤ 4 ∧ p.Ok ∧ (∀ t ∈ r, t ∈ STEPS ∧ t.Sm) ∧ d = .bl (runFrom p n (firstOf p n) r).isSome) := by
  obtain ⟨f, fd, hm, F⟩ := T.e79
  have S : FnScope ["protocol", "n", "thing"] ["protocol", "n", "thing"] (defScope s79) := ⟨rfl, rfl, rfl, by decide +kernel, rfl, by decide +kernel, by decide +kernel⟩
  refine fn_mk (k := 8) F hm S (F.bindsN (ps := ["protocol", "n", "thing"]) fun _ _ _ _ _ _ us hl => match us, hl with | [_, _, _], _ => rfl) (fun M ds P r => by obtain ⟨_, ⟨p, n, r, rfl, h1, hn, hp, hr, rfl⟩, rfl⟩ := r; rfl) ?_
  rintro cdv A fr s M _ _ H0 E su ⟨_, ⟨p, n, r, rfl, h1, hn, hp, hr, rfl⟩, rfl⟩ rt nx
  have nd := S.nd
  refine ST.norm (ds' := [_, _, _]) rfl ?_
  refine st_expr (be_call (w_need_both T) (su.mono (by decide)) (bae (be_var 0) (bae (be_var 1) ba_nil)) (⟨_, _, rfl, hp, h1, hn, rfl⟩)) ?_
  refine st_retE (be_notN (be_call (w_standing_by T) (su.mono (by decide)) (bae (be_var 0) (bae (be_var 1) (bae (be_var 2) ba_nil))) (⟨_, _, _, rfl, hn, hp, hr, rfl⟩)) be_non) (rt _ ?_)
  cases runFrom p n (firstOf p n) r <;> rfl
theorem w_standing_behind (T : Top K mg) : Fn P w K mg base 9 "standing_behind" ["protocol", "n", "steps"] (fun1 fun ds d => ∃ (p : Proto) (n : Nat) (r : List Step) (S : Standing), ds = [p.d, .int n, .tup (r.map Step.d)] ∧ 1 ≤ n ∧ n ≤ 4 ∧ p.Ok ∧ (∀ t ∈ r, t ∈ STEPS ∧ t.Sm) ∧ runFrom p n (firstOf p n) r = some S ∧ d = S.d) := by
  obtain ⟨f, fd, hm, F⟩ := T.e81
  have S : FnScope ["protocol", "n", "steps", "standing"] ["protocol", "n", "steps"] (defScope s81) := ⟨rfl, rfl, rfl, by decide +kernel, rfl, by decide +kernel, by decide +kernel⟩
  refine fn_mk (k := 8) F hm S (F.bindsN (ps := ["protocol", "n", "steps"]) fun _ _ _ _ _ _ us hl => match us, hl with | [_, _, _], _ => rfl) (fun M ds P r => by obtain ⟨_, ⟨p, n, r, S0, rfl, h1, hn, hp, hr, hS, rfl⟩, rfl⟩ := r; rfl) ?_
  rintro cdv A fr s M _ _ H0 E su ⟨_, ⟨p, n, r, S0, rfl, h1, hn, hp, hr, hS, rfl⟩, rfl⟩ rt nx
  have nd := S.nd
  refine ST.norm (ds' := [_, _, _, _]) rfl ?_
  refine st_expr (be_call (w_need_both T) (su.mono (by decide)) (bae (be_var 0) (bae (be_var 1) ba_nil)) (⟨_, _, rfl, hp, h1, hn, rfl⟩)) ?_
  refine st_set (i := 3) (hN := nd) (d := S0.d) (BP.is (be_call (w_standing_by T) (su.mono (by decide)) (bae (be_var 0) (bae (be_var 1) (bae (be_var 2) ba_nil))) (⟨_, _, _, rfl, hn, hp, hr, rfl⟩)) (by rw [hS]; rfl)) ?_
  refine ST.norm (ds' := [_, _, _, _]) rfl ?_
  exact st_skip (BT.is (bt_isN (be_var 3) be_non) rfl) (st_retE (be_var 3) (rt _ rfl))
end
end K23


-- text C9
set_option Elab.async false
set_option linter.all false
set_option maxRecDepth 100000
set_option maxHeartbeats 2000000
namespace K23
open PySem PySem.Spec PyProof.Rows L2
/-- the kinds of one rule -/
def kindsR (r : Rule) : List Wd := r.cause.kinds ++ r.sends.map (·.1)
theorem kindsOf_eq (ρ : Role) : kindsOf ρ = (rulesOf ρ).flatMap fun t => kindsR t.2.2 := rfl
theorem cause_items (c : Cause) : ∃ l, c.d = .tup l ∧ l.length = c.kinds.length + 1 := by
  cases c <;> exact ⟨_, rfl, rfl⟩
theorem kinds_bound {b : Bool} {ρ : Role} (h : ρ.Ok b) : (kindsOf ρ).length ≤ 72 * 5 := by
  rw [kindsOf_eq]
  have := fm_len (f := fun t : Nat × Nat × Rule => kindsR t.2.2) (l := rulesOf ρ) (c := 5) (fun t ht => by
    have ok := h.rule ht
    unfold kindsR
    rw [List.length_append, List.length_map]
    have := ok.len
    have : t.2.2.cause.kinds.length ≤ 1 := by cases t.2.2.cause <;> simp [Cause.kinds]
    omega) (rulesOf ρ).length
  rw [take_len] at this
  have := rulesOf_len h.small
  omega
section
variable {P : Program} {w : World} {K : PySem.W.Frag} {mg : Str → Option Value} {base : Heap}
theorem w_kinds_in (T : Top K mg) : Fn P w K mg base 2 "kinds_in" ["protocol"] (fun1 fun ds d => ∃ p : Proto, ds = [p.d] ∧ p.Ok ∧ d = .lst ((kindsIn p).map Wd.d)) := by
  obtain ⟨f, fd, hm, F⟩ := T.e41
  have S : FnScope ["protocol", "found", "role", "s", "r", "rule", "kind", "receiver"] ["protocol"] (defScope s41) := ⟨rfl, rfl, rfl, by decide +kernel, rfl, by decide +kernel, by decide +kernel⟩
  refine fn_mk (k := 1) F hm S (F.bindsN (ps := ["protocol"]) fun _ _ _ _ _ _ us hl => match us, hl with | [_], _ => rfl) (fun M ds P r => by obtain ⟨_, ⟨p, rfl, hp, rfl⟩, rfl⟩ := r; rfl) ?_
  rintro cdv A fr s M _ _ H0 E su ⟨_, ⟨p, rfl, hp, rfl⟩, rfl⟩ rt nx
  have nd := S.nd
  refine ST.norm (ds' := [_, _, _, _, _, _, _, _]) rfl ?_
  refine st_newDict (i := 1) (fun q nq => ?_) nd
  refine ST.norm (ds' := [_, _, _, _, _, _, _, _]) rfl ?_
  have lk := kinds_bound hp.leader
  have mk := kinds_bound hp.member
  have big : 72 * 5 + 72 * 5 + 100 < sizeLine := by decide
  refine st_forS (φ := Role.d) (ys := [p.leader, p.member]) (bie_tup (be_var 0)) (fun i => (M.at H0).dk q (dd (([p.leader, p.member].take i).flatMap kindsOf))) rfl (fun _ => rfl) ?_ ?_
  · rintro H1 i ρ hρ
    obtain ⟨b, hb, pre⟩ : ∃ b, ρ.Ok b ∧ (([p.leader, p.member].take i).flatMap kindsOf).length ≤ 72 * 5 := by
      match i, hρ with
      | 0, hρ => cases hρ; exact ⟨true, hp.leader, by simp⟩
      | 1, hρ => cases hρ; exact ⟨false, hp.member, by simpa using lk⟩
      | i + 2, hρ => simp at hρ
    have e := fm_next (f := kindsOf) hρ
    refine ⟨_, _, (bg_name (i := 2) nd), ?_⟩
    refine ST.norm (ds' := [_, _, _, _, _, _, _, _]) rfl ?_
    try dsimp only
    rw [e]
    generalize ([p.leader, p.member].take i).flatMap kindsOf = L at pre ⊢
    refine st_forS (φ := rulD) (ys := rulesOf ρ) (bie_lst (be_call (w_rules_of T) (su.mono (by decide)) (bae (be_var 2) ba_nil) (⟨_, rfl, hb.small, rfl⟩))) (fun j => ((M.at H0).dk q (dd (L ++ ((rulesOf ρ).take j).flatMap fun t => kindsR t.2.2))).at H1) (by simp) (fun _ => rfl) ?_ ?_
    · rintro H2 j t ht
      have rok := hb.rule (List.mem_of_getElem? ht)
      have e2 := fm_next (f := fun t : Nat × Nat × Rule => kindsR t.2.2) ht
      have pre2 : (((rulesOf ρ).take j).flatMap fun t => kindsR t.2.2).length ≤ 72 * 5 := by
        have := fm_len (f := fun t : Nat × Nat × Rule => kindsR t.2.2) (l := rulesOf ρ) (c := 5) (fun t ht => by
          have ok := hb.rule ht
          unfold kindsR
          rw [List.length_append, List.length_map]
          have := ok.len
          have : t.2.2.cause.kinds.length ≤ 1 := by cases t.2.2.cause <;> simp [Cause.kinds]
          omega) j
        have := rulesOf_len hb.small
        omega
      refine ⟨_, _, (bg_tup rfl (bgs_cons (bg_name (i := 3) nd) (bgs_cons (bg_name (i := 4) nd) (bgs_cons (bg_name (i := 5) nd) (bgs_nil)))) 3), ?_⟩
      refine ST.norm (ds' := [_, _, _, _, _, _, _, _]) rfl ?_
      try dsimp only
      rw [e2, ← List.append_assoc]
      have pl : (L ++ ((rulesOf ρ).take j).flatMap fun t => kindsR t.2.2).length ≤ 72 * 5 + 72 * 5 := by rw [List.length_append]; omega
      generalize (L ++ ((rulesOf ρ).take j).flatMap fun t => kindsR t.2.2) = L2 at pl ⊢
      obtain ⟨x1, x2, r⟩ := t
      have c1 : r.cause.kinds.length ≤ 1 := by cases r.cause <;> simp [Cause.kinds]
      unfold kindsR
      rw [← List.append_assoc]
      have lim : ∀ L3 : List Wd, L3.length ≤ 72 * 5 + 72 * 5 + 50 → (kv (dd L3)).length < sizeLine := fun L3 h => by
        rw [kv_len]
        exact Nat.lt_of_le_of_lt (Nat.le_trans (dd_len _) h) (by decide)
      have ci : decide ((r.cause.items.length : Int) = 2) = decide (r.cause.kinds ≠ []) := by cases r.cause <;> rfl
      have mu : ∀ (ks : List Wd) (k : Wd), MutO ((((M.at H0).dk q ks).at H1).at H2) ((((M.at H0).dk q (addD ks k)).at H1).at H2) q (dK (kv ks)) (dK (putK (kv ks) (Sum.inr k.s) (V.bl true))) := fun _ _ => (dk_mut nq).at.at
      refine st_ifM ((((M.at H0).dk q (dd (L2 ++ r.cause.kinds))).at H1).at H2) [some p.d, some (.adr q), some ρ.d, some (.int x1), some (.int x2), some r.d, none, none] (BT.is (tq_eqI su.u64 (be_len T.f_len (be_ix (be_var 5) be_int)) be_int) ci) (fun c => ?_) (fun c => ?_) ?_
      · have c2 : r.cause.kinds ≠ [] := of_decide_eq_true c
        obtain ⟨k, e3, e4⟩ : ∃ k, r.cause.kinds = [k] ∧ r.cause.items[1]? = some (.str k.s) := by
          cases hc : r.cause with
          | some k => exact ⟨k, rfl, rfl⟩
          | each k => exact ⟨k, rfl, rfl⟩
          | _ => rw [hc] at c2; exact absurd rfl c2
        rw [e3, dd_snoc]
        exact st_dput (b := Sum.inr k.s) (u := V.bl true) su.u64 (be_var 1) (be_ix (be_ix (be_var 5) be_int) be_int (at_nat e4)) be_bl (fun S H w i => by cases i; rfl) (mu _ _) (lim _ (by omega)) (st_rcm rfl (by repeat first | exact Wk.nil | apply Wk.keep | apply Wk.drop))
      · have c2 : r.cause.kinds = [] := by simpa using c
        rw [c2, List.append_nil]
        exact st_rcm rfl (by repeat first | exact Wk.nil | apply Wk.keep | apply Wk.drop)
      · have pl2 : (L2 ++ r.cause.kinds).length ≤ 72 * 5 + 72 * 5 + 1 := by rw [List.length_append]; omega
        generalize L2 ++ r.cause.kinds = L3 at pl2 ⊢
        refine st_forS (φ := sdD) (ys := r.sends) (bie_tup (be_ix (be_var 5) be_int)) (fun j => ((((M.at H0).dk q (dd (L3 ++ (r.sends.take j).map (·.1)))).at H1).at H2)) (by simp) (fun _ => rfl) ?_ ?_
        · rintro H3 j s hs
          have hj : j < r.sends.length := (List.getElem?_eq_some_iff.mp hs).1
          have tk : (r.sends.take (j + 1)).map (·.1) = (r.sends.take j).map (·.1) ++ [s.1] := by rw [List.take_succ, hs]; simp
          have l3 : r.sends.length ≤ 4 := rok.len
          refine ⟨_, _, (bg_tup rfl (bgs_cons (bg_name (i := 6) nd) (bgs_cons (bg_name (i := 7) nd) (bgs_nil))) 2), ?_⟩
          refine ST.norm (ds' := [_, _, _, _, _, _, _, _]) rfl ?_
          try dsimp only
          rw [tk, ← List.append_assoc, dd_snoc]
          exact st_dput (b := Sum.inr s.1.s) (u := V.bl true) su.u64 (be_var 1) (be_var 6) be_bl (fun S H w i => by cases i; rfl) (mu _ _).at (lim _ (by rw [List.length_append, List.length_map, List.length_take]; omega)) (st_rch rfl (by repeat first | exact Wk.nil | apply Wk.keep | apply Wk.drop))
        · intro H3
          rw [take_len]
          exact st_nil fun σ H en wm => ⟨en.weak (by repeat first | exact Wk.nil | apply Wk.keep | apply Wk.drop), wm.1⟩
    · intro H2
      rw [take_len]
      exact st_nil fun σ H en wm => ⟨en.weak (by repeat first | exact Wk.nil | apply Wk.keep | apply Wk.drop), wm.1⟩
  · intro H1
    rw [take_len]
    have ek : ([p.leader, p.member].flatMap kindsOf) = kindsOf p.leader ++ kindsOf p.member := by simp
    have so : Sortd ((((kv (dd ([p.leader, p.member].flatMap kindsOf)))).map (·.1)).map keyD) := by
      rw [kv_keys, List.map_map]
      exact kdW.sortd _
    refine st_retE (BP.is (be_sortedD su.u64 rfl T.f_sorted (bd_own dk_rd.at (be_var 1)) so) ?_) (Ret.at (Ret.own (rt _ rfl)))
    rw [kv_keys, List.map_map, ek]
    exact congrArg D.lst (sortD_map Wd.d _)
end
end K23


-- text C10
set_option Elab.async false
set_option linter.all false
set_option maxRecDepth 100000
set_option maxHeartbeats 2000000
namespace K23
open PySem PySem.Spec PyProof.Rows L2
/-- what is_rising asks -/
def RiseOk (l : List D) : Prop := l.length ≤ sizeLine ∧ ∀ q ∈ l.zip (l.drop 1), q.1.ok = true ∧ q.2.ok = true ∧ PySem.W.alike q.1.py q.2.py = true ∧ q.1.py ≠ .none ∧ q.1.dep ≤ 60 ∧ dlt q.1 q.2 = true
theorem zip_drop_up {α : Type} {f : α → D} : ∀ {l : List α}, Up f l → ∀ q ∈ l.zip (l.drop 1), dlt (f q.1) (f q.2) = true
  | [], _, q, h => by cases h
  | [x], _, q, h => by cases h
  | x :: y :: l, u, q, h => by
    have h : q ∈ (x, y) :: (y :: l).zip ((y :: l).drop 1) := h
    rcases List.mem_cons.mp h with z | z
    · rw [z]
      exact (List.pairwise_cons.mp u).1 y List.mem_cons_self
    · exact zip_drop_up (List.pairwise_cons.mp u).2 q z
theorem Kd.rise {α : Type} {f : α → D} (k : Kd f) {l : List α} (u : Up f l) (h : l.length ≤ sizeLine) : RiseOk (l.map f) := by
  refine ⟨by rw [List.length_map]; exact h, fun q hq => ?_⟩
  rw [← List.map_drop, List.zip_map] at hq
  obtain ⟨r, hr, rfl⟩ := List.mem_map.mp hq
  refine ⟨k.ok _, k.ok _, k.al _ _, ?_, k.dp _, zip_drop_up u r hr⟩
  show (f r.1).py ≠ .none
  rcases k.so with z | z
  · obtain ⟨x, t, e⟩ := z r.1
    rw [e]
    exact fun z => nomatch z
  · exact (z r.1).1
section
variable {P : Program} {w : World} {K : PySem.W.Frag} {mg : Str → Option Value} {base : Heap}
theorem w_is_rising (T : Top K mg) : Fn P w K mg base 1 "is_rising" ["some"] (fun1 fun ds d => ∃ l : List D, ds = [.tup l] ∧ RiseOk l ∧ d = .bl true) := by
  obtain ⟨f, fd, hm, F⟩ := T.e16
  have S : FnScope ["some", "one", "other"] ["some"] (defScope s16) := ⟨rfl, rfl, rfl, by decide +kernel, rfl, by decide +kernel, by decide +kernel⟩
  refine fn_mk (k := 0) F hm S (F.bindsN (ps := ["some"]) fun _ _ _ _ _ _ us hl => match us, hl with | [_], _ => rfl) (fun M ds P r => by obtain ⟨_, ⟨l, rfl, h, rfl⟩, rfl⟩ := r; rfl) ?_
  rintro cdv A fr s M _ _ H0 E su ⟨_, ⟨l, rfl, h, rfl⟩, rfl⟩ rt nx
  have nd := S.nd
  refine ST.norm (ds' := [_, _, _]) rfl ?_
  have key : zipD l (cutD l (some ((1 : Nat) : Int)) none) = (l.zip (l.drop 1)).map fun q => D.tup [q.1, q.2] := by
    rw [cutD_hi]
    have := zipD_map (fun d : D => d) (fun d : D => d) l (l.drop 1)
    rw [List.map_id', List.map_id'] at this
    exact this
  have hz : (l.zip (l.drop 1)).length ≤ sizeLine := by
    rw [List.length_zip]
    exact Nat.le_trans (Nat.min_le_left _ _) h.1
  refine st_retE (be_allM rfl T.f_all (be_map (φ := fun q : D × D => .tup [q.1, q.2]) (ys := l.zip (l.drop 1)) (f := fun q => .bl (dlt q.1 q.2)) (is := [1, 2]) (g := _) (own := [("one", 1), ("other", 2)]) ⟨rfl, nd, blkOk_by (N := ["some", "one", "other"]) (sc := defScope s16) (own := [("one", 1), ("other", 2)]) (by decide +kernel), by decide, fun y hy X' hX => by have su := hX.sur su; obtain ⟨_, _, _, _, _, rfl⟩ := hX.ex; exact bg_tup rfl (bgs_cons (bg_name (i := 1) nd) (bgs_cons (bg_name (i := 2) nd) (bgs_nil))) 2, fun y hy X' hX => by have su := hX.sur su; obtain ⟨_, _, _, _, _, rfl⟩ := hX.ex; exact bts_nil, fun y hy hk X' hX => by have su := hX.sur su; obtain ⟨_, _, _, _, _, rfl⟩ := hX.ex; exact be_ltD su.u64 (be_var 1) (be_var 2) (h.2 y hy).1 (h.2 y hy).2.1 (h.2 y hy).2.2.1 (h.2 y hy).2.2.2.1 (h.2 y hy).2.2.2.2.1, fun y d hy hk e => by subst e; exact Im.k⟩ (BI.is (bi_zip T.f_zip (be_var 0) (be_slT (be_var 0) (bo_some be_int) bo_none)) key) hz)) (rt _ (congrArg D.bl ?_))
  exact List.all_eq_true.mpr fun q hq => (h.2 q hq).2.2.2.2.2
theorem w_is_letter (T : Top K mg) : Fn P w K mg base 3 "is_letter" ["n", "kinds", "thing"] (fun1 fun ds d => ∃ (n : Nat) (ks : List Wd) (l : Letter), ds = [.int n, .lst (ks.map Wd.d), l.d] ∧ l.src < n ∧ l.dst < n ∧ l.src ≠ l.dst ∧ l.kind ∈ ks ∧ d = .bl true) := by
  obtain ⟨f, fd, hm, F⟩ := T.e69
  have S : FnScope ["n", "kinds", "thing"] ["n", "kinds", "thing"] (defScope s69) := ⟨rfl, rfl, rfl, by decide +kernel, rfl, by decide +kernel, by decide +kernel⟩
  refine fn_mk (k := 2) F hm S (F.bindsN (ps := ["n", "kinds", "thing"]) fun _ _ _ _ _ _ us hl => match us, hl with | [_, _, _], _ => rfl) (fun M ds P r => by obtain ⟨_, ⟨n, ks, l, rfl, h1, h2, h3, h4, rfl⟩, rfl⟩ := r; rfl) ?_
  rintro cdv A fr s M _ _ H0 E su ⟨_, ⟨n, ks, l, rfl, h1, h2, h3, h4, rfl⟩, rfl⟩ rt nx
  have nd := S.nd
  refine ST.norm (ds' := [_, _, _]) rfl ?_
  refine st_skip (BT.is (BW.bt (bw_or (bt_not (bte_val (be_call (w_is_row_looks T) (su.mono (by decide)) (bae (be_var 2) (bae be_int ba_nil)) (⟨_, _, rfl, rfl⟩)))) fun _ => bw_or (bt_not (bte_val (be_call (w_is_between T) (su.mono (by decide)) (bae (be_ix (be_var 2) be_int) (bae be_int (bae (be_sub (be_var 0) be_int) ba_nil))) (⟨_, _, _, rfl, rfl⟩)))) fun _ => bw_or1 (bt_not (bte_val (be_call (w_is_between T) (su.mono (by decide)) (bae (be_ix (be_var 2) be_int) (bae be_int (bae (be_sub (be_var 0) be_int) ba_nil))) (⟨_, _, _, rfl, rfl⟩)))))) (by simp; omega)) ?_
  refine st_retE (be_and (bq_neI su.u64 (be_ix (be_var 2) be_int) (be_ix (be_var 2) be_int)) fun _ => be_one (be_call (w_is_one_of T) (su.mono (by decide)) (bae (be_ix (be_var 2) be_int) (bae (be_var 1) ba_nil)) (⟨_, _, _, rfl, Gd.k, Gd.k, rfl, rfl⟩))) (rt _ (congrArg D.bl ?_))
  rw [has_Wd, decide_eq_true h4, nz, decide_eq_false h3]
  rfl
theorem w_are_heard (T : Top K mg) : Fn P w K mg base 4 "are_heard" ["h", "n", "kinds", "thing"] (fun1 fun ds d => ∃ (h n : Nat) (ks : List Wd) (l : List Hd), ds = [.int h, .int n, .lst (ks.map Wd.d), .tup (l.map hdD)] ∧ h < n ∧ (∀ q ∈ l, q.1 < n ∧ q.1 ≠ h ∧ q.2 ∈ ks) ∧ Up hdD l ∧ l.length ≤ 1000 ∧ d = .bl true) := by
  obtain ⟨f, fd, hm, F⟩ := T.e70
  have S : FnScope ["h", "n", "kinds", "thing", "pair"] ["h", "n", "kinds", "thing"] (defScope s70) := ⟨rfl, rfl, rfl, by decide +kernel, rfl, by decide +kernel, by decide +kernel⟩
  refine fn_mk (k := 3) F hm S (F.bindsN (ps := ["h", "n", "kinds", "thing"]) fun _ _ _ _ _ _ us hl => match us, hl with | [_, _, _, _], _ => rfl) (fun M ds P r => by obtain ⟨_, ⟨h, n, ks, l, rfl, hh, hq, hu, hl, rfl⟩, rfl⟩ := r; rfl) ?_
  rintro cdv A fr s M _ _ H0 E su ⟨_, ⟨h, n, ks, l, rfl, hh, hq, hu, hl, rfl⟩, rfl⟩ rt nx
  have nd := S.nd
  refine ST.norm (ds' := [_, _, _, _, _]) rfl ?_
  refine st_skip (BT.is (bt_not (bte_val (be_isi T.f_isinstance T.f_tuple "tuple" (be_var 3) rfl))) rfl) ?_
  refine st_forS (φ := hdD) (ys := l) (bie_tup (be_var 3)) (fun i => M.at H0) rfl (fun _ => rfl) ?_ ?_
  · rintro H1 i q hqi
    obtain ⟨a1, a2, a3⟩ := hq q (List.mem_of_getElem? hqi)
    refine ⟨_, _, (bg_name (i := 4) nd), ?_⟩
    refine ST.norm (ds' := [_, _, _, _, _]) rfl ?_
    exact st_skip (BT.is (BW.bt (bw_or (bt_not (bte_val (be_call (w_is_row_looks T) (su.mono (by decide)) (bae (be_var 4) (bae be_int ba_nil)) (⟨_, _, rfl, rfl⟩)))) fun _ => bw_or1 (bt_not (bte_val (be_call (w_is_letter T) (su.mono (by decide)) (bae (be_var 1) (bae (be_var 2) (bae (be_tup (bae (be_ix (be_var 4) be_int) (bae (be_var 0) (bae (be_ix (be_var 4) be_int) ba_nil)))) ba_nil))) (⟨_, _, ⟨q.1, h, q.2⟩, rfl, a1, hh, a2, a3, rfl⟩)))))) rfl) (st_rch rfl (by repeat first | exact Wk.nil | apply Wk.keep | apply Wk.drop))
  · intro H1
    exact st_retE (be_call (w_is_rising T) (su.mono (by decide)) (bae (be_var 3) ba_nil) (⟨_, rfl, kdH.rise hu (Nat.le_trans hl (by decide)), rfl⟩)) (Ret.at (rt _ rfl))
theorem w_is_log (T : Top K mg) : Fn P w K mg base 2 "is_log" ["marks", "thing"] (fun1 fun ds d => ∃ (ms l : List Wd), ds = [.lst (ms.map Wd.d), .tup (l.map Wd.d)] ∧ (∀ m ∈ l, m ∈ ms) ∧ l.Nodup ∧ l.length ≤ 1000 ∧ d = .bl true) := by
  obtain ⟨f, fd, hm, F⟩ := T.e71
  have S : FnScope ["marks", "thing", "mark"] ["marks", "thing"] (defScope s71) := ⟨rfl, rfl, rfl, by decide +kernel, rfl, by decide +kernel, by decide +kernel⟩
  refine fn_mk (k := 1) F hm S (F.bindsN (ps := ["marks", "thing"]) fun _ _ _ _ _ _ us hl => match us, hl with | [_, _], _ => rfl) (fun M ds P r => by obtain ⟨_, ⟨ms, l, rfl, h1, h2, h3, rfl⟩, rfl⟩ := r; rfl) ?_
  rintro cdv A fr s M _ _ H0 E su ⟨_, ⟨ms, l, rfl, h1, h2, h3, rfl⟩, rfl⟩ rt nx
  have nd := S.nd
  refine ST.norm (ds' := [_, _, _]) rfl ?_
  refine st_skip (BT.is (BW.bt (bw_or (bt_not (bte_val (be_isi T.f_isinstance T.f_tuple "tuple" (be_var 1) rfl))) fun _ => bw_or1 (bt_not (bte_val (be_allM rfl T.f_all (be_map (φ := Wd.d) (ys := l) (f := fun a => .bl (D.has (ms.map Wd.d) (.str a.s))) (is := [2]) (g := _) (own := [("mark", 2)]) ⟨rfl, nd, blkOk_by (N := ["marks", "thing", "mark"]) (sc := defScope s71) (own := [("mark", 2)]) (by decide +kernel), by decide, fun y hy X' hX => by have su := hX.sur su; obtain ⟨_, _, _, _, _, rfl⟩ := hX.ex; exact bg_name (i := 2) nd, fun y hy X' hX => by have su := hX.sur su; obtain ⟨_, _, _, _, _, rfl⟩ := hX.ex; exact bts_nil, fun y hy hk X' hX => by have su := hX.sur su; obtain ⟨_, _, _, _, _, rfl⟩ := hX.ex; exact be_call (w_is_one_of T) (su.mono (by decide)) (bae (be_var 2) (bae (be_var 0) ba_nil)) (⟨_, _, _, rfl, Gd.k, Gd.k, rfl, rfl⟩), fun y d hy hk e => by subst e; exact Im.k⟩ (bie_tup (be_var 1)) (Nat.le_trans h3 (by decide)))))))) ?_) ?_
  · have : (l.all fun a => D.has (ms.map Wd.d) (.str a.s)) = true := List.all_eq_true.mpr fun a ha => by rw [has_Wd]; exact decide_eq_true (h1 a ha)
    rw [this]
    rfl
  refine st_retE (bq_eqI su.u64 (be_lenD T.f_len (bd_dc (φ := Wd.d) (ys := l) (f := fun a => .inr a.s) (keep := fun _ => true) (is := [2]) (g := _) (own := [("mark", 2)]) ⟨rfl, nd, blkOk_by (N := ["marks", "thing", "mark"]) (sc := defScope s71) (own := [("mark", 2)]) (by decide +kernel), by decide, fun y hy X' hX => by have su := hX.sur su; obtain ⟨_, _, _, _, _, rfl⟩ := hX.ex; exact bg_name (i := 2) nd, fun y hy X' hX => by have su := hX.sur su; obtain ⟨_, _, _, _, _, rfl⟩ := hX.ex; exact bts_nil, fun y hy hk X' hX => by have su := hX.sur su; obtain ⟨_, _, _, _, _, rfl⟩ := hX.ex; exact be_var 2, fun y d hy hk e => by subst e; rfl⟩ (fun y hy X' hX => be_bl.imp fun _ _ => trivial) (bie_tup (be_var 1)) (Nat.le_trans h3 (by decide)))) (be_len T.f_len (be_var 1))) (rt _ (congrArg D.bl (decide_eq_true ?_)))
  rw [List.filter_eq_self.mpr fun _ _ => rfl, dd_map wk_inj, List.length_map, dd_id h2, List.length_map]
theorem w_are_told (T : Top K mg) : Fn P w K mg base 2 "are_told" ["thing"] (fun1 fun ds d => ∃ l : List Wd, ds = [.tup (l.map Wd.d)] ∧ (∀ e ∈ l, e = wd "dropped" ∨ e = wd "kept") ∧ Up Wd.d l ∧ l.length ≤ 1000 ∧ d = .bl true) := by
  obtain ⟨f, fd, hm, F⟩ := T.e72
  have S : FnScope ["thing", "end"] ["thing"] (defScope s72) := ⟨rfl, rfl, rfl, by decide +kernel, rfl, by decide +kernel, by decide +kernel⟩
  refine fn_mk (k := 1) F hm S (F.bindsN (ps := ["thing"]) fun _ _ _ _ _ _ us hl => match us, hl with | [_], _ => rfl) (fun M ds P r => by obtain ⟨_, ⟨l, rfl, h1, h2, h3, rfl⟩, rfl⟩ := r; rfl) ?_
  rintro cdv A fr s M _ _ H0 E su ⟨_, ⟨l, rfl, h1, h2, h3, rfl⟩, rfl⟩ rt nx
  have nd := S.nd
  refine ST.norm (ds' := [_, _]) rfl ?_
  refine st_retE (be_and (be_isi T.f_isinstance T.f_tuple "tuple" (be_var 0) rfl) fun _ => be_and (be_allM rfl T.f_all (be_map (φ := Wd.d) (ys := l) (f := fun a => .bl (D.has [.str "dropped", .str "kept"] (.str a.s))) (is := [1]) (g := _) (own := [("end", 1)]) ⟨rfl, nd, blkOk_by (N := ["thing", "end"]) (sc := defScope s72) (own := [("end", 1)]) (by decide +kernel), by decide, fun y hy X' hX => by have su := hX.sur su; obtain ⟨_, _, _, _, _, rfl⟩ := hX.ex; exact bg_name (i := 1) nd, fun y hy X' hX => by have su := hX.sur su; obtain ⟨_, _, _, _, _, rfl⟩ := hX.ex; exact bts_nil, fun y hy hk X' hX => by have su := hX.sur su; obtain ⟨_, _, _, _, _, rfl⟩ := hX.ex; exact be_call (w_is_one_of T) (su.mono (by decide)) (bae (be_var 1) (bae (be_tup (bae (be_gStr T.g_DROPPED) (bae (be_gStr T.g_KEPT) ba_nil))) ba_nil)) (⟨_, _, _, rfl, Gd.k, Gd.k, rfl, rfl⟩), fun y d hy hk e => by subst e; exact Im.k⟩ (bie_tup (be_var 0)) (Nat.le_trans h3 (by decide)))) fun _ => be_one (be_call (w_is_rising T) (su.mono (by decide)) (bae (be_var 0) ba_nil) (⟨_, rfl, kdW.rise h2 (Nat.le_trans h3 (by decide)), rfl⟩))) (rt _ (congrArg D.bl ?_))
  have : (l.all fun a => D.has [.str "dropped", .str "kept"] (.str a.s)) = true := List.all_eq_true.mpr fun a ha => by
    rcases h1 a ha with z | z <;> rw [z] <;> decide +kernel
  rw [this]
  rfl
end
end K23


-- text C11
set_option Elab.async false
set_option linter.all false
set_option maxRecDepth 100000
set_option maxHeartbeats 2000000
namespace K23
open PySem PySem.Spec PyProof.Rows L2
theorem onI_lo (o : Option Nat) : decide (-1 ≤ onI o) = true := by
  cases o with
  | none => rfl
  | some k => exact decide_eq_true (show (-1 : Int) ≤ (k : Int) by omega)
theorem onI_hi {o : Option Nat} {n : Int} (h : -1 ≤ n) (k : ∀ s, o = some s → (s : Int) ≤ n) : decide (onI o ≤ n) = true := by
  cases o with
  | none => exact decide_eq_true h
  | some s => exact decide_eq_true (k s rfl)
theorem onI_down (o : Option Nat) : decide (onI o = -1) = decide (o = none) := by
  cases o with
  | none => rfl
  | some k =>
    rw [show decide (onI (some k) = -1) = false from decide_eq_false (show ¬ (k : Int) = -1 by omega)]
    rfl
section
variable {P : Program} {w : World} {K : PySem.W.Frag} {mg : Str → Option Value} {base : Heap}
theorem w_is_house_of (T : Top K mg) : Fn P w K mg base 5 "is_house_of" ["protocol", "n", "h", "thing"] (fun1 fun ds d => ∃ (p : Proto) (n h : Nat) (x : House), ds = [p.d, .int n, .int h, x.d] ∧ p.Ok ∧ n ≤ 4 ∧ h < n ∧ x.Ok p n h ∧ d = .bl true) := by
  obtain ⟨f, fd, hm, F⟩ := T.e73
  have S : FnScope ["protocol", "n", "h", "thing", "role"] ["protocol", "n", "h", "thing"] (defScope s73) := ⟨rfl, rfl, rfl, by decide +kernel, rfl, by decide +kernel, by decide +kernel⟩
  refine fn_mk (k := 4) F hm S (F.bindsN (ps := ["protocol", "n", "h", "thing"]) fun _ _ _ _ _ _ us hl => match us, hl with | [_, _, _, _], _ => rfl) (fun M ds P r => by obtain ⟨_, ⟨p, n, h, x, rfl, hp, hn, hh, ok, rfl⟩, rfl⟩ := r; rfl) ?_
  rintro cdv A fr s M _ _ H0 E su ⟨_, ⟨p, n, h, x, rfl, hp, hn, hh, ok, rfl⟩, rfl⟩ rt nx
  have nd := S.nd
  refine ST.norm (ds' := [_, _, _, _, _]) rfl ?_
  obtain ⟨b, hb⟩ := hp.role h
  have pos := hb.pos
  have l60 := ok.heard60 hp hn
  have l15 := ok.log15 hp
  have l2 := ok.told2
  refine st_set (i := 4) (hN := nd) (d := (roleAt p h).d) (be_call (w_role_at T) (su.mono (by decide)) (bae (be_var 0) (bae (be_var 2) ba_nil)) (⟨_, _, rfl, rfl⟩)) ?_
  refine ST.norm (ds' := [_, _, _, _, _]) rfl ?_
  refine st_skip (BT.is (BW.bt (bw_or (bt_not (bte_val (be_call (w_is_row_looks T) (su.mono (by decide)) (bae (be_var 3) (bae be_int ba_nil)) (⟨_, _, rfl, rfl⟩)))) fun _ => bw_or1 (bt_not (bte_val (be_call (w_is_between T) (su.mono (by decide)) (bae (be_ix (be_var 3) be_int) (bae (be_gInt T.g_DOWN) (bae (be_sub (be_len T.f_len (be_ix (be_var 4) be_int)) be_int) ba_nil))) (⟨_, _, _, rfl, rfl⟩)))))) ?_) ?_
  · have e : decide (onI x.state ≤ (((roleAt p h).states.map State.d).length : Int) - 1) = true := onI_hi (by rw [List.length_map]; omega) fun s e => by
      have := ok.state s e
      rw [List.length_map]
      omega
    rw [onI_lo, e]
    rfl
  refine st_skip (BT.is (BW.bt (bw_or (bt_not (bte_val (be_call (w_are_heard T) (su.mono (by decide)) (bae (be_var 2) (bae (be_var 1) (bae (be_call (w_kinds_in T) (su.mono (by decide)) (bae (be_var 0) ba_nil) (⟨_, rfl, hp, rfl⟩)) (bae (be_ix (be_var 3) be_int) ba_nil)))) (⟨_, _, _, _, rfl, hh, ok.heard, ok.heardUp, by omega, rfl⟩)))) fun _ => bw_or1 (bt_not (bte_val (be_call (w_is_log T) (su.mono (by decide)) (bae (be_call (w_marks_in T) (su.mono (by decide)) (bae (be_var 4) ba_nil) (⟨_, rfl, hb.small, rfl⟩)) (bae (be_ix (be_var 3) be_int) ba_nil)) (⟨_, _, rfl, ok.log, ok.logNd, by omega, rfl⟩)))))) rfl) ?_
  refine st_skip (BT.is (BW.bt (bw_or (bt_not (bte_val (be_call (w_is_between T) (su.mono (by decide)) (bae (be_ix (be_var 3) be_int) (bae be_int (bae (be_len T.f_len (be_ix (be_var 3) be_int)) ba_nil))) (⟨_, _, _, rfl, rfl⟩)))) fun _ => bw_or (bt_not (bte_val (be_isi T.f_isinstance T.f_bool "bool" (be_ix (be_var 3) be_int) rfl))) fun _ => bw_or1 (bt_not (bte_val (be_isi T.f_isinstance T.f_bool "bool" (be_ix (be_var 3) be_int) rfl))))) ?_) ?_
  · have := ok.forced
    simp
    omega
  refine st_skip (BT.is (BW.bt (bw_or (bt_not (bte_val (be_call (w_is_between T) (su.mono (by decide)) (bae (be_ix (be_var 3) be_int) (bae (be_gInt T.g_NOT_SAID) (bae (be_len T.f_len (be_call (w_marks_in T) (su.mono (by decide)) (bae (be_var 4) ba_nil) (⟨_, rfl, hb.small, rfl⟩))) ba_nil))) (⟨_, _, _, rfl, rfl⟩)))) fun _ => bw_or1 (bt_not (bte_val (be_call (w_are_told T) (su.mono (by decide)) (bae (be_ix (be_var 3) be_int) ba_nil) (⟨_, rfl, ok.told, ok.toldUp, by omega, rfl⟩)))))) ?_) ?_
  · have e : decide (onI x.said ≤ (((marksIn (roleAt p h)).map Wd.d).length : Int)) = true := onI_hi (by omega) fun s e => by
      have := ok.said s e
      rw [List.length_map]
      omega
    rw [onI_lo, e]
    rfl
  refine st_retE (be_or (bq_neI su.u64 (be_ix (be_var 3) be_int) (be_gInt T.g_DOWN)) fun _ => be_one (be_and (bq_eq su.u64 (be_ix (be_var 3) be_int) (be_tup ba_nil)) fun _ => be_and (be_not (be_ix (be_var 3) be_int)) fun _ => be_one (bq_eqI su.u64 (be_ix (be_var 3) be_int) (be_len T.f_len (be_ix (be_var 3) be_int))))) (rt _ (congrArg D.bl ?_))
  rw [onI_down, eqv_nil]
  by_cases e : x.state = none
  · obtain ⟨d1, d2, d3⟩ := ok.down e
    rw [d1, d2, decide_eq_true e, List.length_map, decide_eq_true (by rw [d3])]
    rfl
  · rw [decide_eq_false e]
    rfl
theorem w_is_standing_value (T : Top K mg) : Fn P w K mg base 6 "is_standing_value" ["protocol", "n", "thing"] (fun1 fun ds d => ∃ (p : Proto) (n : Nat) (S : Standing), ds = [p.d, .int n, S.d] ∧ p.Ok ∧ n ≤ 4 ∧ S.Ok p n ∧ d = .bl true) := by
  obtain ⟨f, fd, hm, F⟩ := T.e74
  have S : FnScope ["protocol", "n", "thing", "letter", "h", "house"] ["protocol", "n", "thing"] (defScope s74) := ⟨rfl, rfl, rfl, by decide +kernel, rfl, by decide +kernel, by decide +kernel⟩
  refine fn_mk (k := 5) F hm S (F.bindsN (ps := ["protocol", "n", "thing"]) fun _ _ _ _ _ _ us hl => match us, hl with | [_, _, _], _ => rfl) (fun M ds P r => by obtain ⟨_, ⟨p, n, S0, rfl, hp, hn, ok, rfl⟩, rfl⟩ := r; rfl) ?_
  rintro cdv A fr s M _ _ H0 E su ⟨_, ⟨p, n, S0, rfl, hp, hn, ok, rfl⟩, rfl⟩ rt nx
  have nd := S.nd
  refine ST.norm (ds' := [_, _, _, _, _, _]) rfl ?_
  have s240 := ok.sent240 hp hn
  refine st_skip (BT.is (BW.bt (bw_or (bt_not (bte_val (be_call (w_is_row_looks T) (su.mono (by decide)) (bae (be_var 2) (bae be_int ba_nil)) (⟨_, _, rfl, rfl⟩)))) fun _ => bw_or (bt_not (bte_val (be_call (w_is_row_looks T) (su.mono (by decide)) (bae (be_ix (be_var 2) be_int) (bae (be_var 1) ba_nil)) (⟨_, _, rfl, rfl⟩)))) fun _ => bw_or1 (bt_not (bte_val (be_isi T.f_isinstance T.f_tuple "tuple" (be_ix (be_var 2) be_int) rfl))))) (by simp [ok.len])) ?_
  refine st_skip (BT.is (BW.bt (bw_or (bt_not (bte_val (be_allM rfl T.f_all (be_map (φ := Letter.d) (ys := S0.sent) (f := fun _ => .bl true) (is := [3]) (g := _) (own := [("letter", 3)]) ⟨rfl, nd, blkOk_by (N := ["protocol", "n", "thing", "letter", "h", "house"]) (sc := defScope s74) (own := [("letter", 3)]) (by decide +kernel), by decide, fun y hy X' hX => by have su := hX.sur su; obtain ⟨_, _, _, _, _, rfl⟩ := hX.ex; exact bg_name (i := 3) nd, fun y hy X' hX => by have su := hX.sur su; obtain ⟨_, _, _, _, _, rfl⟩ := hX.ex; exact bts_nil, fun y hy hk X' hX => by have su := hX.sur su; obtain ⟨_, _, _, _, _, rfl⟩ := hX.ex; exact be_call (w_is_letter T) (su.mono (by decide)) (bae (be_var 1) (bae (be_call (w_kinds_in T) (su.mono (by decide)) (bae (be_var 0) ba_nil) (⟨_, rfl, hp, rfl⟩)) (bae (be_var 3) ba_nil))) (⟨_, _, _, rfl, (ok.sent y hy).1, (ok.sent y hy).2.1, (ok.sent y hy).2.2.1, (ok.sent y hy).2.2.2, rfl⟩), fun y d hy hk e => by subst e; exact Im.k⟩ (bie_tup (be_ix (be_var 2) be_int)) (Nat.le_trans s240 (by decide)))))) fun _ => bw_or1 (bt_not (bte_val (be_call (w_is_rising T) (su.mono (by decide)) (bae (be_ix (be_var 2) be_int) ba_nil) (⟨_, rfl, kdL.rise ok.sentUp (Nat.le_trans s240 (by decide)), rfl⟩)))))) (by simp)) ?_
  have hy2 : ∀ y ∈ S0.houses.zipIdx, y.2 < n ∧ y.1.Ok p n y.2 := fun y hy => by
    have e := List.mem_zipIdx_iff_getElem?.mp hy
    have := (List.getElem?_eq_some_iff.mp e).1
    rw [ok.len] at this
    exact ⟨this, ok.houses _ _ e⟩
  exact st_retE (be_allM rfl T.f_all (be_map (φ := fun y : House × Nat => .tup [.int y.2, y.1.d]) (ys := S0.houses.zipIdx) (f := fun _ => .bl true) (is := [4, 5]) (g := _) (own := [("h", 4), ("house", 5)]) ⟨rfl, nd, blkOk_by (N := ["protocol", "n", "thing", "letter", "h", "house"]) (sc := defScope s74) (own := [("h", 4), ("house", 5)]) (by decide +kernel), by decide, fun y hy X' hX => by have su := hX.sur su; obtain ⟨_, _, _, _, _, rfl⟩ := hX.ex; exact bg_tup rfl (bgs_cons (bg_name (i := 4) nd) (bgs_cons (bg_name (i := 5) nd) (bgs_nil))) 2, fun y hy X' hX => by have su := hX.sur su; obtain ⟨_, _, _, _, _, rfl⟩ := hX.ex; exact bts_nil, fun y hy hk X' hX => by have su := hX.sur su; obtain ⟨_, _, _, _, _, rfl⟩ := hX.ex; exact be_call (w_is_house_of T) (su.mono (by decide)) (bae (be_var 0) (bae (be_var 1) (bae (be_var 4) (bae (be_var 5) ba_nil)))) (⟨_, _, _, _, rfl, hp, hn, (hy2 y hy).1, (hy2 y hy).2, rfl⟩), fun y d hy hk e => by subst e; exact Im.k⟩ (bie_enum T.f_enumerate (be_ix (be_var 2) be_int)) (by rw [List.length_zipIdx, ok.len]; exact Nat.le_trans hn (by decide)))) (rt _ (congrArg D.bl (by simp)))
theorem w_need_standing (T : Top K mg) : Fn P w K mg base 9 "need_standing" ["protocol", "n", "standing"] (fun1 fun ds d => ∃ (p : Proto) (n : Nat) (S : Standing), ds = [p.d, .int n, S.d] ∧ p.Ok ∧ 1 ≤ n ∧ n ≤ 4 ∧ S.Ok p n ∧ d = .non) := by
  obtain ⟨f, fd, hm, F⟩ := T.e76
  have S : FnScope ["protocol", "n", "standing"] ["protocol", "n", "standing"] (defScope s76) := ⟨rfl, rfl, rfl, by decide +kernel, rfl, by decide +kernel, by decide +kernel⟩
  refine fn_mk (k := 8) F hm S (F.bindsN (ps := ["protocol", "n", "standing"]) fun _ _ _ _ _ _ us hl => match us, hl with | [_, _, _], _ => rfl) (fun M ds P r => by obtain ⟨_, ⟨p, n, S0, rfl, hp, h1, hn, ok, rfl⟩, rfl⟩ := r; rfl) ?_
  rintro cdv A fr s M _ _ H0 E su ⟨_, ⟨p, n, S0, rfl, hp, h1, hn, ok, rfl⟩, rfl⟩ rt nx
  have nd := S.nd
  refine ST.norm (ds' := [_, _, _]) rfl ?_
  exact st_expr (be_call (w_need_both T) (su.mono (by decide)) (bae (be_var 0) (bae (be_var 1) ba_nil)) (⟨_, _, rfl, hp, h1, hn, rfl⟩)) (st_skip (BT.is (bt_not (bte_val (be_call (w_is_standing_value T) (su.mono (by decide)) (bae (be_var 0) (bae (be_var 1) (bae (be_var 2) ba_nil))) (⟨_, _, _, rfl, hp, hn, ok, rfl⟩)))) rfl) (st_nil fun σ H en w => nx σ H w rfl))
theorem w_steps_from (T : Top K mg) : Fn P w K mg base 10 "steps_from" ["protocol", "n", "standing"] (fun1 fun ds d => ∃ (p : Proto) (n : Nat) (S : Standing), ds = [p.d, .int n, S.d] ∧ p.Ok ∧ 1 ≤ n ∧ n ≤ 4 ∧ S.Ok p n ∧ d = .tup ((srt Step.d (stepsOf p n S)).map Step.d)) := by
  obtain ⟨f, fd, hm, F⟩ := T.e77
  have S : FnScope ["protocol", "n", "standing"] ["protocol", "n", "standing"] (defScope s77) := ⟨rfl, rfl, rfl, by decide +kernel, rfl, by decide +kernel, by decide +kernel⟩
  refine fn_mk (k := 9) F hm S (F.bindsN (ps := ["protocol", "n", "standing"]) fun _ _ _ _ _ _ us hl => match us, hl with | [_, _, _], _ => rfl) (fun M ds P r => by obtain ⟨_, ⟨p, n, S0, rfl, hp, h1, hn, ok, rfl⟩, rfl⟩ := r; rfl) ?_
  rintro cdv A fr s M _ _ H0 E su ⟨_, ⟨p, n, S0, rfl, hp, h1, hn, ok, rfl⟩, rfl⟩ rt nx
  have nd := S.nd
  refine ST.norm (ds' := [_, _, _]) rfl ?_
  have so := kdS.sortd (stepsOf p n S0)
  have szz : ((stepsOf p n S0).map Step.d).length ≤ sizeLine := by
    have a := fm_len (f := fun q : House × Nat => stepsAt p n S0.sent q.2 q.1) (l := S0.houses.zipIdx) (c := 300) (fun y hy => stepsAt_len hp (ok.sent240 hp hn) ((ok.houses y.2 y.1 (List.mem_zipIdx_iff_getElem?.mp hy)).log15 hp)) S0.houses.zipIdx.length
    rw [take_len, List.length_zipIdx, ok.len] at a
    rw [List.length_map]
    exact Nat.le_trans a (Nat.le_trans (Nat.mul_le_mul_right _ hn) (by decide))
  refine st_expr (be_call (w_need_standing T) (su.mono (by decide)) (bae (be_var 0) (bae (be_var 1) (bae (be_var 2) ba_nil))) (⟨_, _, _, rfl, hp, h1, hn, ok, rfl⟩)) ?_
  exact st_retE (be_tupleOf T.f_tuple (be_sorted su.u64 T.f_sorted (be_call (w_steps_of T) (su.mono (by decide)) (bae (be_var 0) (bae (be_var 1) (bae (be_var 2) ba_nil))) (⟨_, _, _, rfl, hn, hp, ok, rfl⟩)) so szz)) (rt _ (by rw [sortD_map]))
theorem w_behind (T : Top K mg) : Fn P w K mg base 10 "behind" ["protocol", "n", "standing", "step"] (fun1 fun ds d => ∃ (p : Proto) (n : Nat) (S : Standing) (s : Step), ds = [p.d, .int n, S.d, s.d] ∧ p.Ok ∧ 1 ≤ n ∧ n ≤ 4 ∧ S.Ok p n ∧ s ∈ stepsOf p n S ∧ d = (stepDone p n S s).d) := by
  obtain ⟨f, fd, hm, F⟩ := T.e78
  have S : FnScope ["protocol", "n", "standing", "step", "own"] ["protocol", "n", "standing", "step"] (defScope s78) := ⟨rfl, rfl, rfl, by decide +kernel, rfl, by decide +kernel, by decide +kernel⟩
  refine fn_mk (k := 9) F hm S (F.bindsN (ps := ["protocol", "n", "standing", "step"]) fun _ _ _ _ _ _ us hl => match us, hl with | [_, _, _, _], _ => rfl) (fun M ds P r => by obtain ⟨_, ⟨p, n, S0, s, rfl, hp, h1, hn, ok, hm, rfl⟩, rfl⟩ := r; rfl) ?_
  rintro cdv A fr s M _ _ H0 E su ⟨_, ⟨p, n, S0, s, rfl, hp, h1, hn, ok, hm, rfl⟩, rfl⟩ rt nx
  have nd := S.nd
  refine ST.norm (ds' := [_, _, _, _, _]) rfl ?_
  obtain ⟨m1, m2⟩ := mem_STEPS ok hp hn hm
  refine st_expr (be_call (w_need_standing T) (su.mono (by decide)) (bae (be_var 0) (bae (be_var 1) (bae (be_var 2) ba_nil))) (⟨_, _, _, rfl, hp, h1, hn, ok, rfl⟩)) ?_
  refine st_set (i := 4) (hN := nd) (d := s.d) (BP.is (be_call (w_step_like T) (su.mono (by decide)) (bae (be_var 0) (bae (be_var 1) (bae (be_var 2) (bae (be_var 3) ba_nil)))) (⟨_, _, _, _, rfl, hn, hp, ok, m1, m2, rfl⟩)) (by rw [if_pos hm]; rfl)) ?_
  refine ST.norm (ds' := [_, _, _, _, _]) rfl ?_
  exact st_skip (BT.is (bt_isN (be_var 4) be_non) rfl) (st_retE (be_call (w_step_done T) (su.mono (by decide)) (bae (be_var 0) (bae (be_var 1) (bae (be_var 2) (bae (be_var 4) ba_nil)))) (⟨_, _, _, _, rfl, hn, hp, ok, hm, rfl⟩)) (rt _ rfl))
end
end K23


-- text L1
set_option Elab.async false
set_option linter.all false
set_option maxRecDepth 100000
set_option maxHeartbeats 2000000
namespace K23
open PySem PySem.Spec PyProof.Rows L2
/-- the law's row of ends is the program's -/
theorem ends_eq {told : List Wd} (h : Up Wd.d told) (e : Wd) : (if e.s = ("" : Str) then told else srt Wd.d (dd (told ++ [e]))) = toldMore told e := by
  unfold toldMore
  by_cases c1 : e.s = ("" : Str)
  · rw [if_pos c1, if_pos (.inl c1)]
  · rw [if_neg c1]
    by_cases c2 : e ∈ told
    · rw [if_pos (.inr c2)]
      refine kdW.up_eq (kdW.up (dd_nodup _)) h fun a => ?_
      rw [srt_mem, dd_mem, List.mem_append, List.mem_singleton]
      exact ⟨fun z => z.elim (fun z => z) fun z => z ▸ c2, .inl⟩
    · rw [if_neg (fun z => z.elim c1 c2), dd_id (List.nodup_append.mpr ⟨h.nodup, by simp, fun a ha b hb => by rw [List.mem_singleton.mp hb]; exact fun z => c2 (z ▸ ha)⟩)]
theorem at_role (p : Proto) (h : Nat) : atI [p.leader.d, p.member.d] (if (1 : Int) < (h : Int) then 1 else (h : Int)) = some (roleAt p h).d := by
  rcases h with _ | _ | h
  · rfl
  · rfl
  · rw [if_pos (by omega)]
    rfl
section
variable {P : Program} {w : World} {K : PySem.W.Frag} {mg : Str → Option Value} {base : Heap}
theorem w__law_ends (T : Top K mg) : Fn P w K mg base 1 "_law_ends" ["_law_told", "_law_end"] (fun1 fun ds d => ∃ (told : List Wd) (e : Wd), ds = [.tup (told.map Wd.d), .str e.s] ∧ Up Wd.d told ∧ told.length ≤ 60 ∧ d = .tup ((toldMore told e).map Wd.d)) := by
  obtain ⟨f, fd, hm, F⟩ := T.e92
  have S : FnScope ["_law_told", "_law_end"] ["_law_told", "_law_end"] (defScope s92) := ⟨rfl, rfl, rfl, by decide +kernel, rfl, by decide +kernel, by decide +kernel⟩
  refine fn_mk (k := 0) F hm S (F.bindsN (ps := ["_law_told", "_law_end"]) fun _ _ _ _ _ _ us hl => match us, hl with | [_, _], _ => rfl) (fun M ds P r => by obtain ⟨_, ⟨told, e, rfl, hu, hl, rfl⟩, rfl⟩ := r; rfl) ?_
  rintro cdv A fr s M _ _ H0 E su ⟨_, ⟨told, e, rfl, hu, hl, rfl⟩, rfl⟩ rt nx
  have nd := S.nd
  refine ST.norm (ds' := [_, _]) rfl ?_
  have few : (told ++ [e]).length < 64 := by rw [List.length_append]; show told.length + 1 < 64; omega
  have sz : (told.map Wd.d).length + [Wd.d e].length ≤ sizeLine := by rw [List.length_map]; exact Nat.le_trans (Nat.add_le_add_right hl _) (by show 60 + 1 ≤ sizeLine; decide)
  refine st_retE (BP.is (be_if (tq_neS su.u64 (be_var 1) be_str) (fun _ => be_tupleOf T.f_tuple (be_sortedSet (l := told ++ [e]) (strSK P w) kdW wd_inj stW su.u64 rfl T.f_sorted T.f_set (BP.is (d' := .tup ((told ++ [e]).map Wd.d)) (be_catT (be_var 0) (be_tup (bae (be_var 1) ba_nil)) sz) (by rw [List.map_append]; rfl)) few)) (fun _ => be_var 0)) ?_) (rt _ rfl)
  rw [← ends_eq hu e]
  by_cases c : e.s = ("" : Str) <;> simp [c]
theorem w__law_first (T : Top K mg) : Fn P w K mg base 2 "_law_first" ["_law_protocol", "_law_n"] (fun1 fun ds d => ∃ (p : Proto) (n : Nat), ds = [p.d, .int n] ∧ n ≤ 4 ∧ p.Ok ∧ d = (firstOf p n).d) := by
  obtain ⟨f, fd, hm, F⟩ := T.e93
  have S : FnScope ["_law_protocol", "_law_n", "_law_houses", "_law_h"] ["_law_protocol", "_law_n"] (defScope s93) := ⟨rfl, rfl, rfl, by decide +kernel, rfl, by decide +kernel, by decide +kernel⟩
  refine fn_mk (k := 1) F hm S (F.bindsN (ps := ["_law_protocol", "_law_n"]) fun _ _ _ _ _ _ us hl => match us, hl with | [_, _], _ => rfl) (fun M ds P r => by obtain ⟨_, ⟨p, n, rfl, hn, hp, rfl⟩, rfl⟩ := r; rfl) ?_
  rintro cdv A fr s M _ _ H0 E su ⟨_, ⟨p, n, rfl, hn, hp, rfl⟩, rfl⟩ rt nx
  have nd := S.nd
  refine ST.norm (ds' := [_, _, _, _]) rfl ?_
  refine st_nl (i := 2) House.d (fun _ => Im.k) (fun q nq => ?_) nd
  refine ST.norm (ds' := [_, _, _, _]) rfl ?_
  refine st_forS (φ := natD) (ys := List.range n) (bie_rng1 T.f_range (be_var 1)) (fun i => (M.at H0).ls K q House.d (fun _ => Im.k) (((List.range n).take i).map fun h => firstHouse (roleAt p h))) rfl (fun _ => rfl) ?_ ?_
  · rintro H1 i h hh
    have hlt := (List.getElem?_eq_some_iff.mp hh).1
    rw [List.length_range] at hlt
    have tk : ((List.range n).take (i + 1)).map (fun h => firstHouse (roleAt p h)) = ((List.range n).take i).map (fun h => firstHouse (roleAt p h)) ++ [firstHouse (roleAt p h)] := by rw [List.take_succ, hh]; simp
    obtain ⟨b, hb⟩ := hp.role h
    have hpos := hb.pos
    obtain ⟨st, hst⟩ : ∃ st, (roleAt p h).states[0]? = some st := ⟨(roleAt p h).states[0], List.getElem?_eq_getElem hpos⟩
    have f1 : finAt (roleAt p h) 0 = st.fin := finAt_some hst
    refine ⟨_, _, (bg_name (i := 3) nd), ?_⟩
    refine ST.norm (ds' := [_, _, _, _]) rfl ?_
    try dsimp only
    rw [tk]
    refine st_app (i := 2) (a := firstHouse (roleAt p h)) (fun _ => Im.k) (BP.is (be_tup (bae be_int (bae (be_tup ba_nil) (bae (be_tup ba_nil) (bae be_int (bae be_bl (bae (be_neg be_int) (bae be_bl (bae (be_call (w__law_ends T) (su.mono (by decide)) (bae (be_tup ba_nil) (bae (be_ix (be_ix (be_ix (be_ix (be_var 0) (be_min2 rfl T.f_min (be_var 3) be_int) (at_role p h)) be_int) be_int (at_map (f := State.d) hst)) be_int) ba_nil)) (⟨[], st.fin, rfl, List.Pairwise.nil, by decide, rfl⟩)) ba_nil))))))))) ?_) (ls_mut nq).at (st_rch rfl (by repeat first | exact Wk.nil | apply Wk.keep | apply Wk.drop)) ?_
    · unfold firstHouse
      rw [f1]
      rfl
    · rw [List.length_map, List.length_take, List.length_range]
      have z : (4 : Nat) < sizeLine := by decide
      omega
  · intro H1
    rw [List.length_range, List.take_of_length_le (by rw [List.length_range]; exact Nat.le_refl _)]
    exact st_retE (be_tup (bae (be_tupleOfA ls_rd.at (imm_map (fun _ => Im.k) _) T.f_tuple (be_var 2)) (bae (be_tup ba_nil) ba_nil))) (Ret.at (Ret.push (rt _ rfl)))
theorem w__law_is_there (T : Top K mg) : Fn P w K mg base 1 "_law_is_there" ["_law_n", "_law_h", "_law_house", "_law_cause"] (fun1 fun ds d => ∃ (c : Cause) (h n : Nat) (x : House), ds = [.int n, .int h, x.d, c.d] ∧ n ≤ 4 ∧ d = .bl (isThere c h n x)) := by
  obtain ⟨f, fd, hm, F⟩ := T.e94
  have S : FnScope ["_law_n", "_law_h", "_law_house", "_law_cause", "_law_some", "_law_g"] ["_law_n", "_law_h", "_law_house", "_law_cause"] (defScope s94) := ⟨rfl, rfl, rfl, by decide +kernel, rfl, by decide +kernel, by decide +kernel⟩
  refine fn_mk (k := 0) F hm S (F.bindsN (ps := ["_law_n", "_law_h", "_law_house", "_law_cause"]) fun _ _ _ _ _ _ us hl => match us, hl with | [_, _, _, _], _ => rfl) (fun M ds P r => by obtain ⟨_, ⟨c, h, n, x, rfl, hn, rfl⟩, rfl⟩ := r; rfl) ?_
  rintro cdv A fr s M _ _ H0 E su ⟨_, ⟨c, h, n, x, rfl, hn, rfl⟩, rfl⟩ rt nx
  have nd := S.nd
  refine ST.norm (ds' := [_, _, _, _, _, _]) rfl ?_
  cases c with
  | able => exact st_take (BT.is (tq_eqS su.u64 (be_ix (be_var 3) be_int) be_str) (by decide +kernel)) (st_retE (be_ix (be_var 2) be_int) (rt _ rfl))
  | unable => exact st_skip (BT.is (tq_eqS su.u64 (be_ix (be_var 3) be_int) be_str) (by decide +kernel)) (st_take (BT.is (tq_in su.u64 (be_ix (be_var 3) be_int) (be_tup (bae be_str (bae be_str ba_nil)))) (by decide +kernel)) (st_retE be_bl (rt _ rfl)))
  | timer => exact st_skip (BT.is (tq_eqS su.u64 (be_ix (be_var 3) be_int) be_str) (by decide +kernel)) (st_take (BT.is (tq_in su.u64 (be_ix (be_var 3) be_int) (be_tup (bae be_str (bae be_str ba_nil)))) (by decide +kernel)) (st_retE be_bl (rt _ rfl)))
  | each k =>
    exact st_skip (BT.is (tq_eqS su.u64 (be_ix (be_var 3) be_int) be_str) (by decide +kernel)) (st_skip (BT.is (tq_in su.u64 (be_ix (be_var 3) be_int) (be_tup (bae be_str (bae be_str ba_nil)))) (by decide +kernel)) (st_setL (i := 4)  (φ := natD) (ys := List.range n) (f := fun o => .bl (decide ((o, k) ∈ x.heard))) (keep := fun o => !decide (o = h)) (is := [5]) (g := _) (own := [("_law_g", 5)]) ⟨rfl, nd, blkOk_by (N := ["_law_n", "_law_h", "_law_house", "_law_cause", "_law_some", "_law_g"]) (sc := defScope s94) (own := [("_law_g", 5)]) (by decide +kernel), by decide, fun y hy X' hX => by have su := hX.sur su; obtain ⟨_, _, _, _, _, rfl⟩ := hX.ex; exact bg_name (i := 5) nd, fun y hy X' hX => by have su := hX.sur su; obtain ⟨_, _, _, _, _, rfl⟩ := hX.ex; exact bts_one (BT.is (tq_neI su.u64 (be_var 5) (be_var 1)) (nz _ _)), fun y hy hk X' hX => by have su := hX.sur su; obtain ⟨_, _, _, _, _, rfl⟩ := hX.ex; exact bq_inK (t := (y, k)) kdH.inj kdH.nb su.u64 (be_tup (bae (be_var 5) (bae (be_ix (be_var 3) be_int) ba_nil))) (be_ix (be_var 2) be_int), fun y d hy hk e => by subst e; exact Im.k⟩ (bie_rng1 T.f_range (be_var 0)) (by rw [List.length_range]; exact Nat.le_trans hn (by decide)) (st_retE (BP.is (be_ifF (BT.is (tq_eqS su.u64 (be_ix (be_var 3) be_int) be_str) (by decide +kernel)) (bq_nin su.u64 be_bl (be_var 4))) (congrArg D.bl (has_false _ _))) (rt _ rfl))))
  | some k =>
    exact st_skip (BT.is (tq_eqS su.u64 (be_ix (be_var 3) be_int) be_str) (by decide +kernel)) (st_skip (BT.is (tq_in su.u64 (be_ix (be_var 3) be_int) (be_tup (bae be_str (bae be_str ba_nil)))) (by decide +kernel)) (st_setL (i := 4)  (φ := natD) (ys := List.range n) (f := fun o => .bl (decide ((o, k) ∈ x.heard))) (keep := fun o => !decide (o = h)) (is := [5]) (g := _) (own := [("_law_g", 5)]) ⟨rfl, nd, blkOk_by (N := ["_law_n", "_law_h", "_law_house", "_law_cause", "_law_some", "_law_g"]) (sc := defScope s94) (own := [("_law_g", 5)]) (by decide +kernel), by decide, fun y hy X' hX => by have su := hX.sur su; obtain ⟨_, _, _, _, _, rfl⟩ := hX.ex; exact bg_name (i := 5) nd, fun y hy X' hX => by have su := hX.sur su; obtain ⟨_, _, _, _, _, rfl⟩ := hX.ex; exact bts_one (BT.is (tq_neI su.u64 (be_var 5) (be_var 1)) (nz _ _)), fun y hy hk X' hX => by have su := hX.sur su; obtain ⟨_, _, _, _, _, rfl⟩ := hX.ex; exact bq_inK (t := (y, k)) kdH.inj kdH.nb su.u64 (be_tup (bae (be_var 5) (bae (be_ix (be_var 3) be_int) ba_nil))) (be_ix (be_var 2) be_int), fun y d hy hk e => by subst e; exact Im.k⟩ (bie_rng1 T.f_range (be_var 0)) (by rw [List.length_range]; exact Nat.le_trans hn (by decide)) (st_retE (BP.is (be_ifT (BT.is (tq_eqS su.u64 (be_ix (be_var 3) be_int) be_str) (by decide +kernel)) (bq_in su.u64 be_bl (be_var 4))) (congrArg D.bl (has_true _ _))) (rt _ rfl))))
theorem w__law_receivers (T : Top K mg) : Fn P w K mg base 1 "_law_receivers" ["_law_n", "_law_h", "_law_to"] (fun1 fun ds d => ∃ (h n : Nat) (r : Wd), ds = [.int n, .int h, .str r.s] ∧ 1 ≤ n ∧ n ≤ 4 ∧ d = .lst ((housesTold h n r).map natD)) := by
  obtain ⟨f, fd, hm, F⟩ := T.e95
  have S : FnScope ["_law_n", "_law_h", "_law_to", "_law_some", "_law_g"] ["_law_n", "_law_h", "_law_to"] (defScope s95) := ⟨rfl, rfl, rfl, by decide +kernel, rfl, by decide +kernel, by decide +kernel⟩
  refine fn_mk (k := 0) F hm S (F.bindsN (ps := ["_law_n", "_law_h", "_law_to"]) fun _ _ _ _ _ _ us hl => match us, hl with | [_, _, _], _ => rfl) (fun M ds P r => by obtain ⟨_, ⟨h, n, r, rfl, h1, hn, rfl⟩, rfl⟩ := r; rfl) ?_
  rintro cdv A fr s M _ _ H0 E su ⟨_, ⟨h, n, r, rfl, h1, hn, rfl⟩, rfl⟩ rt nx
  have nd := S.nd
  refine ST.norm (ds' := [_, _, _, _, _]) rfl ?_
  have e : D.lst ((if r.s = ("leader" : Str) then [0] else List.range' (if r.s = ("members" : Str) then 1 else 0) (n - if r.s = ("members" : Str) then 1 else 0)).map natD) = (if decide (r.s = ("leader" : Str)) = true then D.lst [.int 0] else if decide (r.s = ("members" : Str)) = true then .lst ((List.range' 1 (n - 1)).map natD) else .lst ((List.range n).map natD)) := by
    by_cases c1 : r.s = ("leader" : Str)
    · simp [c1, natD]
    · by_cases c2 : r.s = ("members" : Str)
      · rw [if_neg c1, if_pos c2, decide_eq_false c1, decide_eq_true c2]
        rfl
      · rw [if_neg c1, if_neg c2, decide_eq_false c1, decide_eq_false c2, List.range_eq_range']
        rfl
  refine st_set (i := 3) (hN := nd) (d := .lst ((if r.s = ("leader" : Str) then [0] else List.range' (if r.s = ("members" : Str) then 1 else 0) (n - if r.s = ("members" : Str) then 1 else 0)).map natD)) (BP.is (be_if (tq_eqS su.u64 (be_var 2) be_str) (fun _ => be_lst (bae be_int ba_nil)) (fun _ => be_if (tq_eqS su.u64 (be_var 2) be_str) (fun _ => be_listRng2 rfl T.f_list T.f_range (be_int (i := ((1 : Nat) : Int))) (be_var 0)) (fun _ => be_listRng1 rfl T.f_list T.f_range (be_var 0)))) e.symm) ?_
  refine ST.norm (ds' := [_, _, _, _, _]) rfl ?_
  refine st_retE (be_lc (φ := natD) (ys := (if r.s = ("leader" : Str) then [0] else List.range' (if r.s = ("members" : Str) then 1 else 0) (n - if r.s = ("members" : Str) then 1 else 0))) (f := natD) (keep := fun o => !decide (o = h)) (is := [4]) (g := _) (own := [("_law_g", 4)]) ⟨rfl, nd, blkOk_by (N := ["_law_n", "_law_h", "_law_to", "_law_some", "_law_g"]) (sc := defScope s95) (own := [("_law_g", 4)]) (by decide +kernel), by decide, fun y hy X' hX => by have su := hX.sur su; obtain ⟨_, _, _, _, _, rfl⟩ := hX.ex; exact bg_name (i := 4) nd, fun y hy X' hX => by have su := hX.sur su; obtain ⟨_, _, _, _, _, rfl⟩ := hX.ex; exact bts_one (BT.is (tq_neI su.u64 (be_var 4) (be_var 1)) (nz _ _)), fun y hy hk X' hX => by have su := hX.sur su; obtain ⟨_, _, _, _, _, rfl⟩ := hX.ex; exact be_var 4, fun y d hy hk e => by subst e; exact Im.k⟩ (bie_lst (be_var 3)) (by split; decide; rw [List.length_range']; exact Nat.le_trans (Nat.sub_le _ _) (Nat.le_trans hn (by decide)))) (rt _ ?_)
  unfold housesTold
  by_cases c1 : r.s = ("leader" : Str)
  · rw [if_pos c1, if_pos c1]
  · rw [if_neg c1, if_neg c1]
end
end K23


-- text L2
set_option Elab.async false
set_option linter.all false
set_option maxRecDepth 100000
set_option maxHeartbeats 2000000
namespace K23
open PySem PySem.Spec PyProof.Rows L2
/-- the law's order of what one house can do -/
def lawAt (p : Proto) (n : Nat) (sent : List Letter) (h : Nat) (x : House) : List Step := match x.state with
  | none => [.up h]
  | some _ => ((ruleSteps p n h x ++ hearSteps sent h x) ++ forceSteps h x) ++ fallSteps h x
theorem lawAt_perm (p : Proto) (n : Nat) (sent : List Letter) (h : Nat) (x : House) : (lawAt p n sent h x).Perm (stepsAt p n sent h x) := by
  unfold lawAt stepsAt
  cases x.state with
  | none => exact List.Perm.refl _
  | some s =>
    show (((ruleSteps p n h x ++ hearSteps sent h x) ++ forceSteps h x) ++ fallSteps h x).Perm (((ruleSteps p n h x ++ hearSteps sent h x) ++ fallSteps h x) ++ forceSteps h x)
    rw [List.append_assoc, List.append_assoc (ruleSteps p n h x ++ hearSteps sent h x)]
    exact List.Perm.append_left _ List.perm_append_comm
theorem flat_perm {α β : Type} {f g : α → List β} : ∀ l : List α, (∀ x, (f x).Perm (g x)) → (l.flatMap f).Perm (l.flatMap g)
  | [], _ => List.Perm.refl _
  | x :: l, h => by
    rw [List.flatMap_cons, List.flatMap_cons]
    exact (h x).append (flat_perm l h)
section
variable {P : Program} {w : World} {K : PySem.W.Frag} {mg : Str → Option Value} {base : Heap}
theorem w__law_steps (T : Top K mg) : Fn P w K mg base 2 "_law_steps" ["_law_protocol", "_law_n", "_law_standing"] (fun1 fun ds d => ∃ (p : Proto) (n : Nat) (S : Standing), ds = [p.d, .int n, S.d] ∧ n ≤ 4 ∧ p.Ok ∧ S.Ok p n ∧ d = .lst ((srt Step.d (stepsOf p n S)).map Step.d)) := by
  obtain ⟨f, fd, hm, F⟩ := T.e96
  have S : FnScope ["_law_protocol", "_law_n", "_law_standing", "_law_found", "_law_houses", "_law_sent", "_law_h", "_law_house", "_law_r", "_law_rule", "_law_g", "_law_to", "_law_kind", "_law_left"] ["_law_protocol", "_law_n", "_law_standing"] (defScope s96) := ⟨rfl, rfl, rfl, by decide +kernel, rfl, by decide +kernel, by decide +kernel⟩
  refine fn_mk (k := 1) F hm S (F.bindsN (ps := ["_law_protocol", "_law_n", "_law_standing"]) fun _ _ _ _ _ _ us hl => match us, hl with | [_, _, _], _ => rfl) (fun M ds P r => by obtain ⟨_, ⟨p, n, S0, rfl, hn, hp, hS, rfl⟩, rfl⟩ := r; rfl) ?_
  rintro cdv A fr s M _ _ H0 E su ⟨_, ⟨p, n, S0, rfl, hn, hp, hS, rfl⟩, rfl⟩ rt nx
  have nd := S.nd
  refine ST.norm (ds' := [_, _, _, _, _, _, _, _, _, _, _, _, _, _]) rfl ?_
  have s240 := hS.sent240 hp hn
  refine st_newFst (f := Step.d) (fun _ => Im.k) _ (fun q _ => (be_var 2)) (fun q _ => (bg_tup rfl (bgs_cons (bg_name (i := 3) nd) (bgs_cons (bg_tup rfl (bgs_cons (bg_name (i := 4) nd) (bgs_cons (bg_name (i := 5) nd) (bgs_nil))) 2) (bgs_nil))) 2)) fun q nq => ?_
  refine ST.norm (ds' := [_, _, _, _, _, _, _, _, _, _, _, _, _, _]) rfl ?_
  have hl15 : ∀ y ∈ S0.houses.zipIdx, y.1.log.length ≤ 15 := fun y hy => (hS.houses y.2 y.1 (List.mem_zipIdx_iff_getElem?.mp hy)).log15 hp
  have lawLen : ∀ y ∈ S0.houses.zipIdx, (lawAt p n S0.sent y.2 y.1).length ≤ 300 := fun y hy => by
    rw [(lawAt_perm p n S0.sent y.2 y.1).length_eq]
    exact stepsAt_len hp s240 (hl15 y hy)
  have size : ∀ i, ((S0.houses.zipIdx.take i).flatMap fun q => lawAt p n S0.sent q.2 q.1).length ≤ 4 * 300 := fun i => by
    have a := fm_len (f := fun q : House × Nat => lawAt p n S0.sent q.2 q.1) (l := S0.houses.zipIdx) (c := 300) lawLen i
    rw [List.length_zipIdx, hS.len] at a
    exact Nat.le_trans a (Nat.mul_le_mul_right _ hn)
  have big : 4 * 300 + 300 < sizeLine := by decide
  refine st_forS (φ := fun y : House × Nat => .tup [.int y.2, y.1.d]) (ys := S0.houses.zipIdx) (bie_enum T.f_enumerate (be_var 4)) (fun i => ((M.at H0).ls K q Step.d (fun _ => Im.k) ((S0.houses.zipIdx.take i).flatMap fun q => lawAt p n S0.sent q.2 q.1))) rfl (fun _ => rfl) ?_ ?_
  · rintro H1 i ⟨x, h⟩ hy
    have hm := List.mem_of_getElem? hy
    have hx : S0.houses[h]? = some x := List.mem_zipIdx_iff_getElem?.mp hm
    have hok := hS.houses h x hx
    have l15 := hok.log15 hp
    have sz0 := size i
    have e := fm_next (f := fun q : House × Nat => lawAt p n S0.sent q.2 q.1) hy
    refine ⟨_, _, (bg_tup rfl (bgs_cons (bg_name (i := 6) nd) (bgs_cons (bg_name (i := 7) nd) (bgs_nil))) 2), ?_⟩
    refine ST.norm (ds' := [_, _, _, _, _, _, _, _, _, _, _, _, _, _]) rfl ?_
    try dsimp only
    rw [e]
    generalize ((S0.houses.zipIdx.take i).flatMap fun q => lawAt p n S0.sent q.2 q.1) = L at sz0 ⊢
    have mu : ∀ L1 L2 : List Step, Mut K (((M.at H0).ls K q Step.d (fun _ => Im.k) L1).at H1) (((M.at H0).ls K q Step.d (fun _ => Im.k) (L1 ++ L2)).at H1) q (L1.map Step.d) (L1.map Step.d ++ L2.map Step.d) := fun _ _ => (ls_mut nq).at
    obtain ⟨sx, heard, log, forced, able, said, whole, told⟩ := x
    cases sx with
    | none =>
      refine st_take (BT.is (tq_eq su.u64 (be_ix (be_var 7) be_int) (be_neg be_int)) (onD_eqv none)) ?_
      refine st_app (i := 3) (a := Step.up h) (fun _ => Im.k) (be_tup (bae be_str (bae (be_var 6) ba_nil))) (mu _ _) ?_ (by omega)
      exact st_rchC rfl (by repeat first | exact Wk.nil | apply Wk.keep | apply Wk.drop)
    | some st =>
      have hst' := hok.state st rfl
      obtain ⟨sta, hst⟩ : ∃ sta, (roleAt p h).states[st]? = some sta := ⟨_, List.getElem?_eq_getElem hst'⟩
      have ra := rulesAt_some (p := p) (h := h) (x := ⟨some st, heard, log, forced, able, said, whole, told⟩) rfl hst
      generalize ex : (⟨some st, heard, log, forced, able, said, whole, told⟩ : House) = x at *
      have lr := rulesAt_len hp h x
      rw [ra] at lr
      have hs' := hearSteps_len S0.sent h x
      have fs := fallSteps_len h x
      have fo := forceSteps_len h x
      have rs := ruleSteps_len hp n h x
      have e2 : L ++ lawAt p n S0.sent h x = (((L ++ ruleSteps p n h x) ++ hearSteps S0.sent h x) ++ forceSteps h x) ++ fallSteps h x := by
        subst ex
        unfold lawAt
        simp only [List.append_assoc]
      rw [e2]
      have ll : x.log.length = log.length := by rw [← ex]
      have hx0 : x.d = .tup [onD (some st), .tup (heard.map hdD), .tup (log.map Wd.d), .int forced, .bl able, onD said, .bl whole, .tup (told.map Wd.d)] := by rw [← ex]; rfl
      have e0 : onD x.state = .int (st : Nat) := by rw [← ex]; rfl
      refine st_skip (BT.is (tq_eq su.u64 (be_ix (be_var 7) be_int) (be_neg be_int)) (by rw [← ex]; exact (onD_eqv (some st)).trans rfl)) ?_
      refine st_forS (φ := fun q : Rule × Nat => .tup [.int q.2, q.1.d]) (ys := sta.rules.zipIdx) (bie_enum T.f_enumerate (be_ix (be_ix (be_ix (be_ix (be_var 0) (be_min2 rfl T.f_min (be_var 6) be_int) (at_role p h)) be_int) (BP.is (be_ix (be_var 7) be_int) e0) (at_map (f := State.d) hst)) be_int)) (fun j => (((M.at H0).ls K q Step.d (fun _ => Im.k) (L ++ ((sta.rules.zipIdx.take j).filter fun q => isThere q.1.cause h n x).map fun q => Step.rule h q.2)).at H1)) (by simp) (fun _ => rfl) ?_ ?_
      · rintro H2 j ⟨r, k⟩ hr
        have hj : j < sta.rules.length := by
          have := (List.getElem?_eq_some_iff.mp hr).1
          rwa [List.length_zipIdx] at this
        have ft := filter_take_next (keep := fun q : Rule × Nat => isThere q.1.cause h n x) hr
        have lf : (((sta.rules.zipIdx.take j).filter fun q => isThere q.1.cause h n x).map fun q => Step.rule h q.2).length ≤ 6 := by
          rw [List.length_map]
          refine Nat.le_trans (List.length_filter_le _ _) ?_
          rw [List.length_take, List.length_zipIdx]
          omega
        refine ⟨_, _, (bg_tup rfl (bgs_cons (bg_name (i := 8) nd) (bgs_cons (bg_name (i := 9) nd) (bgs_nil))) 2), ?_⟩
        refine ST.norm (ds' := [_, _, _, _, _, _, _, _, _, _, _, _, _, _]) rfl ?_
        try dsimp only
        rw [ft]
        refine st_ifE (q := isThere r.cause h n x) (bte_val (be_call (w__law_is_there T) (su.mono (by decide)) (bae (be_var 1) (bae (be_var 6) (bae (be_var 7) (bae (be_ix (be_var 9) be_int) ba_nil)))) (⟨_, _, _, _, rfl, hn, rfl⟩))) (fun c => ?_) (fun c => ?_)
        · rw [if_pos c, List.map_append, ← List.append_assoc]
          refine st_app (i := 3) (a := Step.rule h k) (fun _ => Im.k) (be_tup (bae be_str (bae (be_var 6) (bae (be_var 8) ba_nil)))) (mu _ _).at ?_ (by rw [List.length_append]; omega)
          exact st_then (st_rch rfl (by repeat first | exact Wk.nil | apply Wk.keep | apply Wk.drop))
        · rw [if_neg (by rw [c]; exact Bool.false_ne_true)]
          exact st_then (st_rch rfl (by repeat first | exact Wk.nil | apply Wk.keep | apply Wk.drop))
      · intro H2
        have er : L ++ ((sta.rules.zipIdx.take sta.rules.zipIdx.length).filter fun q => isThere q.1.cause h n x).map (fun q => Step.rule h q.2) = L ++ ruleSteps p n h x := by
          rw [take_len]
          unfold ruleSteps
          rw [ra]
        rw [er]
        have mu2 : ∀ L1 L2 : List Step, Mut K ((((M.at H0).ls K q Step.d (fun _ => Im.k) L1).at H1).at H2) ((((M.at H0).ls K q Step.d (fun _ => Im.k) (L1 ++ L2)).at H1).at H2) q (L1.map Step.d) (L1.map Step.d ++ L2.map Step.d) := fun _ _ => (mu _ _).at
        refine st_ext (i := 3) (L2 := hearSteps S0.sent h x) (fun _ => Im.k) (BP.is (be_lc (φ := Letter.d) (ys := S0.sent) (f := fun l => .tup [.str "hear", .int h, .int l.src, .str l.kind.s]) (keep := fun l => decide (l.dst = h) && !decide ((l.src, l.kind) ∈ x.heard)) (is := [10, 11, 12]) (g := _) (own := [("_law_g", 10), ("_law_to", 11), ("_law_kind", 12)]) ⟨rfl, nd, blkOk_by (N := ["_law_protocol", "_law_n", "_law_standing", "_law_found", "_law_houses", "_law_sent", "_law_h", "_law_house", "_law_r", "_law_rule", "_law_g", "_law_to", "_law_kind", "_law_left"]) (sc := defScope s96) (own := [("_law_g", 10), ("_law_to", 11), ("_law_kind", 12)]) (by decide +kernel), by decide, fun y hy X' hX => by have su := hX.sur su; obtain ⟨_, _, _, _, _, rfl⟩ := hX.ex; exact bg_tup rfl (bgs_cons (bg_name (i := 10) nd) (bgs_cons (bg_name (i := 11) nd) (bgs_cons (bg_name (i := 12) nd) (bgs_nil)))) 3, fun y hy X' hX => by have su := hX.sur su; obtain ⟨_, _, _, _, _, rfl⟩ := hX.ex; exact bts_one (BT.is (BW.bt (bw_and (tq_eqI su.u64 (be_var 11) (be_var 6)) fun _ => bw_and1 (tq_ninK (t := (y.src, y.kind)) kdH.inj kdH.nb su.u64 (be_tup (bae (be_var 10) (bae (be_var 12) ba_nil))) (be_ix (be_var 7) be_int)))) (by rw [ez])), fun y hy hk X' hX => by have su := hX.sur su; obtain ⟨_, _, _, _, _, rfl⟩ := hX.ex; exact be_tup (bae be_str (bae (be_var 6) (bae (be_var 10) (bae (be_var 12) ba_nil)))), fun y d hy hk e => by subst e; exact Im.k⟩ (bie_tup (be_var 5)) (Nat.le_trans s240 (by decide))) (by unfold hearSteps; rw [List.map_map]; rfl)) (mu2 _ _) ?_ (by rw [List.length_append]; omega)
        refine st_ext (i := 3) (L2 := forceSteps h x) (fun _ => Im.k) (BP.is (be_if (bt_lt (be_ix (be_var 7) be_int) (be_len T.f_len (be_ix (be_var 7) be_int))) (fun _ => be_lst (bae (be_tup (bae be_str (bae (be_var 6) ba_nil))) ba_nil)) (fun _ => be_lst ba_nil)) (by
          unfold forceSteps
          rw [List.length_map, lz]
          by_cases c : x.forced < x.log.length
          · rw [if_pos (decide_eq_true c), if_pos c]; rfl
          · rw [if_neg (by simpa using c), if_neg c]; rfl)) (mu2 _ _) ?_ (by rw [List.length_append, List.length_append]; omega)
        have fz : x.forced < 2 ^ 62 := Nat.lt_of_le_of_lt hok.forced (Nat.lt_of_le_of_lt l15 (by decide))
        have lz' : x.log.length + 1 < 2 ^ 62 := Nat.lt_of_le_of_lt (Nat.succ_le_succ l15) (by decide)
        refine st_ext (i := 3) (L2 := fallSteps h x) (fun _ => Im.k) (BP.is (be_map (φ := natD) (ys := List.range' x.forced (x.log.length + 1 - x.forced)) (f := fun l => .tup [.str "fall", .int h, .int (l : Nat)]) (is := [13]) (g := _) (own := [("_law_left", 13)]) ⟨rfl, nd, blkOk_by (N := ["_law_protocol", "_law_n", "_law_standing", "_law_found", "_law_houses", "_law_sent", "_law_h", "_law_house", "_law_r", "_law_rule", "_law_g", "_law_to", "_law_kind", "_law_left"]) (sc := defScope s96) (own := [("_law_left", 13)]) (by decide +kernel), by decide, fun y hy X' hX => by have su := hX.sur su; obtain ⟨_, _, _, _, _, rfl⟩ := hX.ex; exact bg_name (i := 13) nd, fun y hy X' hX => by have su := hX.sur su; obtain ⟨_, _, _, _, _, rfl⟩ := hX.ex; exact bts_nil, fun y hy hk X' hX => by have su := hX.sur su; obtain ⟨_, _, _, _, _, rfl⟩ := hX.ex; exact be_tup (bae be_str (bae (be_var 6) (bae (be_var 13) ba_nil))), fun y d hy hk e => by subst e; exact Im.k⟩ (bie_rng2 T.f_range (be_ix (be_var 7) be_int) (BP.is (d' := .int ((x.log.length + 1 : Nat) : Int)) (be_add (be_len T.f_len (be_ix (be_var 7) be_int)) be_int) (by rw [List.length_map]; rfl))) (by rw [List.length_range']; omega)) (by unfold fallSteps; rw [List.map_map]; rfl)) (mu2 _ _) ?_ (by rw [List.length_append, List.length_append, List.length_append]; omega)
        exact st_nil fun σ H en wm => ⟨en.weak (by repeat first | exact Wk.nil | apply Wk.keep | apply Wk.drop), wm.1⟩
  · intro H1
    rw [take_len]
    have pm : ((S0.houses.zipIdx.flatMap fun q => lawAt p n S0.sent q.2 q.1)).Perm (stepsOf p n S0) := flat_perm _ fun q => lawAt_perm p n S0.sent q.2 q.1
    have so := kdS.sortd (S0.houses.zipIdx.flatMap fun q => lawAt p n S0.sent q.2 q.1)
    have lim : (((S0.houses.zipIdx.flatMap fun q => lawAt p n S0.sent q.2 q.1)).map Step.d).length ≤ sizeLine := by
      have := size S0.houses.zipIdx.length
      rw [take_len] at this
      rw [List.length_map]
      omega
    refine st_retE (be_sortedA ls_rd.at (imm_map (fun _ => Im.k) _) su.u64 T.f_sorted (be_var 3) so lim) (Ret.at (Ret.push (rt _ ?_)))
    rw [sortD_map, kdS.srt_eq pm]
end
end K23


-- text A27
set_option Elab.async false
set_option linter.all false
set_option maxRecDepth 100000
set_option maxHeartbeats 2000000
namespace K23
open PySem PySem.Spec PyProof.Rows L2

/-! ## 40. a dict of pairs, made anew -/
theorem putK_new {κ : Type} [DecidableEq κ] {kvs : List (κ × V)} {k : κ} {v : V} (h : k ∉ kvs.map (·.1)) : putK kvs k v = kvs ++ [(k, v)] := by
  unfold putK
  rw [if_neg]
  intro z
  obtain ⟨p, hp, e⟩ := List.any_eq_true.mp z
  exact h (List.mem_map.mpr ⟨p, hp, of_decide_eq_true e⟩)
theorem merge_nd : ∀ (more kvs : List (Key × V)), ((kvs ++ more).map (·.1)).Nodup → mergeK kvs more = kvs ++ more
  | [], kvs, _ => by rw [List.append_nil]; rfl
  | p :: more, kvs, h => by
    have h1 : p.1 ∉ kvs.map (·.1) := by
      rw [List.map_append, List.map_cons] at h
      intro z
      exact (List.nodup_append.mp h).2.2 _ z _ List.mem_cons_self rfl
    show mergeK (putK kvs p.1 p.2) more = _
    rw [putK_new h1, merge_nd more (kvs ++ [(p.1, p.2)]) (by rw [List.append_assoc]; exact h), List.append_assoc]
    rfl
def upsV (l : List UpP) : List (Key × V) := l.map fun q => (Sum.inr q.1.s, V.int (q.2 : Nat))
theorem upsV_keys (l : List UpP) : (upsV l).map (·.1) = (l.map (·.1)).map fun a : Wd => (Sum.inr a.s : Key) := by
  unfold upsV
  rw [List.map_map, List.map_map]
  rfl
theorem upsV_nd {l : List UpP} (h : (l.map (·.1)).Nodup) : ((upsV l).map (·.1)).Nodup := by
  rw [upsV_keys]
  exact List.pairwise_map.mpr (h.imp fun n e => n (wd_inj _ _ (by simpa using e)))
theorem upsV_at : ∀ {l : List UpP} {q : UpP}, (l.map (·.1)).Nodup → q ∈ l → valV (upsV l) (Sum.inr q.1.s) = some (.int (q.2 : Nat))
  | [], q, _, h => by cases h
  | x :: l, q, nd, h => by
    unfold valV upsV
    rw [List.map_cons, List.find?_cons]
    by_cases c : x.1 = q.1
    · have : x = q := by
        rcases List.mem_cons.mp h with z | z
        · exact z.symm
        · exact absurd (c ▸ List.mem_map.mpr ⟨q, z, rfl⟩ : x.1 ∈ l.map (·.1)) (by rw [List.map_cons] at nd; exact (List.nodup_cons.mp nd).1)
      rw [this]
      simp
    · rw [show decide ((Sum.inr x.1.s : Key) = Sum.inr q.1.s) = false from decide_eq_false fun z => c (wd_inj _ _ (by simpa using z))]
      rcases List.mem_cons.mp h with z | z
      · exact absurd (by rw [z]) c
      · exact upsV_at (List.nodup_cons.mp nd).2 z
def tDN (K : PySem.W.Frag) (M : Md) (ds : List (Option D)) (kvs : List (Key × V)) : TE := fun σ H Q =>
  En K M.S H σ ds ∧ M.W H ∧ ∀ p H1, Ex M.S H H1 → M.W H1 → ¬ M.S p → ¬ M.dep p → H1 p = some (.dK kvs) → Q (.ref p) H1
structure BDN (X : Cx) (M : Md) (ds : List (Option D)) (e : Expr) (kvs : List (Key × V)) : Prop where
  pe : PE X e (tDN X.K M ds kvs)
section
variable {X : Cx} {M : Md} {ds : List (Option D)} {e k : Expr} {p pos : Pos}
theorem pairs_ups {K : PySem.W.Frag} {S : Addr → Prop} {H : Hp} : ∀ {l : List UpP} {vs : List V}, Iss K S H vs (l.map upD) → ∃ ps : List Addr, vs = ps.map V.ref ∧ Paired (fun p (kv : Key × V) => SqT K H p [kV kv.1, kv.2]) ps (upsV l)
  | [], _, h => by cases h; exact ⟨[], rfl, .nil⟩
  | x :: l, _, h => by
    cases h with
    | cons i t =>
      obtain ⟨ps, e, r⟩ := pairs_ups t
      cases i with
      | tup h1 h2 =>
        rename_i a xs
        obtain ⟨v, u, rfl, i1, i2⟩ := h2.two
        cases i1
        cases i2
        exact ⟨a :: ps, by rw [e]; rfl, .cons (.of h1) r⟩
/-- dict(xs) of pairs (mark, state), no mark twice -/
theorem bdn_dict {l : List UpP} (hc : X.calm = true) (hm : X.mg "dict" = none) (ha : BE X M ds e (.lst (l.map upD))) (nd : (l.map (·.1)).Nodup) (hg : Gl X "dict" := by rfl) (he : starEach [e] X.env = (false, eval e X.env) :: starEach [] X.env := by rfl) (hpl : (backTo pos (starEach [] X.env)).any (·.1) = false := by rfl) :
    BDN X M ds (.Call (.Name "dict" p) [e] [] pos) (upsV l) :=
  ⟨PE.imp (pe_callTy (call_dictP hc) hg hm (by decide +kernel) (bae ha ba_nil he).pa (by decide) (by decide) he hpl) fun σ H Q ⟨en, w, kk⟩ => ⟨en, w, fun ls vs H1 pl e1 w1 i1 => by
    rw [pl] at i1
    obtain ⟨v, rfl, i2⟩ := i1.one
    cases i2 with
    | lst h1 hS h2 =>
      obtain ⟨ps, rfl, r⟩ := pairs_ups h2
      refine ⟨_, ps, upsV l, rfl, .of h1, r, fun t nt => ?_⟩
      rw [merge_nd (upsV l) [] (by rw [List.nil_append]; exact upsV_nd nd), List.nil_append]
      exact kk t _ (e1.trans (Ex.new nt)) (Md.new w1 nt) (Md.freeS w1 nt) (Md.free w1 nt) upd_same⟩⟩
theorem be_dnGet {kvs : List (Key × V)} {b : Key} {u : V} {du : D} (hu : X.A.units + 64 < cLine) (ha : BDN X M ds e kvs) (hk : BE X M ds k (keyD b)) (hv : valV kvs b = some u) (iu : ∀ S H, Is X.K S H u du) (hs : NoSl k := by exact fun _ _ => rfl) : BE X M ds (.Subscript e k pos) du :=
  .of (pe_dget (by omega) ha.pe hk.pe hs) fun σ H Q en w kk => ⟨en, w, fun q H1 e1 w1 nS _ h1 => ⟨en.mono e1 fun _ z => z, w1, fun d2 v2 H2 p2 e2 w2 i2 => by
    subst p2
    exact ⟨q, u, rfl, by rw [i2.key, ← hv]; exact DGet.k (e2.old q _ h1 nS), kk du u H2 rfl (e1.trans e2) w2 (iu _ _)⟩⟩⟩
end
end K23

-- text L3
set_option Elab.async false
set_option linter.all false
set_option maxRecDepth 100000
set_option maxHeartbeats 2000000
namespace K23
open PySem PySem.Spec PyProof.Rows L2
theorem ups_nd {b : Bool} {ρ : Role} (h : ρ.Ok b) : (ρ.ups.map (·.1)).Nodup := by
  rw [h.marks]
  refine List.nodup_cons.mpr ⟨fun z => w0_names (marksIn_names h z), ?_⟩
  exact (kdW.up (dd_nodup _)).nodup
theorem ups_at {b : Bool} {ρ : Role} (h : ρ.Ok b) {log : List Wd} (hl : ∀ m ∈ log, m ∈ marksIn ρ) : valV (upsV ρ.ups) (Sum.inr (lastOf log).s) = some (.int (stateUp ρ log : Nat)) := by
  obtain ⟨q, hq, e⟩ := up_there h hl
  have hm : q ∈ ρ.ups.filter fun q => decide (q.1.s = (lastOf log).s) := List.mem_filter.mpr ⟨hq, decide_eq_true (by rw [e])⟩
  cases f : ρ.ups.filter fun q => decide (q.1.s = (lastOf log).s) with
  | nil => rw [f] at hm; cases hm
  | cons x l =>
    have hx : x ∈ ρ.ups.filter fun q => decide (q.1.s = (lastOf log).s) := by rw [f]; exact List.mem_cons_self
    obtain ⟨h1, h2⟩ := List.mem_filter.mp hx
    have u := upsV_at (ups_nd h) h1
    rw [of_decide_eq_true h2] at u
    rw [u]
    unfold stateUp
    rw [f]
    rfl
section
variable {P : Program} {w : World} {K : PySem.W.Frag} {mg : Str → Option Value} {base : Heap}
theorem w__law_house_behind (T : Top K mg) : Fn P w K mg base 3 "_law_house_behind" ["_law_protocol", "_law_n", "_law_house", "_law_step"] (fun1 fun ds d => ∃ (p : Proto) (n : Nat) (sent : List Letter) (x : House) (s : Step), ds = [p.d, .int n, x.d, s.d] ∧ p.Ok ∧ 1 ≤ n ∧ n ≤ 4 ∧ x.Ok p n s.h ∧ s ∈ stepsAt p n sent s.h x ∧ d = .tup [(houseDone p x s).d, .lst ((lettersOf p n x s).map Letter.d)]) := by
  obtain ⟨f, fd, hm, F⟩ := T.e97
  have S : FnScope ["_law_protocol", "_law_n", "_law_house", "_law_step", "_law_h", "_law_state", "_law_heard", "_law_log", "_law_forced", "_law_able", "_law_said", "_law_whole", "_law_told", "_law_sends", "_law_states", "_law_ups", "_law_cause", "_law_mark", "_law_is_forced", "_law_letters", "_law_kind", "_law_to", "_law_g"] ["_law_protocol", "_law_n", "_law_house", "_law_step"] (defScope s97) := ⟨rfl, rfl, rfl, by decide +kernel, rfl, by decide +kernel, by decide +kernel⟩
  refine fn_mk (k := 2) F hm S (F.bindsN (ps := ["_law_protocol", "_law_n", "_law_house", "_law_step"]) fun _ _ _ _ _ _ us hl => match us, hl with | [_, _, _, _], _ => rfl) (fun M ds P r => by obtain ⟨_, ⟨p, n, sent, x, s, rfl, hp, h1, hn, ok, hs, rfl⟩, rfl⟩ := r; rfl) ?_
  rintro cdv A fr s M _ _ H0 E su ⟨_, ⟨p, n, sent, x, s, rfl, hp, h1, hn, ok, hs, rfl⟩, rfl⟩ rt nx
  have nd := S.nd
  refine ST.norm (ds' := [_, _, _, _, _, _, _, _, _, _, _, _, _, _, _, _, _, _, _, _, _, _, _]) rfl ?_
  have l15 := ok.log15 hp
  have l2 := ok.told2
  have l60 := ok.heard60 hp hn
  obtain ⟨b, hb⟩ := hp.role s.h
  have s1 : atI s.items 1 = some (.int s.h) := by cases s <;> rfl
  refine st_newThd (f := Letter.d) (fun _ => Im.k) _ (be_ix (be_var 3) be_int s1) (be_var 2) (fun q _ => (bg_tup rfl (bgs_cons (bg_name (i := 4) nd) (bgs_cons (bg_tup rfl (bgs_cons (bg_name (i := 5) nd) (bgs_cons (bg_name (i := 6) nd) (bgs_cons (bg_name (i := 7) nd) (bgs_cons (bg_name (i := 8) nd) (bgs_cons (bg_name (i := 9) nd) (bgs_cons (bg_name (i := 10) nd) (bgs_cons (bg_name (i := 11) nd) (bgs_cons (bg_name (i := 12) nd) (bgs_nil))))))))) 8) (bgs_cons (bg_name (i := 13) nd) (bgs_nil)))) 3)) rfl Im.k fun q nq => ?_
  refine ST.norm (ds' := [_, _, _, _, _, _, _, _, _, _, _, _, _, _, _, _, _, _, _, _, _, _, _]) rfl ?_
  refine st_unpack (be_ix (be_var 0) (be_min2 rfl T.f_min (be_var 4) be_int) (at_role p s.h)) (bg_tup rfl (bgs_cons (bg_name (i := 14) nd) (bgs_cons (bg_name (i := 15) nd) (bgs_nil))) 2) ?_
  refine ST.norm (ds' := [_, _, _, _, _, _, _, _, _, _, _, _, _, _, _, _, _, _, _, _, _, _, _]) rfl ?_
  cases s with
  | rule h r =>
    obtain ⟨_, rule, r1, _, r3⟩ := step_rule hs
    obtain ⟨st0, st1, st2⟩ := rulesAt_mem r3
    replace r1 : ruleAt p h x r = some rule := r1
    have rok := (hb.states st0 st1).rules rule st2
    simp only [houseDone, lettersOf, r1] at rt
    obtain ⟨s0, hs0, st, hst, hr⟩ : ∃ s0, x.state = some s0 ∧ ∃ st : State, (roleAt p h).states[s0]? = some st ∧ st.rules[r]? = some rule := by
      unfold ruleAt rulesAt at r1
      cases hx : x.state with
      | none => rw [hx] at r1; simp at r1
      | some s0 =>
        rw [hx] at r1
        cases hst : (roleAt p h).states[s0]? with
        | none => simp [hst] at r1
        | some st => exact ⟨s0, rfl, st, hst, by simpa [hst] using r1⟩
    obtain ⟨st3, hst3⟩ : ∃ st, (roleAt p h).states[rule.goes]? = some st := ⟨_, List.getElem?_eq_getElem rok.goes⟩
    have e0 : onD x.state = .int (s0 : Nat) := by rw [hs0]; rfl
    refine st_skip (BT.is (tq_eqS su.u64 (be_ix (be_var 3) be_int) be_str) (by decide +kernel)) ?_
    refine st_skip (BT.is (tq_eqS su.u64 (be_ix (be_var 3) be_int) be_str) (by decide +kernel)) ?_
    refine st_skip (BT.is (tq_eqS su.u64 (be_ix (be_var 3) be_int) be_str) (by decide +kernel)) ?_
    refine st_skip (BT.is (tq_eqS su.u64 (be_ix (be_var 3) be_int) be_str) (by decide +kernel)) ?_
    refine st_unpack (be_ix (be_ix (be_ix (be_var 14) (BP.is (be_var 5) e0) (at_map (f := State.d) hst)) be_int) (be_ix (be_var 3) be_int) (at_map (f := Rule.d) hr)) (bg_tup rfl (bgs_cons (bg_name (i := 16) nd) (bgs_cons (bg_name (i := 17) nd) (bgs_cons (bg_name (i := 18) nd) (bgs_cons (bg_name (i := 19) nd) (bgs_cons (bg_name (i := 5) nd) (bgs_nil)))))) 5) ?_
    refine ST.norm (ds' := [_, _, _, _, _, _, _, _, _, _, _, _, _, _, _, _, _, _, _, _, _, _, _]) rfl ?_
    refine st_set (i := 10) (hN := nd) (d := onD (if rule.cause = .able ∧ x.said = none then some x.log.length else x.said)) (BP.is (be_if (BW.bt (bw_and (tq_eq su.u64 (be_var 16) (be_tup (bae be_str ba_nil))) fun _ => bw_and1 (tq_eqI su.u64 (be_var 10) (be_neg be_int)))) (fun _ => be_len T.f_len (be_var 7)) (fun _ => be_var 10)) (by
      rw [cause_able, onI_down, List.length_map]
      by_cases c1 : rule.cause = .able <;> by_cases c2 : x.said = none <;> simp [c1, c2, onD, onI])) ?_
    have sz : (x.log.map Wd.d).length + [Wd.d rule.mark].length ≤ sizeLine := by rw [List.length_map]; exact Nat.le_trans (Nat.add_le_add_right l15 _) (by show 15 + 1 ≤ sizeLine; decide)
    refine st_set (i := 7) (hN := nd) (d := .tup ((ruledLog x rule).map Wd.d)) (BP.is (be_if (BW.bt (bw_and (tq_neS su.u64 (be_var 17) be_str) fun _ => bw_and1 (tq_ninK kdW.inj kdW.nb su.u64 (be_var 17) (be_var 7)))) (fun _ => be_catT (be_var 7) (be_tup (bae (be_var 17) ba_nil)) (by first | decide | assumption | (simp [PySem.sizeLine]; done) | omega)) (fun _ => be_var 7)) (by
      unfold ruledLog
      by_cases c1 : rule.mark.s = ("" : Str) <;> by_cases c2 : rule.mark ∈ x.log <;> simp [c1, c2, Wd.d])) ?_
    have tl : ∀ y : Sd, (housesTold h n y.2).length ≤ 4 := fun y => by
      unfold housesTold
      split
      · exact Nat.le_trans (List.length_filter_le _ _) (by decide)
      · refine Nat.le_trans (List.length_filter_le _ _) ?_
        rw [List.length_range']
        omega
    have big : 16 + 16 < sizeLine := by decide
    refine st_forS (φ := sdD) (ys := rule.sends) (bie_tup (be_var 19)) (fun i => (M.at H0).ls K q Letter.d (fun _ => Im.k) ((rule.sends.take i).flatMap fun s => (housesTold h n s.2).map fun o => (⟨h, o, s.1⟩ : Letter))) rfl (fun _ => rfl) ?_ ?_
    · rintro H1 i y hy
      have e := fm_next (f := fun s : Sd => (housesTold h n s.2).map fun o => (⟨h, o, s.1⟩ : Letter)) hy
      have zl := fm_len (f := fun s : Sd => (housesTold h n s.2).map fun o => (⟨h, o, s.1⟩ : Letter)) (l := rule.sends) (c := 4) (fun y _ => by rw [List.length_map]; exact tl y) i
      have zr := rok.len
      have z2 : ((housesTold h n y.2).map fun o => (⟨h, o, y.1⟩ : Letter)).length ≤ 4 := by rw [List.length_map]; exact tl y
      have z3 := tl y
      refine ⟨_, _, (bg_tup rfl (bgs_cons (bg_name (i := 20) nd) (bgs_cons (bg_name (i := 21) nd) (bgs_nil))) 2), ?_⟩
      refine ST.norm (ds' := [_, _, _, _, _, _, _, _, _, _, _, _, _, _, _, _, _, _, _, _, _, _, _]) rfl ?_
      try dsimp only
      rw [e]
      refine st_ext (i := 13) (L2 := (housesTold h n y.2).map fun o => (⟨h, o, y.1⟩ : Letter)) (fun _ => Im.k) (BP.is (be_map (φ := natD) (ys := housesTold h n y.2) (f := fun o => .tup [.int h, .int (o : Nat), .str y.1.s]) (is := [22]) (g := _) (own := [("_law_g", 22)]) ⟨rfl, nd, blkOk_by (N := ["_law_protocol", "_law_n", "_law_house", "_law_step", "_law_h", "_law_state", "_law_heard", "_law_log", "_law_forced", "_law_able", "_law_said", "_law_whole", "_law_told", "_law_sends", "_law_states", "_law_ups", "_law_cause", "_law_mark", "_law_is_forced", "_law_letters", "_law_kind", "_law_to", "_law_g"]) (sc := defScope s97) (own := [("_law_g", 22)]) (by decide +kernel), by decide, fun y hy X' hX => by have su := hX.sur su; obtain ⟨_, _, _, _, _, rfl⟩ := hX.ex; exact bg_name (i := 22) nd, fun y hy X' hX => by have su := hX.sur su; obtain ⟨_, _, _, _, _, rfl⟩ := hX.ex; exact bts_nil, fun y hy hk X' hX => by have su := hX.sur su; obtain ⟨_, _, _, _, _, rfl⟩ := hX.ex; exact be_tup (bae (be_var 4) (bae (be_var 22) (bae (be_var 20) ba_nil))), fun y d hy hk e => by subst e; exact Im.k⟩ (bie_lst (be_call (w__law_receivers T) (su.mono (by decide)) (bae (be_var 1) (bae (be_var 4) (bae (be_var 21) ba_nil))) (⟨_, _, _, rfl, h1, hn, rfl⟩))) (by omega)) (by rw [List.map_map]; rfl)) (ls_mut nq).at (st_rch rfl (by repeat first | exact Wk.nil | apply Wk.keep | apply Wk.drop)) (by omega)
    · intro H1
      rw [take_len]
      refine st_retE (d := .tup [(ruled p h x rule).d, .adr q]) (BP.is (be_tup (bae (be_tup (bae (be_var 5) (bae (be_var 6) (bae (be_var 7) (bae (be_if (bte_val (be_var 18)) (fun _ => BP.is (d' := .int ((ruledLog x rule).length : Nat)) (be_len T.f_len (be_var 7)) (by rw [List.length_map])) (fun _ => be_var 8)) (bae (be_var 9) (bae (be_var 10) (bae (be_var 11) (bae (be_call (w__law_ends T) (su.mono (by decide)) (bae (be_var 12) (bae (be_ix (be_ix (be_var 14) (be_var 5) (at_map (f := State.d) hst3)) be_int) ba_nil)) (⟨x.told, st3.fin, rfl, ok.toldUp, by omega, rfl⟩)) ba_nil))))))))) (bae (be_var 13) ba_nil))) ?_) (Ret.at (Ret.adr2 nq Im.k (rt _ rfl)))
      have e2 : (if rule.forced = true then D.int ((ruledLog x rule).length : Int) else D.int (x.forced : Int)) = D.int ((if rule.forced then (ruledLog x rule).length else x.forced : Nat) : Int) := by
        cases rule.forced <;> rfl
      unfold ruled
      rw [finAt_some hst3, e2]
      rfl
  | hear h g k =>
    have szp : (x.heard.map hdD).length + [hdD (g, k)].length ≤ sizeLine := by rw [List.length_map]; exact Nat.le_trans (Nat.add_le_add_right l60 _) (by show 60 + 1 ≤ sizeLine; decide)
    have so : Sortd (x.heard.map hdD ++ [hdD (g, k)]) := by
      rw [show x.heard.map hdD ++ [hdD (g, k)] = (x.heard ++ [(g, k)]).map hdD by rw [List.map_append]; rfl]
      exact kdH.sortd _
    have szz : (x.heard.map hdD ++ [hdD (g, k)]).length ≤ sizeLine := by rw [List.length_append]; exact szp
    refine st_take (BT.is (tq_eqS su.u64 (be_ix (be_var 3) be_int) be_str) (by decide +kernel)) ?_
    refine st_retE (be_tup (bae (be_tup (bae (be_var 5) (bae (be_tupleOf T.f_tuple (be_sorted su.u64 T.f_sorted (be_catT (be_var 6) (be_tup (bae (BP.is (d' := hdD (g, k)) (be_slT (be_var 3) (bo_some be_int) bo_none) rfl) ba_nil)) (by first | decide | assumption | (simp [PySem.sizeLine]; done) | omega)) so szz)) (bae (be_var 7) (bae (be_var 8) (bae (be_var 9) (bae (be_var 10) (bae (be_var 11) (bae (be_var 12) ba_nil))))))))) (bae (be_lst ba_nil) ba_nil))) (Ret.push (rt _ ?_))
    rw [show x.heard.map hdD ++ [hdD (g, k)] = (x.heard ++ [(g, k)]).map hdD by rw [List.map_append]; rfl, sortD_map]
    rfl
  | force h =>
    refine st_skip (BT.is (tq_eqS su.u64 (be_ix (be_var 3) be_int) be_str) (by decide +kernel)) ?_
    refine st_take (BT.is (tq_eqS su.u64 (be_ix (be_var 3) be_int) be_str) (by decide +kernel)) ?_
    exact st_retE (be_tup (bae (be_tup (bae (be_var 5) (bae (be_var 6) (bae (be_var 7) (bae (BP.is (d' := .int (x.log.length : Nat)) (be_len T.f_len (be_var 7)) (by rw [List.length_map])) (bae (be_var 9) (bae (be_var 10) (bae (be_var 11) (bae (be_var 12) ba_nil))))))))) (bae (be_lst ba_nil) ba_nil))) (Ret.push (rt _ rfl))
  | fall h l =>
    have cut : cutD (x.log.map Wd.d) none (some (l : Int)) = (x.log.take l).map Wd.d := by
      rw [cutD_lo, List.map_take]
    refine st_skip (BT.is (tq_eqS su.u64 (be_ix (be_var 3) be_int) be_str) (by decide +kernel)) ?_
    refine st_skip (BT.is (tq_eqS su.u64 (be_ix (be_var 3) be_int) be_str) (by decide +kernel)) ?_
    refine st_take (BT.is (tq_eqS su.u64 (be_ix (be_var 3) be_int) be_str) (by decide +kernel)) ?_
    have e := said_below x.said l
    refine st_set (i := 11) (hN := nd) (d := .bl (x.whole && saidBelow x.said l)) (BP.is (be_and (be_var 11) fun _ => be_and (bq_neI su.u64 (be_var 10) (be_neg be_int)) fun _ => be_one (be_gt (be_ix (be_var 3) be_int) (be_var 10))) (congrArg (fun z => D.bl (x.whole && z)) e)) ?_
    refine ST.norm (ds' := [_, _, _, _, _, _, _, _, _, _, _, _, _, _, _, _, _, _, _, _, _, _, _]) rfl ?_
    refine st_retE (be_tup (bae (be_tup (bae (be_neg be_int) (bae (be_tup ba_nil) (bae (be_slT (be_var 7) bo_none (bo_some (be_ix (be_var 3) be_int))) (bae (be_ix (be_var 3) be_int) (bae be_bl (bae (be_var 10) (bae (be_var 11) (bae (be_var 12) ba_nil))))))))) (bae (be_lst ba_nil) ba_nil))) (Ret.push (rt _ ?_))
    rw [cut]
    rfl
  | up h =>
    have e1 : D.eqv (.tup (x.log.map Wd.d)) (.tup []) = x.log.isEmpty := by rw [eqv_nil]; cases x.log <;> rfl
    have nd2 := ups_nd hb
    have hv := ups_at hb ok.log
    have hlt := up_state hb ok.log
    obtain ⟨st, hst⟩ : ∃ st, (roleAt p h).states[stateUp (roleAt p h) x.log]? = some st := ⟨_, List.getElem?_eq_getElem hlt⟩
    refine st_skip (BT.is (tq_eqS su.u64 (be_ix (be_var 3) be_int) be_str) (by decide +kernel)) ?_
    refine st_skip (BT.is (tq_eqS su.u64 (be_ix (be_var 3) be_int) be_str) (by decide +kernel)) ?_
    refine st_skip (BT.is (tq_eqS su.u64 (be_ix (be_var 3) be_int) be_str) (by decide +kernel)) ?_
    refine st_take (BT.is (tq_eqS su.u64 (be_ix (be_var 3) be_int) be_str) (by decide +kernel)) ?_
    refine st_set (i := 5) (hN := nd) (d := .int (stateUp (roleAt p h) x.log : Nat)) (be_dnGet su.u64 (bdn_dict rfl T.f_dict (be_listOf T.f_list (be_var 15)) nd2) (b := Sum.inr (lastOf x.log).s) (by
      by_cases hl : x.log = []
      · exact BP.is (d := .str "") (be_ifF (BT.is (tq_ne su.u64 (be_var 7) (be_tup ba_nil)) (by rw [e1, hl]; rfl)) be_str) (by rw [hl]; rfl)
      · exact (be_ifT (BT.is (tq_ne su.u64 (be_var 7) (be_tup ba_nil)) (by rw [e1]; cases hz : x.log; exact absurd hz hl; rfl)) (be_ix (be_var 7) (be_neg be_int) (at_last (f := Wd.d) (lastOf_at hl))))) hv (fun _ _ => .int _)) ?_
    refine st_retE (be_tup (bae (be_tup (bae (be_var 5) (bae (be_var 6) (bae (be_var 7) (bae (be_var 8) (bae (be_var 9) (bae (be_var 10) (bae (be_var 11) (bae (be_call (w__law_ends T) (su.mono (by decide)) (bae (be_var 12) (bae (be_ix (be_ix (be_var 14) (be_var 5) (at_map (f := State.d) hst)) be_int) ba_nil)) (⟨x.told, st.fin, rfl, ok.toldUp, by omega, rfl⟩)) ba_nil))))))))) (bae (be_lst ba_nil) ba_nil))) (Ret.push (rt _ ?_))
    simp only [houseDone, lettersOf]
    unfold upped
    rw [finAt_some hst]
    rfl
end
end K23


-- text L4
set_option Elab.async false
set_option linter.all false
set_option maxRecDepth 100000
set_option maxHeartbeats 2000000
namespace K23
open PySem PySem.Spec PyProof.Rows L2
theorem sent_eq {sent : List Letter} (h : Up Letter.d sent) (ls : List Letter) : srt Letter.d (dd (sent ++ ls)) = sentMore sent ls := by
  refine kdL.up_eq (kdL.up (dd_nodup _)) (sentMore_up h ls) fun a => ?_
  rw [srt_mem, dd_mem, List.mem_append, sentMore_mem]
section
variable {P : Program} {w : World} {K : PySem.W.Frag} {mg : Str → Option Value} {base : Heap}
theorem w__law_behind (T : Top K mg) : Fn P w K mg base 4 "_law_behind" ["_law_protocol", "_law_n", "_law_standing", "_law_step"] (fun1 fun ds d => ∃ (p : Proto) (n : Nat) (S : Standing) (s : Step), ds = [p.d, .int n, S.d, s.d] ∧ p.Ok ∧ 1 ≤ n ∧ n ≤ 4 ∧ S.Ok p n ∧ s ∈ stepsOf p n S ∧ S.sent.length + (lettersOf p n (houseAt S s.h) s).length < 64 ∧ d = (stepDone p n S s).d) := by
  obtain ⟨f, fd, hm, F⟩ := T.e98
  have S : FnScope ["_law_protocol", "_law_n", "_law_standing", "_law_step", "_law_houses", "_law_sent", "_law_house", "_law_sends"] ["_law_protocol", "_law_n", "_law_standing", "_law_step"] (defScope s98) := ⟨rfl, rfl, rfl, by decide +kernel, rfl, by decide +kernel, by decide +kernel⟩
  refine fn_mk (k := 3) F hm S (F.bindsN (ps := ["_law_protocol", "_law_n", "_law_standing", "_law_step"]) fun _ _ _ _ _ _ us hl => match us, hl with | [_, _, _, _], _ => rfl) (fun M ds P r => by obtain ⟨_, ⟨p, n, S0, s, rfl, hp, h1, hn, hS, hs, hfew, rfl⟩, rfl⟩ := r; rfl) ?_
  rintro cdv A fr s M _ _ H0 E su ⟨_, ⟨p, n, S0, s, rfl, hp, h1, hn, hS, hs, hfew, rfl⟩, rfl⟩ rt nx
  have nd := S.nd
  refine ST.norm (ds' := [_, _, _, _, _, _, _, _]) rfl ?_
  obtain ⟨x, hx, hsx⟩ := mem_stepsOf.mp hs
  have ok := hS.houses _ x hx
  have ha := houseAt_some hx
  have s1 : atI s.items 1 = some (.int s.h) := by cases s <;> rfl
  have z3 : S0.houses.length ≤ 4 := by rw [hS.len]; exact hn
  have hup := hS.sentUp
  unfold stepDone at rt
  rw [ha] at rt hfew
  refine st_unpack (be_var 2) (bg_tup rfl (bgs_cons (bg_name (i := 4) nd) (bgs_cons (bg_name (i := 5) nd) (bgs_nil))) 2) ?_
  refine ST.norm (ds' := [_, _, _, _, _, _, _, _]) rfl ?_
  refine st_unpack (be_call (w__law_house_behind T) (su.mono (by decide)) (bae (be_var 0) (bae (be_var 1) (bae (be_ix (be_var 4) (be_ix (be_var 3) be_int s1) (at_map (f := House.d) hx)) (bae (be_var 3) ba_nil)))) (⟨_, _, _, _, _, rfl, hp, h1, hn, ok, hsx, rfl⟩)) (bg_tup rfl (bgs_cons (bg_name (i := 6) nd) (bgs_cons (bg_name (i := 7) nd) (bgs_nil))) 2) ?_
  refine ST.norm (ds' := [_, _, _, _, _, _, _, _]) rfl ?_
  generalize houseDone p x s = x2 at rt ⊢
  generalize lettersOf p n x s = ls at rt hfew ⊢
  have few : (S0.sent ++ ls).length < 64 := by rw [List.length_append]; exact hfew
  have sz : (S0.sent.map Letter.d).length + (ls.map Letter.d).length ≤ sizeLine := by
    rw [List.length_map, List.length_map]
    exact Nat.le_trans (Nat.le_of_lt hfew) (by decide)
  have sz1 : (cutD (S0.houses.map House.d) none (some (s.h : Int))).length + [x2.d].length ≤ sizeLine := by
    rw [cutD_lo, List.length_take, List.length_map]
    have : 5 ≤ sizeLine := by decide
    show min s.h S0.houses.length + 1 ≤ sizeLine
    omega
  have sz2 : (cutD (S0.houses.map House.d) none (some (s.h : Int)) ++ [x2.d]).length + (cutD (S0.houses.map House.d) (some ((s.h + 1 : Nat) : Int)) none).length ≤ sizeLine := by
    rw [cutD_lo, cutD_hi, List.length_append, List.length_take, List.length_map, List.length_drop, List.length_map]
    have : 20 ≤ sizeLine := by decide
    show min s.h S0.houses.length + 1 + (S0.houses.length - (s.h + 1)) ≤ sizeLine
    omega
  refine st_retE (be_tup (bae (be_catT (be_catT (be_slT (be_var 4) bo_none (bo_some (be_ix (be_var 3) be_int s1))) (be_tup (bae (be_var 6) ba_nil)) (by first | decide | assumption | (simp [PySem.sizeLine]; done) | omega)) (be_slT (be_var 4) (bo_some (BP.is (d' := .int ((s.h + 1 : Nat) : Int)) (be_add (be_ix (be_var 3) be_int s1) be_int) rfl)) bo_none) (by first | decide | assumption | (simp [PySem.sizeLine]; done) | omega)) (bae (be_tupleOf T.f_tuple (be_sortedSet (l := S0.sent ++ ls) (tupSK P w) kdL letK_inj stL su.u64 rfl T.f_sorted T.f_set (BP.is (d' := .tup ((S0.sent ++ ls).map Letter.d)) (be_catT (be_var 5) (be_tupleOf T.f_tuple (be_var 7)) sz) (by rw [List.map_append])) few)) ba_nil))) (rt _ ?_)
  rw [cutD_lo, cutD_hi, sent_eq hup]
  unfold withHouse Standing.d
  rw [List.map_append, List.map_append, List.map_take, List.map_drop]
  rfl
end
end K23


-- text S6
set_option Elab.async false
set_option linter.all false
set_option maxRecDepth 100000
set_option maxHeartbeats 2000000
namespace K23
open PySem PySem.Spec PyProof.Rows L2

/-! ## 33. few letters -/
def sendsOf (ρ : Role) : List Wd := (rulesOf ρ).flatMap fun t => t.2.2.sends.map (·.1)
/-- a role sends three kinds at most -/
def Slim (ρ : Role) : Prop := ∃ L : List Wd, L.length ≤ 3 ∧ ∀ k ∈ sendsOf ρ, k ∈ L
structure Proto.Slim (p : Proto) : Prop where
  leader : K23.Slim p.leader
  member : K23.Slim p.member
theorem Proto.Slim.role {p : Proto} (h : p.Slim) (k : Nat) : K23.Slim (roleAt p k) := by
  unfold roleAt
  split
  · exact h.leader
  · exact h.member
/-- a standing whose letters are what their houses send -/
structure Standing.Good (p : Proto) (n : Nat) (S : Standing) : Prop where
  ok : S.Ok p n
  kinds : ∀ l ∈ S.sent, l.kind ∈ sendsOf (roleAt p l.src)
theorem lettersOf_kind {p : Proto} {n : Nat} {sent : List Letter} {h : Nat} {x : House} {s : Step} (m : s ∈ stepsAt p n sent h x) : ∀ l ∈ lettersOf p n x s, l.src = h ∧ l.kind ∈ sendsOf (roleAt p h) := fun l hl => by
  cases s with
  | rule k r =>
    obtain ⟨rfl, rule, r1, _, r3⟩ := step_rule m
    obtain ⟨st, st1, st2⟩ := rulesAt_mem r3
    simp only [lettersOf, r1] at hl
    obtain ⟨e1, sd, hsd, e2, e3⟩ := mem_lettersBy hl
    obtain ⟨a, c, mm⟩ := rulesOf_mem st1 st2
    exact ⟨e1, List.mem_flatMap.mpr ⟨_, mm, List.mem_map.mpr ⟨sd, hsd, e2.symm⟩⟩⟩
  | _ => cases hl
theorem stepDone_good {p : Proto} {n : Nat} (hp : p.Ok) {S : Standing} (g : S.Good p n) {s : Step} (m : s ∈ stepsOf p n S) : (stepDone p n S s).Good p n := by
  refine ⟨stepDone_ok hp g.ok m, fun l hl => ?_⟩
  obtain ⟨x, hx, hs⟩ := mem_stepsOf.mp m
  have ha : houseAt S s.h = x := by
    unfold houseAt
    rw [hx]
    rfl
  unfold stepDone at hl
  rw [ha] at hl
  rcases sentMore_mem.mp hl with z | z
  · exact g.kinds l z
  · obtain ⟨a1, a2⟩ := lettersOf_kind hs l z
    rw [a1]
    exact a2
theorem firstOf_good {p : Proto} (hp : p.Ok) (n : Nat) : (firstOf p n).Good p n := ⟨firstOf_ok hp n, fun l hl => by cases hl⟩
theorem runFrom_good {p : Proto} {n : Nat} (hp : p.Ok) : ∀ (r : List Step) (S : Standing), S.Good p n → ∀ S', runFrom p n S r = some S' → S'.Good p n
  | [], S, ok, S', e => by cases e; exact ok
  | s :: r, S, ok, S', e => by
    unfold runFrom at e
    split at e
    · rename_i m
      exact runFrom_good hp r _ (stepDone_good hp ok m) S' e
    · cases e
theorem Standing.Good.few {p : Proto} {n : Nat} {S : Standing} (g : S.Good p n) (sl : p.Slim) (hn : n ≤ 4) : S.sent.length ≤ 36 := by
  obtain ⟨L0, l0, m0⟩ := sl.leader
  obtain ⟨L1, l1, m1⟩ := sl.member
  have inj : (S.sent.map fun l => ((l.src, l.dst), l.kind)).Nodup := by
    refine List.Pairwise.map _ (fun a b h e => h ?_) g.ok.sentUp.nodup
    obtain ⟨a1, a2, a3⟩ := a
    obtain ⟨b1, b2, b3⟩ := b
    simp only [Prod.mk.injEq] at e
    rw [e.1.1, e.1.2, e.2]
  have := nodup_bound (m := pairs [(0, 1), (0, 2), (0, 3)] L0 ++ pairs [(1, 0), (1, 2), (1, 3), (2, 0), (2, 1), (2, 3), (3, 0), (3, 1), (3, 2)] L1) inj fun a ha => by
    obtain ⟨l, hl, rfl⟩ := List.mem_map.mp ha
    obtain ⟨h1, h2, h3, _⟩ := g.ok.sent l hl
    have h4 := g.kinds l hl
    obtain ⟨s, d, k⟩ := l
    dsimp only at h1 h2 h3 h4 ⊢
    unfold roleAt at h4
    by_cases c : s = 0
    · rw [if_pos c] at h4
      refine List.mem_append_left _ (mem_pairs ?_ (m0 _ h4))
      simp only [List.mem_cons, Prod.mk.injEq, List.not_mem_nil, or_false]
      omega
    · rw [if_neg c] at h4
      refine List.mem_append_right _ (mem_pairs ?_ (m1 _ h4))
      simp only [List.mem_cons, Prod.mk.injEq, List.not_mem_nil, or_false]
      omega
  rw [List.length_append, pairs_len, pairs_len, List.length_map] at this
  simp only [List.length_cons, List.length_nil] at this
  omega
theorem Standing.Good.room {p : Proto} {n : Nat} {S : Standing} (g : S.Good p n) (hp : p.Ok) (sl : p.Slim) (hn : n ≤ 4) {s : Step} (m : s ∈ stepsOf p n S) : S.sent.length + (lettersOf p n (houseAt S s.h) s).length < 64 := by
  have a := g.few sl hn
  have : (lettersOf p n (houseAt S s.h) s).length ≤ 16 := by
    cases s with
    | rule h r =>
      show (match ruleAt p h (houseAt S h) r with | none => [] | some rule => lettersBy h n rule : List Letter).length ≤ 16
      cases e : ruleAt p h (houseAt S h) r with
      | none => simp
      | some rule =>
        obtain ⟨st, st1, st2⟩ := rulesAt_mem (List.mem_of_getElem? e)
        obtain ⟨b, hb⟩ := hp.role h
        exact lettersBy_len hn ((hb.states st st1).rules rule st2).len
    | _ => simp [lettersOf]
  omega
end K23

-- text L5
set_option Elab.async false
set_option linter.all false
set_option maxRecDepth 100000
set_option maxHeartbeats 2000000
namespace K23
open PySem PySem.Spec PyProof.Rows L2
def showD (s : Step) : D := .str s.d.py.shown
instance {s : Step} : Im (showD s) := ⟨rfl⟩
theorem stepsOf_lim {p : Proto} {n : Nat} {S : Standing} (ok : S.Ok p n) (hp : p.Ok) (hn : n ≤ 4) : (srt Step.d (stepsOf p n S)).length ≤ sizeLine := by
  rw [(srt_perm (f := Step.d) (stepsOf p n S)).length_eq]
  have a := fm_len (f := fun q : House × Nat => stepsAt p n S.sent q.2 q.1) (l := S.houses.zipIdx) (c := 300) (fun y hy => stepsAt_len hp (ok.sent240 hp hn) ((ok.houses y.2 y.1 (List.mem_zipIdx_iff_getElem?.mp hy)).log15 hp)) S.houses.zipIdx.length
  rw [take_len, List.length_zipIdx, ok.len] at a
  exact Nat.le_trans a (Nat.le_trans (Nat.mul_le_mul_right _ hn) (by decide))
theorem oks_map {α : Type} {f : α → D} : ∀ {l : List α}, (∀ a ∈ l, (f a).ok = true) → D.ok.oks (l.map f) = true
  | [], _ => rfl
  | x :: l, h => by
    show ((f x).ok && D.ok.oks (l.map f)) = true
    rw [h x List.mem_cons_self, oks_map fun a ha => h a (List.mem_cons_of_mem _ ha)]
    rfl
theorem has_show {l : List Step} {t : Step} (hl : ∀ s ∈ l, s ∈ STEPS) (ht : t ∈ STEPS) : D.has (l.map showD) (showD t) = decide (t ∈ l) := by
  induction l with
  | nil => rfl
  | cons x l ih =>
    have e : D.has ((x :: l).map showD) (showD t) = (D.eqv (showD x) (showD t) || D.has (l.map showD) (showD t)) := rfl
    rw [e, ih fun s h => hl s (List.mem_cons_of_mem _ h)]
    have e2 : D.eqv (showD x) (showD t) = decide (x = t) := (eqv_str _ _).trans (decide_shown (hl x List.mem_cons_self) ht)
    rw [e2, ← Bool.decide_or]
    refine decide_eq_decide.mpr ?_
    rw [List.mem_cons]
    exact ⟨fun z => z.elim (fun z => .inl z.symm) .inr, fun z => z.elim (fun z => .inl z.symm) .inr⟩
section
variable {P : Program} {w : World} {K : PySem.W.Frag} {mg : Str → Option Value} {base : Heap}
theorem w__law_is_row (T : Top K mg) : Fn P w K mg base 5 "_law_is_row" ["_law_protocol", "_law_n", "_law_thing"] (fun1 fun ds d => ∃ (p : Proto) (n : Nat) (r : List Step), ds = [p.d, .int n, .tup (r.map Step.d)] ∧ 1 ≤ n ∧ n ≤ 4 ∧ p.Ok ∧ p.Slim ∧ (∀ t ∈ r, t ∈ STEPS ∧ t.Sm) ∧ d = .bl (runFrom p n (firstOf p n) r).isSome) := by
  obtain ⟨f, fd, hm, F⟩ := T.e100
  have S : FnScope ["_law_protocol", "_law_n", "_law_thing", "_law_standing", "_law_step", "_law_near"] ["_law_protocol", "_law_n", "_law_thing"] (defScope s100) := ⟨rfl, rfl, rfl, by decide +kernel, rfl, by decide +kernel, by decide +kernel⟩
  refine fn_mk (k := 4) F hm S (F.bindsN (ps := ["_law_protocol", "_law_n", "_law_thing"]) fun _ _ _ _ _ _ us hl => match us, hl with | [_, _, _], _ => rfl) (fun M ds P r => by obtain ⟨_, ⟨p, n, r, rfl, h1, hn, hp, hsl, hr, rfl⟩, rfl⟩ := r; rfl) ?_
  rintro cdv A fr s M _ _ H0 E su ⟨_, ⟨p, n, r, rfl, h1, hn, hp, hsl, hr, rfl⟩, rfl⟩ rt nx
  have nd := S.nd
  refine ST.norm (ds' := [_, _, _, _, _, _]) rfl ?_
  refine st_skip (BT.is (bt_not (bte_val (be_isi T.f_isinstance T.f_tuple "tuple" (be_var 2) rfl))) rfl) ?_
  refine st_set (i := 3) (hN := nd) (d := (firstOf p n).d) (be_call (w__law_first T) (su.mono (by decide)) (bae (be_var 0) (bae (be_var 1) ba_nil)) (⟨_, _, rfl, hn, hp, rfl⟩)) ?_
  refine ST.norm (ds' := [_, _, _, _, _, _]) rfl ?_
  let Si : Nat → Standing := fun i => (runFrom p n (firstOf p n) (r.take i)).getD (firstOf p n)
  refine ST.toFact (φ := runFrom p n (firstOf p n) (r.take 0) = some (Si 0)) rfl ?_
  refine st_forD (φ := Step.d) (ys := r) (bie_tup (be_var 2)) (fun i => (M.at H0).fact (runFrom p n (firstOf p n) (r.take i) = some (Si i))) (fun i => [some p.d, some (.int n), some (.tup (r.map Step.d)), some (Si i).d, none, none]) rfl rfl (fun _ => rfl) ?_ ?_
  · rintro H1 i y hy
    obtain ⟨y1, y2⟩ := hr y (List.mem_of_getElem? hy)
    refine ⟨_, _, (bg_name (i := 4) nd), ?_⟩
    refine ST.norm (ds' := [_, _, _, _, _, _]) rfl ?_
    refine ST.fact fun hf => ?_
    have good := runFrom_good hp _ _ (firstOf_good hp n) _ hf
    have ok := good.ok
    have tk : r.take (i + 1) = r.take i ++ [y] := by rw [List.take_succ, hy]; rfl
    have nxt : runFrom p n (firstOf p n) (r.take (i + 1)) = if y ∈ stepsOf p n (Si i) then some (stepDone p n (Si i) y) else none := by
      rw [tk, runFrom_app, hf]
      rfl
    have all : ∀ s ∈ srt Step.d (stepsOf p n (Si i)), s ∈ STEPS ∧ s.Sm := fun s hs => mem_STEPS ok hp hn (srt_mem.mp hs)
    have lim : (srt Step.d (stepsOf p n (Si i))).length ≤ sizeLine := stepsOf_lim ok hp hn
    have sh := Shown.step y2
    have okl : (D.lst ((srt Step.d (stepsOf p n (Si i))).map showD)).ok = true := oks_map fun s hs => (SOk.step (all s hs).2).ok
    refine st_ifE (q := !decide (y ∈ stepsOf p n (Si i))) (BT.is (tq_nin su.u64 (be_repr su T.f_repr (be_var 4) sh) (be_map (φ := Step.d) (ys := srt Step.d (stepsOf p n (Si i))) (f := showD) (is := [5]) (g := _) (own := [("_law_near", 5)]) ⟨rfl, nd, blkOk_by (N := ["_law_protocol", "_law_n", "_law_thing", "_law_standing", "_law_step", "_law_near"]) (sc := defScope s100) (own := [("_law_near", 5)]) (by decide +kernel), by decide, fun y hy X' hX => by have su := hX.sur su; obtain ⟨_, _, _, _, _, rfl⟩ := hX.ex; exact bg_name (i := 5) nd, fun y hy X' hX => by have su := hX.sur su; obtain ⟨_, _, _, _, _, rfl⟩ := hX.ex; exact bts_nil, fun y hy hk X' hX => by have su := hX.sur su; obtain ⟨_, _, _, _, _, rfl⟩ := hX.ex; exact be_repr su T.f_repr (be_var 5) (Shown.step (all y hy).2), fun y d hy hk e => by subst e; exact Im.k⟩ (bie_lst (be_call (w__law_steps T) (su.mono (by decide)) (bae (be_var 0) (bae (be_var 1) (bae (be_var 3) ba_nil))) (⟨_, _, _, rfl, hn, hp, ok, rfl⟩))) lim) rfl (SOk.step y2).ok okl (Nat.zero_le _)) ?_) (fun c => ?_) fun c => ?_
    · refine congrArg (!·) ((has_show (fun s hs => (all s hs).1) y1).trans (decide_eq_decide.mpr srt_mem))
    · have hm : y ∉ stepsOf p n (Si i) := by simpa using c
      rw [if_neg hm] at nxt
      have none' : runFrom p n (firstOf p n) r = none := by
        rw [← List.take_append_drop (i + 1) r, runFrom_app, nxt]
        rfl
      exact st_retE be_bl (Ret.at (Ret.fact (rt _ (by rw [none']; rfl))))
    · have hm : y ∈ stepsOf p n (Si i) := by simpa using c
      rw [if_pos hm] at nxt
      have eS : Si (i + 1) = stepDone p n (Si i) y := by
        show (runFrom p n (firstOf p n) (r.take (i + 1))).getD _ = _
        rw [nxt]
        rfl
      refine st_then ?_
      refine st_set (i := 3) (hN := nd) (d := (Si (i + 1)).d) (BP.is (be_call (w__law_behind T) (su.mono (by decide)) (bae (be_var 0) (bae (be_var 1) (bae (be_var 3) (bae (be_var 4) ba_nil)))) (⟨_, _, _, y, rfl, hp, h1, hn, ok, hm, good.room hp hsl hn hm, rfl⟩)) (by rw [eS])) ?_
      refine ST.norm (ds' := [_, _, _, _, _, _]) rfl ?_
      exact st_rchF (by rw [nxt, eS]) rfl (by repeat first | exact Wk.nil | apply Wk.keep | apply Wk.drop)
  · intro H1
    refine ST.fact fun hf => ?_
    rw [take_len] at hf
    exact st_retE be_bl (Ret.at (Ret.fact (rt _ (by rw [hf]; rfl))))
end
end K23


-- text A28
set_option Elab.async false
set_option linter.all false
set_option maxRecDepth 100000
set_option maxHeartbeats 2000000
namespace K23
open PySem PySem.Spec PyProof.Rows L2

/-! ## 41. the deck: a dict with a list of whole numbers, and two whole numbers -/
def deckO (q2 : Addr) (mx dr : Int) : HO := dK [(.inr "left", .ref q2), (.inr "mixed", .int mx), (.inr "draws", .int dr)]
def DeckAt (H : Hp) (q q2 : Addr) : Prop := ∃ (mx dr : Int) (xs : List Int), H q = some (deckO q2 mx dr) ∧ H q2 = some (.lst (xs.map V.int)) ∧ xs.length ≤ 63
/-- the state M keeps a deck at q, and may change it -/
structure Deck (M : Md) (q q2 : Addr) : Prop where
  sq : M.S q
  sq2 : M.S q2
  rd : ∀ H, M.W H → DeckAt H q q2
  wr : ∀ H H', M.W H → Ex (fun a => a = q ∨ a = q2) H H' → DeckAt H' q q2 → M.W H'
theorem Deck.at {M : Md} {q q2 : Addr} {H1 : Hp} (k : Deck M q q2) : Deck (M.at H1) q q2 where
  sq := k.sq
  sq2 := k.sq2
  rd := fun H w => k.rd H w.1
  wr := fun H H' w e d => ⟨k.wr H H' w.1 e d, w.2.trans (e.wide fun a z => by rcases z with z | z <;> rw [z]; exact k.sq; exact k.sq2)⟩
theorem Deck.push {K : PySem.W.Frag} {M : Md} {q q2 p : Addr} {l : List D} {hi : D.imm.imms l = true} (k : Deck M q q2) (nd : ¬ M.dep p) : Deck (M.push K p l hi) q q2 where
  sq := .inl k.sq
  sq2 := .inl k.sq2
  rd := fun H w => k.rd H w.1
  wr := fun H H' w e d => by
    obtain ⟨w1, xs, h, is⟩ := w
    refine ⟨k.wr H H' w1 e d, xs, e.old _ _ h fun z => ?_, is.imm e hi⟩
    rcases z with z | z
    · exact nd (z ▸ M.sd _ k.sq)
    · exact nd (z ▸ M.sd _ k.sq2)
theorem Deck.ls {K : PySem.W.Frag} {M : Md} {q q2 p : Addr} {α : Type} {f : α → D} {im : ∀ a, (f a).imm = true} {L : List α} (k : Deck M q q2) (nd : ¬ M.dep p) : Deck (M.ls K p f im L) q q2 := k.push nd
theorem Deck.own {M : Md} {q q2 p : Addr} {o : HO} {ht} (k : Deck M q q2) (nd : ¬ M.dep p) : Deck (M.own p o ht) q q2 where
  sq := .inl k.sq
  sq2 := .inl k.sq2
  rd := fun H w => k.rd H w.1
  wr := fun H H' w e d => by
    refine ⟨k.wr H H' w.1 e d, e.old _ _ w.2 fun z => ?_⟩
    rcases z with z | z
    · exact nd (z ▸ M.sd _ k.sq)
    · exact nd (z ▸ M.sd _ k.sq2)
/-- .. and what it holds right now -/
def Md.dkx (M : Md) {q q2 : Addr} (k : Deck M q q2) (mx dr : Int) (xs : List Int) : Md where
  S := M.S
  W := fun H => M.W H ∧ H q = some (deckO q2 mx dr) ∧ H q2 = some (.lst (xs.map V.int))
  dep := M.dep
  sd := M.sd
  dom := fun H a w d => M.dom H a w.1 d
  ext := fun H H' B w nb e => ⟨M.ext H H' B w.1 nb e, e.old _ _ w.2.1 fun z => nb _ z (M.sd _ k.sq), e.old _ _ w.2.2 fun z => nb _ z (M.sd _ k.sq2)⟩
theorem Ints.iss {K : PySem.W.Frag} {S : Addr → Prop} {H : Hp} : ∀ xs : List Int, Iss K S H (xs.map V.int) (xs.map D.int)
  | [] => .nil
  | x :: xs => .cons (.int x) (Ints.iss xs)
theorem Iss.ints {K : PySem.W.Frag} {S : Addr → Prop} {H : Hp} : ∀ {xs : List Int} {vs : List V}, Iss K S H vs (xs.map D.int) → vs = xs.map V.int
  | [], _, h => by cases h; rfl
  | x :: xs, _, h => by
    cases h with
    | cons i t =>
      cases i
      rw [Iss.ints t]
      rfl
section
variable {X : Cx} {M : Md} {ds : List (Option D)} {b : List Stmt} {E : Ends} {q q2 : Addr} {k : Deck M q q2} {mx dr mx2 dr2 : Int} {xs ys : List Int}
theorem ST.open (k : Deck M q q2) (h : ∀ mx dr xs, xs.length ≤ 63 → ST X (M.dkx k mx dr xs) ds b E) : ST X M ds b E := ⟨fun σ H en w => by
  obtain ⟨mx, dr, xs, h1, h2, h3⟩ := k.rd H w
  exact (h mx dr xs h3).go σ H en ⟨w, h1, h2⟩⟩
theorem dkx_ne {H : Hp} (w : (M.dkx k mx dr xs).W H) : q ≠ q2 := fun e => by
  have h1 := w.2.1
  rw [e, w.2.2] at h1
  cases h1
theorem dkx_mut (hx : xs.length ≤ 63) : MutO (M.dkx k mx dr xs) (M.dkx k mx2 dr2 xs) q (deckO q2 mx dr) (deckO q2 mx2 dr2) where
  sq := k.sq
  S := rfl
  rd := fun H w => w.2.1
  wr := fun H w ex => by
    have ne := dkx_ne w
    have h2 : upd H q (deckO q2 mx2 dr2) q2 = some (.lst (xs.map V.int)) := by rw [upd_ne ne.symm]; exact w.2.2
    exact ⟨k.wr H _ w.1 (ex.wide fun a z => .inl z) ⟨mx2, dr2, xs, upd_same, h2, hx⟩, upd_same, h2⟩
theorem dkx_rd : Rdo (M.dkx k mx dr xs) q (deckO q2 mx dr) := fun H w => w.2.1
theorem dkx_rdl {K : PySem.W.Frag} : Rdl K (M.dkx k mx dr xs) q2 (xs.map D.int) := fun H w => ⟨_, w.2.2, Ints.iss xs⟩
theorem dkx_mutl {K : PySem.W.Frag} (hx : ys.length ≤ 63) : Mut K (M.dkx k mx dr xs) (M.dkx k mx dr ys) q2 (xs.map D.int) (ys.map D.int) where
  sq := k.sq2
  S := rfl
  rd := dkx_rdl
  wr := fun H vs w ex is => by
    have ne := dkx_ne w
    have e := is.ints
    subst e
    have h1 : upd H q2 (.lst (ys.map V.int)) q = some (deckO q2 mx dr) := by rw [upd_ne ne]; exact w.2.1
    exact ⟨k.wr H _ w.1 (ex.wide fun a z => .inr z) ⟨mx, dr, ys, h1, upd_same, hx⟩, h1, upd_same⟩
theorem Ret.dkx {K : PySem.W.Frag} {d : D} (r : Ret K M E d) : Ret K (M.dkx k mx dr xs) E d := r.mono (fun _ w => w.1) fun _ s => s
end
end K23

-- text A29
set_option Elab.async false
set_option linter.all false
set_option maxRecDepth 100000
set_option maxHeartbeats 2000000
namespace K23
open PySem PySem.Spec PyProof.Rows L2
section
variable {X : Cx} {M : Md} {ds : List (Option D)} {o a b : Expr} {rest : List Stmt} {E : Ends} {q q2 : Addr} {k : Deck M q q2} {mx dr : Int} {xs : List Int} {pos p apos cpos : Pos} {x : Str}
/-- x = o.pop(), o the deck's own list -/
theorem st_pop {i : Nat} {pos' : Pos} {c : Int} (ho : BE X (M.dkx k mx dr (xs ++ [c])) ds o (.adr q2)) (hx : xs.length ≤ 63) (kk : ST X (M.dkx k mx dr xs) (ds.set i (some (.int c))) rest E) (hN : X.N.Nodup := by assumption) (hi : X.N[i]? = some x := by rfl) (hl : Loc X.env.scope x := by first | exact Or.inl rfl | exact Or.inr rfl)
    (hs : swapsWith (.Call (.Attribute o "pop" apos) [] [] cpos) (some (.Name x pos')) pos.line X.env = pure false := by rfl) (hf : X.fn x = true ∨ X.env.scope.names.lookup x = some .local := by exact Or.inl rfl)
    (hbase : attributeBase o "pop" X.env (eval o X.env) = eval o X.env := by rfl) (hline : (apos.endLine == cpos.line) = true := by rfl) : ST X (M.dkx k mx dr (xs ++ [c])) ds (.Assign [.Name x pos'] (.Call (.Attribute o "pop" apos) [] [] cpos) pos :: rest) E :=
  st_of (ps_set hN hi hl (pe_bm0 PySem.F.plainAttrs_list PySem.F.slot_list_pop PySem.F.type_list_pop mt_pop ho.pe hbase hline) hs hf) fun σ H en w => ⟨en, w, fun d v H1 pd e1 w1 i1 => by
    subst pd
    cases i1
    have h2 := w1.2.2
    have ex : Ex (fun a => a = q2) H1 (upd H1 q2 (.lst (xs.map V.int))) := Ex.put h2 rfl (fun _ z => nomatch z) fun _ _ z => nomatch z
    have w2 := (dkx_mutl (K := X.K) (k := k) (mx := mx) (dr := dr) (xs := xs ++ [c]) (ys := xs) hx).wr H1 _ w1 ex (Ints.iss xs)
    refine ⟨.inl ⟨rfl, _, SqL.of h2⟩, q2, _, .int c, rfl, rfl, h2, by simp, ?_⟩
    rw [show ((xs ++ [c]).map V.int).dropLast = xs.map V.int by rw [List.map_append]; exact List.dropLast_concat]
    exact kk.go _ _ (((en.mono e1 fun _ z => z).mono (B := fun a => a = q2) ex fun a z => by rw [z]; exact k.sq2).set (.int c)) w2⟩
/-- o.append(e), o the deck's own list -/
theorem st_appO {e : Expr} {c : Int} (ho : BE X (M.dkx k mx dr xs) ds o (.adr q2)) (he : BE X (M.dkx k mx dr xs) ds e (.int c)) (hx : (xs ++ [c]).length ≤ 63) (kk : ST X (M.dkx k mx dr (xs ++ [c])) ds rest E)
    (hbase : attributeBase o "append" X.env (eval o X.env) = eval o X.env := by rfl)
    (hfew : ((backTo cpos (starEach [e] X.env)).all (fun x => !x.1) && (backToKw cpos (keywordEach [] X.env)).all (fun x => x.1.isSome) && decide (([e] : List Expr).length + ([] : List Keyword).length + (if ([] : List Keyword).isEmpty then 0 else 1) < 30)) = true := by rfl)
    (hline : (apos.endLine == cpos.line) = true := by rfl) (hs : starEach [e] X.env = (false, eval e X.env) :: starEach [] X.env := by rfl) (hplain : (backTo cpos (starEach [] X.env)).any (·.1) = false := by rfl) (hsw : swapsWith (.Call (.Attribute o "append" apos) [e] [] cpos) none pos.line X.env = pure false := by rfl) :
    ST X (M.dkx k mx dr xs) ds (.Expr (.Call (.Attribute o "append" apos) [e] [] cpos) pos :: rest) E :=
  st_of (ps_expr (pe_bm PySem.F.plainAttrs_list PySem.F.slot_list_append PySem.F.type_list_append mt_append ho.pe (pa_cons he.pe pa_nil hs) hbase hfew hline hs hplain) hsw) fun σ H en w => ⟨en, w, fun d v H1 pd e1 w1 i1 => by
    subst pd
    cases i1
    refine ⟨.inl ⟨rfl, _, SqL.of w1.2.2⟩, en.mono e1 fun _ z => z, w1, fun d2 u H2 pd2 e2 w2 i2 => ?_⟩
    subst pd2
    cases i2
    have h2 := w2.2.2
    have ex : Ex (fun a => a = q2) H2 (upd H2 q2 (.lst (xs.map V.int ++ [.int c]))) := Ex.put h2 rfl (fun _ z => nomatch z) fun _ _ z => nomatch z
    have w3 := (dkx_mutl (K := X.K) (k := k) (mx := mx) (dr := dr) (xs := xs) (ys := xs ++ [c]) hx).wr H2 _ w2 ex (by
      have := Ints.iss (K := X.K) (S := NoA) (H := upd H2 q2 (.lst (xs.map V.int ++ [.int c]))) (xs ++ [c])
      rw [show (xs ++ [c]).map V.int = xs.map V.int ++ [.int c] by rw [List.map_append]; rfl] at this
      exact this)
    refine ⟨q2, _, .int c, rfl, rfl, h2, ?_, kk.go _ _ (((en.mono e1 fun _ z => z).mono e2 fun _ z => z).mono (B := fun a => a = q2) ex fun a z => by rw [z]; exact k.sq2) w3⟩
    rw [List.length_map]
    have : (64 : Nat) ≤ sizeLine := by decide
    rw [List.length_append] at hx
    have : [c].length = 1 := rfl
    omega⟩
/-- a != [], a a list of our own -/
theorem bt_neA {M : Md} {l : List D} (hu : X.A.units + 64 < cLine) (rd : Rdl X.K M q l) (ok : D.ok.oks l = true) (il : D.imm.imms l = true) (ha : BE X M ds a (.adr q)) (hb : BE X M ds b (.lst [])) : BTE X M ds (.Compare a [.NotEq] [b] pos) (!l.isEmpty) :=
  bte_cmp (op_neQ (S := NoA) hu) (nomark _) ha hb fun v u H Q w i1 i2 k => by
    cases i1
    obtain ⟨xs, e1, is⟩ := rd H w
    cases i2 with
    | lst h1 hS h2 =>
      cases h2
      refine ⟨.lst l, .lst [], .lst e1 (fun z => z) is, .lst h1 (fun z => z) .nil, ok, rfl, Nat.le_trans (Nat.min_le_right _ _) (by decide), ?_⟩
      rw [if_pos rfl, eqv_nilL]
      exact k _ _ H rfl (Ex.refl H) w (.bl _)
theorem oks_ints (xs : List Int) : D.ok.oks (xs.map D.int) = true := by
  induction xs with
  | nil => rfl
  | cons x xs ih => exact ih
theorem imms_ints (xs : List Int) : D.imm.imms (xs.map D.int) = true := by
  induction xs with
  | nil => rfl
  | cons x xs ih => exact ih
end
end K23

-- text A30
set_option Elab.async false
set_option linter.all false
set_option maxRecDepth 100000
set_option maxHeartbeats 2000000
namespace K23
open PySem PySem.Spec PyProof.Rows L2
def deckL (q2 : Addr) (mx dr : Int) : List (Key × V) := [(.inr "left", .ref q2), (.inr "mixed", .int mx), (.inr "draws", .int dr)]
theorem key_lm : ((Sum.inr ("left" : Str) : Key) = Sum.inr ("mixed" : Str)) = False := eq_false (by decide)
theorem key_ld : ((Sum.inr ("left" : Str) : Key) = Sum.inr ("draws" : Str)) = False := eq_false (by decide)
theorem key_md : ((Sum.inr ("mixed" : Str) : Key) = Sum.inr ("draws" : Str)) = False := eq_false (by decide)
theorem deck_left (q2 : Addr) (mx dr : Int) : valV (deckL q2 mx dr) (Sum.inr "left") = some (.ref q2) := by
  unfold valV deckL
  simp only [List.find?_cons, decide_true, Option.map_some]
theorem deck_mixed (q2 : Addr) (mx dr : Int) : valV (deckL q2 mx dr) (Sum.inr "mixed") = some (.int mx) := by
  unfold valV deckL
  simp only [List.find?_cons, key_lm, decide_false, decide_true, Option.map_some]
theorem deck_draws (q2 : Addr) (mx dr : Int) : valV (deckL q2 mx dr) (Sum.inr "draws") = some (.int dr) := by
  unfold valV deckL
  simp only [List.find?_cons, key_ld, key_md, decide_false, decide_true, Option.map_some]
theorem deck_putM (q2 : Addr) (mx dr m : Int) : putK (deckL q2 mx dr) (Sum.inr "mixed") (.int m) = deckL q2 m dr := by
  unfold putK deckL
  have c1 : ((Sum.inr ("draws" : Str) : Key) = Sum.inr ("mixed" : Str)) = False := eq_false (by decide)
  simp only [List.any_cons, List.map_cons, List.map_nil, key_lm, c1, decide_true, decide_false, Bool.false_or, Bool.true_or, if_true, if_false]
theorem deck_putD (q2 : Addr) (mx dr m : Int) : putK (deckL q2 mx dr) (Sum.inr "draws") (.int m) = deckL q2 mx m := by
  unfold putK deckL
  simp only [List.any_cons, List.map_cons, List.map_nil, key_ld, key_md, decide_true, decide_false, Bool.false_or, Bool.true_or, if_true, if_false]
section
variable {X : Cx} {M : Md} {ds : List (Option D)} {e : Expr} {v : Expr} {rest : List Stmt} {E : Ends} {q q2 : Addr} {k : Deck M q q2} {mx dr : Int} {xs : List Int} {j : Nat} {pos p : Pos}
theorem deck_getD (hu : X.A.units + 64 < cLine) (ha : BE X (M.dkx k mx dr xs) ds e (.adr q)) : BE X (M.dkx k mx dr xs) ds (.Subscript e (.Constant (.str "draws") j p) pos) (.int dr) :=
  be_dget (kvs := deckL q2 mx dr) (b := Sum.inr "draws") hu dkx_rd ha be_str (deck_draws _ _ _) fun _ _ => .int _
theorem deck_getM (hu : X.A.units + 64 < cLine) (ha : BE X (M.dkx k mx dr xs) ds e (.adr q)) : BE X (M.dkx k mx dr xs) ds (.Subscript e (.Constant (.str "mixed") j p) pos) (.int mx) :=
  be_dget (kvs := deckL q2 mx dr) (b := Sum.inr "mixed") hu dkx_rd ha be_str (deck_mixed _ _ _) fun _ _ => .int _
theorem deck_getL (hu : X.A.units + 64 < cLine) (ha : BE X (M.dkx k mx dr xs) ds e (.adr q)) : BE X (M.dkx k mx dr xs) ds (.Subscript e (.Constant (.str "left") j p) pos) (.adr q2) :=
  be_dget (kvs := deckL q2 mx dr) (b := Sum.inr "left") hu dkx_rd ha be_str (deck_left _ _ _) fun _ _ => .adr _
/-- deck["draws"] = v -/
theorem deck_setD {dr2 : Int} {pos' : Pos} (hu : X.A.units + 64 < cLine) (hx : xs.length ≤ 63) (ha : BE X (M.dkx k mx dr xs) ds e (.adr q)) (hv : BE X (M.dkx k mx dr xs) ds v (.int dr2)) (go : ST X (M.dkx k mx dr2 xs) ds rest E)
    (hs : swapsWith v (some (.Subscript e (.Constant (.str "draws") j p) pos')) pos.line X.env = pure false := by rfl) : ST X (M.dkx k mx dr xs) ds (.Assign [.Subscript e (.Constant (.str "draws") j p) pos'] v pos :: rest) E :=
  st_dput (kvs := deckL q2 mx dr) (b := Sum.inr "draws") (u := .int dr2) hu ha be_str hv (fun S H w i => by cases i; rfl) (by rw [deck_putD]; exact dkx_mut hx) (by show 3 < sizeLine; decide) go hs
theorem deck_setM {mx2 : Int} {pos' : Pos} (hu : X.A.units + 64 < cLine) (hx : xs.length ≤ 63) (ha : BE X (M.dkx k mx dr xs) ds e (.adr q)) (hv : BE X (M.dkx k mx dr xs) ds v (.int mx2)) (go : ST X (M.dkx k mx2 dr xs) ds rest E)
    (hs : swapsWith v (some (.Subscript e (.Constant (.str "mixed") j p) pos')) pos.line X.env = pure false := by rfl) : ST X (M.dkx k mx dr xs) ds (.Assign [.Subscript e (.Constant (.str "mixed") j p) pos'] v pos :: rest) E :=
  st_dput (kvs := deckL q2 mx dr) (b := Sum.inr "mixed") (u := .int mx2) hu ha be_str hv (fun S H w i => by cases i; rfl) (by rw [deck_putM]; exact dkx_mut hx) (by show 3 < sizeLine; decide) go hs
end
end K23

-- text D1
set_option Elab.async false
set_option linter.all false
set_option maxRecDepth 100000
set_option maxHeartbeats 2000000
namespace K23
open PySem PySem.Spec PyProof.Rows L2
/-- a draw: a number below many, and the deck is another one -/
def drawR : Rel := fun M ds P => ∃ (q q2 : Addr) (many : Nat), Deck M q q2 ∧ ds = [.adr q, .int many] ∧ 1 ≤ many ∧ many ≤ 1000 ∧ P = fun d => ∃ k : Nat, k < many ∧ d = .int k
theorem draw_ok {many : Nat} (h : 1 ≤ many) (i : Int) : ∃ k : Nat, k < many ∧ D.int (i % (many : Int)) = .int k := by
  have a := Int.emod_nonneg i (show (many : Int) ≠ 0 by omega)
  have b := Int.emod_lt_of_pos i (show (0 : Int) < many by omega)
  exact ⟨(i % (many : Int)).toNat, by omega, by rw [Int.toNat_of_nonneg a]⟩
section
variable {P : Program} {w : World} {K : PySem.W.Frag} {mg : Str → Option Value} {base : Heap}
theorem w__law_draw (T : Top K mg) : Fn P w K mg base 1 "_law_draw" ["_law_deck_here", "_law_many"] (drawR) := by
  obtain ⟨f, fd, hm, F⟩ := T.e84
  have S : FnScope ["_law_deck_here", "_law_many", "_law_cell", "_law_figure"] ["_law_deck_here", "_law_many"] (defScope s84) := ⟨rfl, rfl, rfl, by decide +kernel, rfl, by decide +kernel, by decide +kernel⟩
  refine fn_mk (k := 0) F hm S (F.bindsN (ps := ["_law_deck_here", "_law_many"]) fun _ _ _ _ _ _ us hl => match us, hl with | [_, _], _ => rfl) (fun M ds P r => by obtain ⟨q, q2, many, kd, rfl, h1, h2, rfl⟩ := r; rfl) ?_
  rintro cdv A fr s M _ _ H0 E su ⟨q, q2, many, kd, rfl, h1, h2, rfl⟩ rt nx
  have nd := S.nd
  refine ST.norm (ds' := [_, _, _, _]) rfl ?_
  have p0 : (0 : Int) < (many : Int) := by omega
  refine ST.open kd.at fun mx dr xs hx => ?_
  refine deck_setD (dr2 := dr + 1) su.u64 hx (be_var 0) (be_add (deck_getD su.u64 (be_var 0)) be_int) ?_
  refine st_ifE (q := !(xs.map D.int).isEmpty) (bt_neA su.u64 dkx_rdl (oks_ints _) (imms_ints _) (deck_getL su.u64 (be_var 0)) (be_lst ba_nil)) (fun c => ?_) (fun c => ?_)
  · obtain ⟨ys, c0, rfl⟩ : ∃ ys c0, xs = ys ++ [c0] := by
      rcases List.eq_nil_or_concat xs with z | ⟨ys, c0, z⟩
      · rw [z] at c; cases c
      · exact ⟨ys, c0, by rw [z, List.concat_eq_append]⟩
    have hy : ys.length ≤ 63 := by rw [List.length_append] at hx; omega
    refine st_pop (i := 2) (deck_getL su.u64 (be_var 0)) hy ?_
    refine ST.norm (ds' := [_, _, _, _]) rfl ?_
    refine st_ifE (bt_ge (be_var 2) (be_pow ⟨by decide, by decide, by decide⟩ be_int be_int)) (fun c2 => ?_) (fun c2 => ?_)
    · refine st_appO (deck_getL su.u64 (be_var 0)) (be_fdiv ?_ (be_var 2) (be_max2 rfl T.f_max be_int (be_var 1))) ?_ ?_
      · refine ⟨?_, ?_⟩ <;> (try split) <;> omega
      · rw [List.length_append] at hx ⊢; exact hx
      · exact st_retE (be_mod p0 (be_int1 T.f_int (be_var 2)) (be_var 1)) (Ret.dkx (rt _ (draw_ok h1 _)))
    refine st_then ?_
    refine deck_setM (mx2 := (mx * 39373 + c0 % 2147483629 + 1) % 2147483587) su.u64 hy (be_var 0) (be_mod (by decide) (be_int1 T.f_int (be_add (be_add (be_mul (.inr ⟨by decide, by decide⟩) (deck_getM su.u64 (be_var 0)) be_int) (be_mod (by decide) (be_int1 T.f_int (be_var 2)) be_int)) be_int)) be_int) ?_
    generalize (mx * 39373 + c0 % 2147483629 + 1) % 2147483587 = m2
    refine st_then ?_
    refine st_set (i := 3) (hN := nd) (d := .int ((m2 + 31337 * (dr + 1)) % 2147483647)) (be_mod (by decide) (be_int1 T.f_int (be_add (deck_getM su.u64 (be_var 0)) (be_mul (.inl ⟨by decide, by decide⟩) be_int (deck_getD su.u64 (be_var 0))))) be_int) ?_
    refine ST.norm (ds' := [_, _, _, _]) rfl ?_
    have b1 := Int.emod_nonneg (m2 + 31337 * (dr + 1)) (show (2147483647 : Int) ≠ 0 by decide)
    have b2 := Int.emod_lt_of_pos (m2 + 31337 * (dr + 1)) (show (0 : Int) < 2147483647 by decide)
    generalize (m2 + 31337 * (dr + 1)) % 2147483647 = f1 at b1 b2 ⊢
    have fz : -(2 ^ 64) < f1 ∧ f1 < 2 ^ 64 := ⟨by omega, by omega⟩
    refine st_set (i := 3) (hN := nd) (d := .int ((f1 * f1 + 48271 * (dr + 1) + 3) % 2147483629)) (be_mod (by decide) (be_int1 T.f_int (be_add (be_add (be_mul (.inl fz) (be_var 3) (be_var 3)) (be_mul (.inl ⟨by decide, by decide⟩) be_int (deck_getD su.u64 (be_var 0)))) be_int)) be_int) ?_
    refine ST.norm (ds' := [_, _, _, _]) rfl ?_
    generalize (f1 * f1 + 48271 * (dr + 1) + 3) % 2147483629 = f2
    refine st_set (i := 3) (hN := nd) (d := .int ((f2 * 69621 + 77) % 2147483563)) (be_mod (by decide) (be_int1 T.f_int (be_add (be_mul (.inr ⟨by decide, by decide⟩) (be_var 3) be_int) be_int)) be_int) ?_
    refine ST.norm (ds' := [_, _, _, _]) rfl ?_
    exact st_retE (be_mod p0 (be_int1 T.f_int (be_fdiv ⟨by decide, by decide⟩ (be_var 3) be_int)) (be_var 1)) (Ret.dkx (rt _ (draw_ok h1 _)))
  · refine st_then ?_
    refine st_set (i := 3) (hN := nd) (d := .int ((mx + 31337 * (dr + 1)) % 2147483647)) (be_mod (by decide) (be_int1 T.f_int (be_add (deck_getM su.u64 (be_var 0)) (be_mul (.inl ⟨by decide, by decide⟩) be_int (deck_getD su.u64 (be_var 0))))) be_int) ?_
    refine ST.norm (ds' := [_, _, _, _]) rfl ?_
    have b1 := Int.emod_nonneg (mx + 31337 * (dr + 1)) (show (2147483647 : Int) ≠ 0 by decide)
    have b2 := Int.emod_lt_of_pos (mx + 31337 * (dr + 1)) (show (0 : Int) < 2147483647 by decide)
    generalize (mx + 31337 * (dr + 1)) % 2147483647 = f1 at b1 b2 ⊢
    have fz : -(2 ^ 64) < f1 ∧ f1 < 2 ^ 64 := ⟨by omega, by omega⟩
    refine st_set (i := 3) (hN := nd) (d := .int ((f1 * f1 + 48271 * (dr + 1) + 3) % 2147483629)) (be_mod (by decide) (be_int1 T.f_int (be_add (be_add (be_mul (.inl fz) (be_var 3) (be_var 3)) (be_mul (.inl ⟨by decide, by decide⟩) be_int (deck_getD su.u64 (be_var 0)))) be_int)) be_int) ?_
    refine ST.norm (ds' := [_, _, _, _]) rfl ?_
    generalize (f1 * f1 + 48271 * (dr + 1) + 3) % 2147483629 = f2
    refine st_set (i := 3) (hN := nd) (d := .int ((f2 * 69621 + 77) % 2147483563)) (be_mod (by decide) (be_int1 T.f_int (be_add (be_mul (.inr ⟨by decide, by decide⟩) (be_var 3) be_int) be_int)) be_int) ?_
    refine ST.norm (ds' := [_, _, _, _]) rfl ?_
    exact st_retE (be_mod p0 (be_int1 T.f_int (be_fdiv ⟨by decide, by decide⟩ (be_var 3) be_int)) (be_var 1)) (Ret.dkx (rt _ (draw_ok h1 _)))
end
end K23


-- text D2
set_option Elab.async false
set_option linter.all false
set_option maxRecDepth 100000
set_option maxHeartbeats 2000000
namespace K23
open PySem PySem.Spec PyProof.Rows L2
/-- one of a list -/
def pickR : Rel := fun M ds P => ∃ (q q2 : Addr) (es : List D), Deck M q q2 ∧ ds = [.adr q, .lst es] ∧ 1 ≤ es.length ∧ es.length ≤ 1000 ∧ P = fun d => d ∈ es
section
variable {P : Program} {w : World} {K : PySem.W.Frag} {mg : Str → Option Value} {base : Heap}
theorem w__law_pick (T : Top K mg) : Fn P w K mg base 2 "_law_pick" ["_law_deck_here", "_law_some"] (pickR) := by
  obtain ⟨f, fd, hm, F⟩ := T.e85
  have S : FnScope ["_law_deck_here", "_law_some"] ["_law_deck_here", "_law_some"] (defScope s85) := ⟨rfl, rfl, rfl, by decide +kernel, rfl, by decide +kernel, by decide +kernel⟩
  refine fn_mk (k := 1) F hm S (F.bindsN (ps := ["_law_deck_here", "_law_some"]) fun _ _ _ _ _ _ us hl => match us, hl with | [_, _], _ => rfl) (fun M ds P r => by obtain ⟨q, q2, es, kd, rfl, h1, h2, rfl⟩ := r; rfl) ?_
  rintro cdv A fr s M _ _ H0 E su ⟨q, q2, es, kd, rfl, h1, h2, rfl⟩ rt nx
  have nd := S.nd
  refine ST.norm (ds' := [_, _]) rfl ?_
  refine st_ret (bp_ixL (be_var 1) (bp_call (w__law_draw T) (su.mono (by decide)) (bae (be_var 0) (bae (be_len T.f_len (be_var 1)) ba_nil)) ⟨q, q2, es.length, kd.at, rfl, h1, h2, rfl⟩) (fun x y p z => ?_)) fun d p => rt d p
  obtain ⟨k, hk, rfl⟩ := z
  exact ⟨es, k, es[k], p, rfl, at_nat (List.getElem?_eq_getElem hk), List.getElem_mem hk⟩
end
end K23


-- text D3
set_option Elab.async false
set_option linter.all false
set_option maxRecDepth 100000
set_option maxHeartbeats 2000000
namespace K23
open PySem PySem.Spec PyProof.Rows L2
/-- the marks of a row of states, as the law finds them -/
def marksSt (l : List State) : List Wd := l.flatMap fun s => (s.rules.filter fun r => !decide (r.mark.s = ("" : Str))).map fun r => r.mark
section
variable {P : Program} {w : World} {K : PySem.W.Frag} {mg : Str → Option Value} {base : Heap}
theorem w__law_marks (T : Top K mg) : Fn P w K mg base 1 "_law_marks" ["_law_states"] (fun1 fun ds d => ∃ l : List State, ds = [.tup (l.map State.d)] ∧ l.length ≤ 6 ∧ (∀ s ∈ l, s.rules.length ≤ 6) ∧ d = .lst ((srt Wd.d (dd (marksSt l))).map Wd.d)) := by
  obtain ⟨f, fd, hm, F⟩ := T.e87
  have S : FnScope ["_law_states", "_law_found", "_law_end", "_law_rules", "_law_rule"] ["_law_states"] (defScope s87) := ⟨rfl, rfl, rfl, by decide +kernel, rfl, by decide +kernel, by decide +kernel⟩
  refine fn_mk (k := 0) F hm S (F.bindsN (ps := ["_law_states"]) fun _ _ _ _ _ _ us hl => match us, hl with | [_], _ => rfl) (fun M ds P r => by obtain ⟨_, ⟨l, rfl, h1, h2, rfl⟩, rfl⟩ := r; rfl) ?_
  rintro cdv A fr s M _ _ H0 E su ⟨_, ⟨l, rfl, h1, h2, rfl⟩, rfl⟩ rt nx
  have nd := S.nd
  refine ST.norm (ds' := [_, _, _, _, _]) rfl ?_
  have ml : ∀ y ∈ l, ((y.rules.filter fun r => !decide (r.mark.s = ("" : Str))).map fun r => r.mark).length ≤ 6 := fun y hy => by
    rw [List.length_map]
    exact Nat.le_trans (List.length_filter_le _ _) (h2 y hy)
  have zl := fm_len (f := fun s : State => (s.rules.filter fun r => !decide (r.mark.s = ("" : Str))).map fun r => r.mark) (l := l) (c := 6) ml
  have big : 36 + 36 < sizeLine := by decide
  refine st_nl (i := 1) Wd.d (fun _ => Im.k) (fun q nq => ?_) nd
  refine ST.norm (ds' := [_, _, _, _, _]) rfl ?_
  refine st_forS (φ := State.d) (ys := l) (bie_tup (be_var 0)) (fun i => (M.at H0).ls K q Wd.d (fun _ => Im.k) ((l.take i).flatMap fun s => (s.rules.filter fun r => !decide (r.mark.s = ("" : Str))).map fun r => r.mark)) rfl (fun _ => rfl) ?_ ?_
  · rintro H1 i y hy
    have e := fm_next (f := fun s : State => (s.rules.filter fun r => !decide (r.mark.s = ("" : Str))).map fun r => r.mark) hy
    have hm := List.mem_of_getElem? hy
    have a1 := ml y hm
    have a2 := zl i
    have a3 := h2 y hm
    refine ⟨_, _, (bg_tup rfl (bgs_cons (bg_name (i := 2) nd) (bgs_cons (bg_name (i := 3) nd) (bgs_nil))) 2), ?_⟩
    refine ST.norm (ds' := [_, _, _, _, _]) rfl ?_
    try dsimp only
    rw [e]
    exact st_ext (i := 1) (L2 := (y.rules.filter fun r => !decide (r.mark.s = ("" : Str))).map fun r => r.mark) (fun _ => Im.k) (BP.is (be_lc (φ := Rule.d) (ys := y.rules) (f := fun r => .str r.mark.s) (keep := fun r => !decide (r.mark.s = ("" : Str))) (is := [4]) (g := _) (own := [("_law_rule", 4)]) ⟨rfl, nd, blkOk_by (N := ["_law_states", "_law_found", "_law_end", "_law_rules", "_law_rule"]) (sc := defScope s87) (own := [("_law_rule", 4)]) (by decide +kernel), by decide, fun y hy X' hX => by have su := hX.sur su; obtain ⟨_, _, _, _, _, rfl⟩ := hX.ex; exact bg_name (i := 4) nd, fun y hy X' hX => by have su := hX.sur su; obtain ⟨_, _, _, _, _, rfl⟩ := hX.ex; exact bts_one (tq_neS su.u64 (be_ix (be_var 4) be_int) be_str), fun y hy hk X' hX => by have su := hX.sur su; obtain ⟨_, _, _, _, _, rfl⟩ := hX.ex; exact be_ix (be_var 4) be_int, fun y d hy hk e => by subst e; exact Im.k⟩ (bie_tup (be_var 3)) (by omega)) (by rw [List.map_map]; rfl)) (ls_mut nq).at (st_rch rfl (by repeat first | exact Wk.nil | apply Wk.keep | apply Wk.drop)) (by omega)
  · intro H1
    rw [take_len]
    have few : (marksSt l).length < 64 := by
      have := zl l.length
      rw [take_len] at this
      show (l.flatMap fun s => (s.rules.filter fun r => !decide (r.mark.s = ("" : Str))).map fun r => r.mark).length < 64
      omega
    exact st_retE (be_sortedSetA (l := marksSt l) (strSK P w) kdW wd_inj stW su.u64 rfl T.f_sorted T.f_set ls_rd.at (imm_map (fun _ => Im.k) _) (be_var 1) few) (Ret.at (Ret.push (rt _ rfl)))
end
end K23


-- text K1
set_option Elab.async false
set_option linter.all false
set_option maxRecDepth 100000
set_option maxHeartbeats 2000000
namespace K23
open PySem PySem.Spec PyProof.Rows L2

/-! ## 42. the protocols that the law knows -/
abbrev wKept : Wd := wd "kept"
abbrev wDrop : Wd := wd "dropped"
def oneRound : Proto :=
  ⟨⟨[⟨w0, [⟨.able, wKept, true, [(wd "keep", wMembers)], 1⟩, ⟨.unable, wDrop, true, [(wd "drop", wMembers)], 2⟩]⟩, ⟨wKept, []⟩, ⟨wDrop, []⟩], [(w0, 2), (wDrop, 2), (wKept, 1)]⟩,
   ⟨[⟨w0, [⟨.some (wd "keep"), wKept, true, [], 1⟩, ⟨.some (wd "drop"), wDrop, true, [], 2⟩, ⟨.unable, wDrop, true, [], 2⟩]⟩, ⟨wKept, []⟩, ⟨wDrop, []⟩], [(w0, 0), (wDrop, 2), (wKept, 1)]⟩⟩
def twoRounds (sure : Bool) : Proto :=
  let dr : List Sd := [(wd "drop", wMembers)]
  let kp : List Sd := [(wd "keep", wMembers)]
  let out : Rule := ⟨.unable, wDrop, sure, [(wd "no", wLeader)], 3⟩
  ⟨⟨[⟨w0, [⟨.able, w0, false, [(wd "ask", wMembers)], 1⟩, ⟨.unable, wDrop, sure, dr, 3⟩]⟩, ⟨w0, [⟨.each (wd "yes"), wKept, sure, kp, 2⟩, ⟨.some (wd "no"), wDrop, sure, dr, 3⟩, ⟨.timer, wDrop, sure, dr, 3⟩]⟩, ⟨wKept, [⟨.some (wd "what"), w0, false, kp, 2⟩]⟩, ⟨wDrop, [⟨.some (wd "what"), w0, false, dr, 3⟩]⟩], [(w0, 3), (wDrop, 3), (wKept, 2)]⟩,
   ⟨[⟨w0, [⟨.some (wd "ask"), w0, false, [], 1⟩, out]⟩, ⟨w0, [⟨.able, wd "yes", sure, [(wd "yes", wLeader)], 2⟩, out]⟩, ⟨w0, [⟨.some (wd "keep"), wKept, sure, [], 4⟩, ⟨.some (wd "drop"), wDrop, sure, [], 3⟩, ⟨.timer, w0, false, [(wd "what", wLeader)], 2⟩]⟩, ⟨wDrop, []⟩, ⟨wKept, []⟩], [(w0, 3), (wDrop, 3), (wKept, 4), (wd "yes", 2)]⟩⟩
def KNOWN : List Proto := [oneRound, twoRounds true, twoRounds false]
end K23

-- text K2
set_option Elab.async false
set_option linter.all false
set_option maxRecDepth 100000
set_option maxHeartbeats 2000000
namespace K23
open PySem PySem.Spec PyProof.Rows L2
def ruleOkB (lead : Bool) (n : Nat) (r : Rule) : Bool := r.cause.kinds.all (fun k => decide (k ∈ NAMES)) && (decide (r.mark ∈ NAMES) || (decide (r.mark = w0) && !r.forced)) && decide (r.sends.length ≤ 4) && r.sends.all (fun p => decide (p.1 ∈ NAMES) && decide (p.2 ∈ rcvs lead)) && decide (r.goes < n)
theorem ruleOk_of {lead : Bool} {n : Nat} {r : Rule} (h : ruleOkB lead n r = true) : r.Ok lead n := by
  unfold ruleOkB at h
  simp only [Bool.and_eq_true, Bool.or_eq_true, List.all_eq_true, decide_eq_true_eq, Bool.not_eq_true'] at h
  obtain ⟨⟨⟨⟨h1, h2⟩, h3⟩, h4⟩, h5⟩ := h
  exact ⟨h1, h2, h3, h4, h5⟩
def statesOkB (lead : Bool) (l : List State) : Bool := decide (1 ≤ l.length) && decide (l.length ≤ 12) && l.all fun s => decide (s.fin ∈ FINS) && decide (s.rules.length ≤ 6) && s.rules.all (ruleOkB lead l.length)
theorem statesOk_of {lead : Bool} {l : List State} (h : statesOkB lead l = true) : 1 ≤ l.length ∧ l.length ≤ 12 ∧ ∀ s ∈ l, s.Ok lead l.length := by
  unfold statesOkB at h
  simp only [Bool.and_eq_true, List.all_eq_true, decide_eq_true_eq] at h
  obtain ⟨⟨h1, h2⟩, h3⟩ := h
  exact ⟨h1, h2, fun s hs => ⟨(h3 s hs).1.1, (h3 s hs).1.2, fun r hr => ruleOk_of ((h3 s hs).2 r hr)⟩⟩
theorem known_states : (KNOWN.all fun p => statesOkB true p.leader.states && statesOkB false p.member.states) = true := by decide +kernel
end K23

-- text K3
set_option Elab.async false
set_option linter.all false
set_option maxRecDepth 100000
set_option maxHeartbeats 2000000
namespace K23
open PySem PySem.Spec PyProof.Rows L2
theorem mem_marksSt {l : List State} {m : Wd} : m ∈ marksSt l ↔ ∃ s ∈ l, ∃ r ∈ s.rules, r.mark.s ≠ ("" : Str) ∧ r.mark = m := by
  unfold marksSt
  simp only [List.mem_flatMap, List.mem_map, List.mem_filter, Bool.not_eq_true', decide_eq_false_iff_not]
  exact ⟨fun ⟨s, hs, r, ⟨h1, h2⟩, h3⟩ => ⟨s, hs, r, h1, h2, h3⟩, fun ⟨s, hs, r, h1, h2, h3⟩ => ⟨s, hs, r, ⟨h1, h2⟩, h3⟩⟩
theorem marksIn_eq (ρ : Role) : marksIn ρ = srt Wd.d (dd (marksSt ρ.states)) := by
  unfold marksIn
  refine kdW.up_eq (kdW.up (dd_nodup _)) (kdW.up (dd_nodup _)) fun m => ?_
  rw [srt_mem, srt_mem, dd_mem, dd_mem, mem_marksSt]
  simp only [List.mem_map, List.mem_filter, Bool.not_eq_true', decide_eq_false_iff_not]
  constructor
  · rintro ⟨t, ⟨h1, h2⟩, h3⟩
    obtain ⟨st, a, b⟩ := mem_rulesOf h1
    exact ⟨st, a, _, b, h2, h3⟩
  · rintro ⟨s, hs, r, hr, h2, h3⟩
    obtain ⟨a, b, h⟩ := rulesOf_mem hs hr
    exact ⟨_, ⟨h, h2⟩, h3⟩
theorem role_ok {b : Bool} {ρ : Role} (h : statesOkB b ρ.states = true) (hm : ρ.ups.map (·.1) = w0 :: srt Wd.d (dd (marksSt ρ.states))) (hu : ∀ x ∈ ρ.ups, x.2 < ρ.states.length) : ρ.Ok b := by
  obtain ⟨h1, h2, h3⟩ := statesOk_of h
  exact ⟨h1, h2, h3, hu, by rw [marksIn_eq]; exact hm⟩
end K23

-- text K4
set_option Elab.async false
set_option linter.all false
set_option maxRecDepth 100000
set_option maxHeartbeats 2000000
namespace K23
open PySem PySem.Spec PyProof.Rows L2
theorem marks_known {l : List State} {m : List Wd} (u : Up Wd.d m) (h : ∀ a, a ∈ marksSt l ↔ a ∈ m) : srt Wd.d (dd (marksSt l)) = m :=
  kdW.up_eq (kdW.up (dd_nodup _)) u fun a => by rw [srt_mem, dd_mem]; exact h a
theorem up_kd : Up Wd.d [wDrop, wKept] := by
  refine List.pairwise_cons.mpr ⟨fun a ha => ?_, List.pairwise_cons.mpr ⟨(fun a ha => by cases ha), List.Pairwise.nil⟩⟩
  rw [List.mem_singleton.mp ha]
  decide +kernel
theorem up_kdy : Up Wd.d [wDrop, wKept, wd "yes"] := by
  refine List.pairwise_cons.mpr ⟨fun a ha => ?_, List.pairwise_cons.mpr ⟨fun a ha => ?_, List.pairwise_cons.mpr ⟨(fun a ha => by cases ha), List.Pairwise.nil⟩⟩⟩
  · rcases List.mem_cons.mp ha with z | z
    · rw [z]; decide +kernel
    · rw [List.mem_singleton.mp z]; decide +kernel
  · rw [List.mem_singleton.mp ha]
    decide +kernel
theorem same_of {l m : List Wd} (h : (l.all fun a => decide (a ∈ m)) = true) (k : (m.all fun a => decide (a ∈ l)) = true) (a : Wd) : a ∈ l ↔ a ∈ m :=
  ⟨fun z => of_decide_eq_true (List.all_eq_true.mp h a z), fun z => of_decide_eq_true (List.all_eq_true.mp k a z)⟩
theorem oneRound_ok : oneRound.Ok :=
  ⟨role_ok (by decide +kernel) (by rw [marks_known up_kd (same_of (by decide +kernel) (by decide +kernel))]; rfl) (by decide +kernel), role_ok (by decide +kernel) (by rw [marks_known up_kd (same_of (by decide +kernel) (by decide +kernel))]; rfl) (by decide +kernel)⟩
theorem twoRounds_ok (b : Bool) : (twoRounds b).Ok := by
  cases b <;> exact ⟨role_ok (by decide +kernel) (by rw [marks_known up_kd (same_of (by decide +kernel) (by decide +kernel))]; rfl) (by decide +kernel), role_ok (by decide +kernel) (by rw [marks_known up_kdy (same_of (by decide +kernel) (by decide +kernel))]; rfl) (by decide +kernel)⟩
end K23

-- text K5
set_option Elab.async false
set_option linter.all false
set_option maxRecDepth 100000
set_option maxHeartbeats 2000000
namespace K23
open PySem PySem.Spec PyProof.Rows L2
def sendsSt (l : List State) : List Wd := l.flatMap fun s => s.rules.flatMap fun r => r.sends.map (·.1)
theorem mem_sendsOf {ρ : Role} {k : Wd} : k ∈ sendsOf ρ → k ∈ sendsSt ρ.states := by
  unfold sendsOf sendsSt
  simp only [List.mem_flatMap]
  rintro ⟨t, h1, h2⟩
  obtain ⟨st, a, b⟩ := mem_rulesOf h1
  exact ⟨st, a, _, b, h2⟩
theorem slim_of {ρ : Role} (L : List Wd) (hL : L.length ≤ 3) (h : ∀ k ∈ sendsSt ρ.states, k ∈ L) : Slim ρ := ⟨L, hL, fun k hk => h k (mem_sendsOf hk)⟩
def sendL : List Wd := [wd "ask", wd "keep", wd "drop"]
def sendM : List Wd := [wd "yes", wd "no", wd "what"]
theorem known_sends : (KNOWN.all fun p => (sendsSt p.leader.states).all (fun k => decide (k ∈ sendL)) && (sendsSt p.member.states).all fun k => decide (k ∈ sendM)) = true := by decide +kernel
end K23

-- text D4
set_option Elab.async false
set_option linter.all false
set_option maxRecDepth 100000
set_option maxHeartbeats 2000000
namespace K23
open PySem PySem.Spec PyProof.Rows L2
instance : SOk "tworounds" := ⟨by decide +kernel⟩
def knownOf (z : Str) : Proto := if z = ("oneround" : Str) then oneRound else twoRounds (!decide (z = ("lazy" : Str)))
section
variable {P : Program} {w : World} {K : PySem.W.Frag} {mg : Str → Option Value} {base : Heap}
theorem w__law_known (T : Top K mg) : Fn P w K mg base 1 "_law_known" ["_law_word"] (fun1 fun ds d => ∃ z : Str, ds = [.str z] ∧ SOk z ∧ d = (knownOf z).d) := by
  obtain ⟨f, fd, hm, F⟩ := T.e86
  have S : FnScope ["_law_word", "_law_sure", "_law_leader", "_law_rules", "_law_ups", "_law_drop", "_law_keep", "_law_first_here", "_law_second", "_law_out", "_law_third", "_law_member"] ["_law_word"] (defScope s86) := ⟨rfl, rfl, rfl, by decide +kernel, rfl, by decide +kernel, by decide +kernel⟩
  refine fn_mk (k := 0) F hm S (F.bindsN (ps := ["_law_word"]) fun _ _ _ _ _ _ us hl => match us, hl with | [_], _ => rfl) (fun M ds P r => by obtain ⟨_, ⟨z, rfl, hz, rfl⟩, rfl⟩ := r; rfl) ?_
  rintro cdv A fr s M _ _ H0 E su ⟨_, ⟨z, rfl, hz, rfl⟩, rfl⟩ rt nx
  have nd := S.nd
  refine ST.norm (ds' := [_, _, _, _, _, _, _, _, _, _, _, _]) rfl ?_
  refine st_set (i := 1) (hN := nd) (d := .bl (!decide (z = ("lazy" : Str)))) (bq_neS su.u64 (be_var 0) be_str) ?_
  refine ST.norm (ds' := [_, _, _, _, _, _, _, _, _, _, _, _]) rfl ?_
  refine st_ifE (q := decide (z = ("oneround" : Str))) (tq_eqS su.u64 (be_var 0) be_str) (fun c => ?_) (fun c => ?_)
  · have e : knownOf z = oneRound := if_pos (of_decide_eq_true c)
    rw [e] at rt
    refine st_set (i := 2) (hN := nd) (be_tup (bae (be_tup (bae be_str (bae (be_tup (bae (be_tup (bae (be_tup (bae be_str ba_nil)) (bae be_str (bae be_bl (bae (be_tup (bae (be_tup (bae be_str (bae be_str ba_nil))) ba_nil)) (bae be_int ba_nil)))))) (bae (be_tup (bae (be_tup (bae be_str ba_nil)) (bae be_str (bae be_bl (bae (be_tup (bae (be_tup (bae be_str (bae be_str ba_nil))) ba_nil)) (bae be_int ba_nil)))))) ba_nil))) ba_nil))) (bae (be_tup (bae be_str (bae (be_tup ba_nil) ba_nil))) (bae (be_tup (bae be_str (bae (be_tup ba_nil) ba_nil))) ba_nil)))) ?_
    refine ST.norm (ds' := [_, _, _, _, _, _, _, _, _, _, _, _]) rfl ?_
    refine st_set (i := 3) (hN := nd) (be_tup (bae (be_tup (bae (be_tup (bae be_str (bae be_str ba_nil))) (bae be_str (bae be_bl (bae (be_tup ba_nil) (bae be_int ba_nil)))))) (bae (be_tup (bae (be_tup (bae be_str (bae be_str ba_nil))) (bae be_str (bae be_bl (bae (be_tup ba_nil) (bae be_int ba_nil)))))) (bae (be_tup (bae (be_tup (bae be_str ba_nil)) (bae be_str (bae be_bl (bae (be_tup ba_nil) (bae be_int ba_nil)))))) ba_nil)))) ?_
    refine ST.norm (ds' := [_, _, _, _, _, _, _, _, _, _, _, _]) rfl ?_
    refine st_set (i := 4) (hN := nd) (be_tup (bae (be_tup (bae be_str (bae be_int ba_nil))) (bae (be_tup (bae be_str (bae be_int ba_nil))) ba_nil))) ?_
    refine ST.norm (ds' := [_, _, _, _, _, _, _, _, _, _, _, _]) rfl ?_
    exact st_retE (be_tup (bae (be_tup (bae (be_var 2) (bae (be_catT (be_tup (bae (be_tup (bae be_str (bae be_int ba_nil))) ba_nil)) (be_var 4) (by first | decide | assumption | (simp [PySem.sizeLine]; done) | omega)) ba_nil))) (bae (be_tup (bae (be_tup (bae (be_tup (bae be_str (bae (be_var 3) ba_nil))) (bae (be_tup (bae be_str (bae (be_tup ba_nil) ba_nil))) (bae (be_tup (bae be_str (bae (be_tup ba_nil) ba_nil))) ba_nil)))) (bae (be_catT (be_tup (bae (be_tup (bae be_str (bae be_int ba_nil))) ba_nil)) (be_var 4) (by first | decide | assumption | (simp [PySem.sizeLine]; done) | omega)) ba_nil))) ba_nil))) (rt _ rfl)
  · have e : knownOf z = twoRounds (!decide (z = ("lazy" : Str))) := if_neg (of_decide_eq_false c)
    rw [e] at rt
    generalize (!decide (z = ("lazy" : Str))) = b at rt ⊢
    refine st_then ?_
    refine st_unpack (be_tup (bae (be_tup (bae (be_tup (bae be_str (bae be_str ba_nil))) ba_nil)) (bae (be_tup (bae (be_tup (bae be_str (bae be_str ba_nil))) ba_nil)) ba_nil))) (bg_tup rfl (bgs_cons (bg_name (i := 5) nd) (bgs_cons (bg_name (i := 6) nd) (bgs_nil))) 2) ?_
    refine ST.norm (ds' := [_, _, _, _, _, _, _, _, _, _, _, _]) rfl ?_
    refine st_set (i := 7) (hN := nd) (be_tup (bae (be_tup (bae (be_tup (bae be_str ba_nil)) (bae be_str (bae be_bl (bae (be_tup (bae (be_tup (bae be_str (bae be_str ba_nil))) ba_nil)) (bae be_int ba_nil)))))) (bae (be_tup (bae (be_tup (bae be_str ba_nil)) (bae be_str (bae (be_var 1) (bae (be_var 5) (bae be_int ba_nil)))))) ba_nil))) ?_
    refine ST.norm (ds' := [_, _, _, _, _, _, _, _, _, _, _, _]) rfl ?_
    refine st_set (i := 8) (hN := nd) (be_tup (bae (be_tup (bae (be_tup (bae be_str (bae be_str ba_nil))) (bae be_str (bae (be_var 1) (bae (be_var 6) (bae be_int ba_nil)))))) (bae (be_tup (bae (be_tup (bae be_str (bae be_str ba_nil))) (bae be_str (bae (be_var 1) (bae (be_var 5) (bae be_int ba_nil)))))) (bae (be_tup (bae (be_tup (bae be_str ba_nil)) (bae be_str (bae (be_var 1) (bae (be_var 5) (bae be_int ba_nil)))))) ba_nil)))) ?_
    refine ST.norm (ds' := [_, _, _, _, _, _, _, _, _, _, _, _]) rfl ?_
    refine st_set (i := 2) (hN := nd) (be_tup (bae (be_tup (bae be_str (bae (be_var 7) ba_nil))) (bae (be_tup (bae be_str (bae (be_var 8) ba_nil))) (bae (be_tup (bae be_str (bae (be_tup (bae (be_tup (bae (be_tup (bae be_str (bae be_str ba_nil))) (bae be_str (bae be_bl (bae (be_var 6) (bae be_int ba_nil)))))) ba_nil)) ba_nil))) (bae (be_tup (bae be_str (bae (be_tup (bae (be_tup (bae (be_tup (bae be_str (bae be_str ba_nil))) (bae be_str (bae be_bl (bae (be_var 5) (bae be_int ba_nil)))))) ba_nil)) ba_nil))) ba_nil))))) ?_
    refine ST.norm (ds' := [_, _, _, _, _, _, _, _, _, _, _, _]) rfl ?_
    refine st_set (i := 9) (hN := nd) (be_tup (bae (be_tup (bae be_str ba_nil)) (bae be_str (bae (be_var 1) (bae (be_tup (bae (be_tup (bae be_str (bae be_str ba_nil))) ba_nil)) (bae be_int ba_nil)))))) ?_
    refine ST.norm (ds' := [_, _, _, _, _, _, _, _, _, _, _, _]) rfl ?_
    refine st_par (a2 := .Constant .none 0 ⟨0, 0, 0, 0⟩) (i := 7) (j := 8) rfl (be_tup (bae (be_tup (bae (be_tup (bae be_str (bae be_str ba_nil))) (bae be_str (bae be_bl (bae (be_tup ba_nil) (bae be_int ba_nil)))))) (bae (be_var 9) ba_nil))) (be_tup (bae (be_tup (bae (be_tup (bae be_str ba_nil)) (bae be_str (bae (be_var 1) (bae (be_tup (bae (be_tup (bae be_str (bae be_str ba_nil))) ba_nil)) (bae be_int ba_nil)))))) (bae (be_var 9) ba_nil))) ?_ nd
    refine ST.norm (ds' := [_, _, _, _, _, _, _, _, _, _, _, _]) rfl ?_
    refine st_set (i := 10) (hN := nd) (be_tup (bae (be_tup (bae (be_tup (bae be_str (bae be_str ba_nil))) (bae be_str (bae (be_var 1) (bae (be_tup ba_nil) (bae be_int ba_nil)))))) (bae (be_tup (bae (be_tup (bae be_str (bae be_str ba_nil))) (bae be_str (bae (be_var 1) (bae (be_tup ba_nil) (bae be_int ba_nil)))))) (bae (be_tup (bae (be_tup (bae be_str ba_nil)) (bae be_str (bae be_bl (bae (be_tup (bae (be_tup (bae be_str (bae be_str ba_nil))) ba_nil)) (bae be_int ba_nil)))))) ba_nil)))) ?_
    refine ST.norm (ds' := [_, _, _, _, _, _, _, _, _, _, _, _]) rfl ?_
    refine st_set (i := 11) (hN := nd) (be_tup (bae (be_tup (bae be_str (bae (be_var 7) ba_nil))) (bae (be_tup (bae be_str (bae (be_var 8) ba_nil))) (bae (be_tup (bae be_str (bae (be_var 10) ba_nil))) (bae (be_tup (bae be_str (bae (be_tup ba_nil) ba_nil))) (bae (be_tup (bae be_str (bae (be_tup ba_nil) ba_nil))) ba_nil)))))) ?_
    refine ST.norm (ds' := [_, _, _, _, _, _, _, _, _, _, _, _]) rfl ?_
    exact st_retE (be_tup (bae (be_tup (bae (be_var 2) (bae (be_tup (bae (be_tup (bae be_str (bae be_int ba_nil))) (bae (be_tup (bae be_str (bae be_int ba_nil))) (bae (be_tup (bae be_str (bae be_int ba_nil))) ba_nil)))) ba_nil))) (bae (be_tup (bae (be_var 11) (bae (be_tup (bae (be_tup (bae be_str (bae be_int ba_nil))) (bae (be_tup (bae be_str (bae be_int ba_nil))) (bae (be_tup (bae be_str (bae be_int ba_nil))) (bae (be_tup (bae be_str (bae be_int ba_nil))) ba_nil))))) ba_nil))) ba_nil))) (rt _ rfl)
end
end K23


-- text A31
set_option Elab.async false
set_option linter.all false
set_option maxRecDepth 100000
set_option maxHeartbeats 2000000
namespace K23
open PySem PySem.Spec PyProof.Rows L2

/-! ## 43. answers that are not known exactly -/
theorem Reach.of {X : Cx} {H1 : Hp} {I : Md → List (Option D) → Prop} {M' : Md} {ds ds0 : List (Option D)} {E' : Ends} (inv : I M' ds0) (e : E'.nx = Reach X H1 I) (w : Wk ds0 ds) : ST X (M'.at H1) ds [] E' :=
  st_nil fun σ H en wm => by rw [e]; exact ⟨M', ds0, inv, en.weak w, wm⟩
section
variable {α : Type} {X : Cx} {M : Md} {ds : List (Option D)} {e e1 e2 e3 a b : Expr} {es : List Expr} {rest : List Stmt} {E : Ends} {pos p : Pos} {P : D → Prop} {q : Addr} {x : Str}
/-- found.append(e), e one of several things -/
theorem st_appP {i : Nat} {f : α → D} {L : List α} {Pa : α → Prop} {M' : α → Md} {p apos cpos : Pos} (im : ∀ a, (f a).imm = true) (he : BP X M ds e fun d => ∃ a, Pa a ∧ d = f a) (mu : ∀ a, Mut X.K M (M' a) q (L.map f) (L.map f ++ [a].map f)) (k : ∀ a, Pa a → ST X (M' a) ds rest E) (rd : Rdl X.K M q (L.map f)) (hz : L.length < sizeLine)
    (h : ds[i]? = some (some (.adr q)) := by rfl) (hN : X.N[i]? = some x := by rfl) (hv : Vis X.env.scope x := by first | exact Or.inl rfl | exact Or.inr (Or.inl rfl) | exact Or.inr (Or.inr rfl)) (hd : (x == ("__debug__" : Str)) = false := by decide) (hc : (x == ("__classdict__" : Str)) = false := by decide)
    (hbase : attributeBase (.Name x p) "append" X.env (eval (.Name x p) X.env) = eval (.Name x p) X.env := by rfl)
    (hfew : ((backTo cpos (starEach [e] X.env)).all (fun x => !x.1) && (backToKw cpos (keywordEach [] X.env)).all (fun x => x.1.isSome) && decide (([e] : List Expr).length + ([] : List Keyword).length + (if ([] : List Keyword).isEmpty then 0 else 1) < 30)) = true := by rfl)
    (hline : (apos.endLine == cpos.line) = true := by rfl) (hs : starEach [e] X.env = (false, eval e X.env) :: starEach [] X.env := by rfl) (hplain : (backTo cpos (starEach [] X.env)).any (·.1) = false := by rfl) (hsw : swapsWith (.Call (.Attribute (.Name x p) "append" apos) [e] [] cpos) none pos.line X.env = pure false := by rfl) :
    ST X M ds (.Expr (.Call (.Attribute (.Name x p) "append" apos) [e] [] cpos) pos :: rest) E := by
  classical
  by_cases z : ∃ a, Pa a
  · refine st_append (M' := fun d => if hd : ∃ a, Pa a ∧ d = f a then M' hd.choose else M) he (fun d pd => ?_) (fun d pd => ?_) rd (fun d pd => by obtain ⟨a, _, rfl⟩ := pd; exact im a) (imm_map im L) (by rw [List.length_map]; exact hz) h hN hv hd hc hbase hfew hline hs hplain hsw
    · rw [dif_pos pd]
      have m := mu pd.choose
      rw [show [pd.choose].map f = [d] by rw [List.map_cons, ← pd.choose_spec.2]; rfl] at m
      exact m
    · rw [dif_pos pd]
      exact k _ pd.choose_spec.1
  · refine st_append (M' := fun _ => M) (P := fun _ => False) (he.imp fun d ⟨a, h1, _⟩ => z ⟨a, h1⟩) (fun d pd => pd.elim) (fun d pd => pd.elim) rd (fun d pd => pd.elim) (imm_map im L) (by rw [List.length_map]; exact hz) h hN hv hd hc hbase hfew hline hs hplain hsw
/-- a call whose promise hangs on the arguments -/
theorem pe_fnI {k : Nat} {ps : List Str} {R : Rel} {L : List D → Prop} (F : Fn X.prog X.w X.K X.mg X.base k x ps R) (su : Sur X k) (hl : ∀ l, L l → l.length = ps.length) (ha : BA X M ds (e :: es) L) (h : ∀ l, L l → ∃ P', R M l P' ∧ ∀ d, P' d → P d) (hg : Gl X x := by rfl) (hdb : (x == ("__debug__" : Str)) = false := by decide)
    (he : starEach (e :: es) X.env = (false, eval e X.env) :: starEach es X.env := by rfl) (hpl : (backTo pos (starEach es X.env)).any (·.1) = false := by rfl) : BP X M ds (.Call (.Name x p) (e :: es) [] pos) P := by
  obtain ⟨f, fd, hm, hk, _, hb, F⟩ := F.ex
  refine ⟨⟨fun pins s σ H Q I q => ?_⟩⟩
  obtain ⟨en, w, kk⟩ := q
  refine wpAny_Call_Name_kw (ld_glob I hg hm ?_ hdb)
  refine PySem.W.callWith_K (h₀ := X.base) I.ok.mod.kin hk ?_ he hpl
  refine thn (ha.pa.run pos pins s σ H (fun vs H1 => sgR X.K R vs H1 Q) I ⟨en, w, fun l vs H1 pl e1 w1 i1 => ?_⟩) ?_
  · obtain ⟨P', r, imp⟩ := h l pl
    exact ⟨M, l, P', r, w1, i1, fun d v H2 pd e2 w2 i2 => kk d v H2 (imp d pd) (e1.trans e2) w2 i2⟩
  · rintro us s1 ⟨vs, H1, I1, r, q⟩
    exact ⟨I1.kIn, fng_call F su.gd su.room I1 hb r q⟩
/-- one argument fixed, one of several -/
theorem ba_two {d1 : D} {P2 : D → Prop} (h1 : BE X M ds e1 d1) (h2 : BP X M ds e2 P2) (hs : starEach [e1, e2] X.env = (false, eval e1 X.env) :: starEach [e2] X.env := by rfl) (hs2 : starEach [e2] X.env = (false, eval e2 X.env) :: starEach [] X.env := by rfl) :
    BA X M ds [e1, e2] fun l => ∃ d2, P2 d2 ∧ l = [d1, d2] :=
  ba_cons (L := fun l => ∃ d2, P2 d2 ∧ l = [d2]) h1 (ba_cons (L := fun l => l = []) h2 ba_nil (fun d l pd pl => ⟨d, pd, by rw [pl]⟩) hs2) (fun d l pd ⟨d2, p2, pl⟩ => ⟨d2, p2, by rw [pd, pl]⟩) hs
/-- all items of a display are so -/
abbrev BAP (X : Cx) (M : Md) (ds : List (Option D)) (es : List Expr) (n : Nat) (P : D → Prop) : Prop := BA X M ds es fun l => l.length = n ∧ ∀ x ∈ l, P x
theorem bap_nil : BAP X M ds [] 0 P := ⟨PA.imp pa_nil fun σ H Q q => q.2.2 [] [] H ⟨rfl, fun x hx => by cases hx⟩ (Ex.refl H) q.2.1 .nil⟩
theorem bap {n : Nat} (h : BP X M ds e P) (t : BAP X M ds es n P) (hs : starEach (e :: es) X.env = (false, eval e X.env) :: starEach es X.env := by rfl) : BAP X M ds (e :: es) (n + 1) P :=
  ba_cons h t (fun d l pd ⟨h1, h2⟩ => ⟨by rw [List.length_cons, h1], fun x hx => by
    rcases List.mem_cons.mp hx with z | z
    · rw [z]; exact pd
    · exact h2 x z⟩) hs
theorem bp_lstP {n : Nat} (h : BAP X M ds es n P) (hn : n ≤ 1000 := by decide) : BP X M ds (.List es pos) fun d => ∃ l, d = .lst l ∧ l.length = n ∧ ∀ x ∈ l, P x :=
  bp_lst h (fun l pl => ⟨l, rfl, pl⟩) fun l pl => by rw [pl.1]; exact Nat.le_trans hn (by decide)
/-! ### dicts of our own, handed to a call -/
theorem bdn_new : BDN X M ds (.Dict [] [] pos) [] := ⟨PE.imp pe_dnewK fun σ H Q ⟨en, w, k⟩ t nt => k t _ (Ex.new nt) (Md.new w nt) (Md.freeS w nt) (Md.free w nt) upd_same⟩
theorem bp_call3D {k : Nat} {ps : List Str} {R : Rel} {q0 : Addr} {d2 : D} {kvs : List (Key × V)} (F : Fn X.prog X.w X.K X.mg X.base k x ps R) (su : Sur X k) (h1 : BE X M ds e1 (.adr q0)) (h2 : BE X M ds e2 d2) (i2 : d2.imm = true) (h3 : BDN X M ds e3 kvs)
    (h : ∀ t, ¬ M.dep t → R (M.own t (dK kvs) (dK_nt _)) [.adr q0, d2, .adr t] P) (hg : Gl X x := by rfl) (hdb : (x == ("__debug__" : Str)) = false := by decide)
    (he : starEach [e1, e2, e3] X.env = (false, eval e1 X.env) :: starEach [e2, e3] X.env := by rfl) (he2 : starEach [e2, e3] X.env = (false, eval e2 X.env) :: starEach [e3] X.env := by rfl) (he3 : starEach [e3] X.env = (false, eval e3 X.env) :: starEach [] X.env := by rfl) (hpl : (backTo pos (starEach [e2, e3] X.env)).any (·.1) = false := by rfl) :
    BP X M ds (.Call (.Name x p) [e1, e2, e3] [] pos) P := by
  obtain ⟨f, fd, hm, hk, _, hb, F⟩ := F.ex
  refine ⟨⟨fun pins s σ H Q I q => ?_⟩⟩
  obtain ⟨en, w, kk⟩ := q
  refine wpAny_Call_Name_kw (ld_glob I hg hm ?_ hdb)
  refine PySem.W.callWith_K (h₀ := X.base) I.ok.mod.kin hk ?_ he hpl
  have pa := pa_cons h1.pe (pa_cons h2.pe (pa_cons h3.pe pa_nil he3) he2) he
  refine thn (pa.run pos pins s σ H (fun vs H1 => sgR X.K R vs H1 Q) I ⟨en, w, fun x1 v1 H1 p1 ex1 w1 j1 => ⟨en.mono ex1 fun _ z => z, w1, fun x2 v2 H2 p2 ex2 w2 j2 => ⟨(en.mono ex1 fun _ z => z).mono ex2 fun _ z => z, w2, fun t H3 ex3 w3 nS nD h3 => ?_⟩⟩⟩) ?_
  · rw [p1] at j1
    rw [p2] at j2
    cases j1
    refine ⟨M.own t (dK kvs) (dK_nt _), _, P, h t nD, ⟨w3, h3⟩, .cons (.adr _) (.cons (j2.imm ex3 i2) (.cons (.adr _) .nil)), fun d v H4 pd e4 w4 i4 => ?_⟩
    refine kk d v H4 pd ?_ w4.1 (i4.sub fun a _ _ z => .inl z)
    have e04 := (ex1.trans ex2).trans ex3
    refine ⟨fun a o ho nb => ?_, fun a xs ho => e4.tup a xs (e04.tup a xs ho), fun a o u ho => e4.frz a o u (e04.frz a o u ho), fun a ho => e4.dom a (e04.dom a ho)⟩
    by_cases c : a = t
    · subst c
      have z3 := e04.old a o ho nb
      rw [h3] at z3
      cases z3
      exact w4.2
    · exact e4.old a o (e04.old a o ho nb) fun z => z.elim nb c
  · rintro us s1 ⟨vs, H1, I1, r, q⟩
    exact ⟨I1.kIn, fng_call F su.gd su.room I1 hb r q⟩
end
end K23

-- text A32
set_option Elab.async false
set_option linter.all false
set_option maxRecDepth 100000
set_option maxHeartbeats 2000000
namespace K23
open PySem PySem.Spec PyProof.Rows L2
section
variable {α β : Type} {X : Cx} {M : Md} {ds : List (Option D)} {e k a b : Expr} {es : List Expr} {rest : List Stmt} {E : Ends} {pos p : Pos} {P P1 P2 : D → Prop} {q : Addr} {x y : Str}
/-- k in d, d a dict of our own -/
theorem bt_inD {kvs : List (Key × V)} {b : Key} {d : Expr} (hu : X.A.units + 64 < cLine) (rd : Rdo M q (dK kvs)) (hk : BE X M ds k (keyD b)) (hd : BE X M ds d (.adr q)) (hb : behindInMarks .In d = false := by rfl) : BTE X M ds (.Compare k [.In] [d] pos) (valV kvs b).isSome :=
  .of (pt_cmp (pc_din (by omega) hk.pe hd.pe) hb) fun σ H Q en w kk => ⟨en, w, fun d1 v1 H1 p1 e1 w1 i1 => ⟨en.mono e1 fun _ z => z, w1, fun d2 v2 H2 p2 e2 w2 i2 => by
    subst p1 p2
    cases i2
    exact ⟨q, _, rfl, by rw [i1.key]; exact DGet.k (rd H2 w2), _, rfl, kk _ H2 rfl (e1.trans e2) w2⟩⟩⟩
/-- a, b = x, y: plain names, one of several things each -/
theorem st_parP {i j : Nat} {px py pt : Pos} {kt k2 pt2} (hc : X.calm = true) (ha : BP X M ds a P1) (hb : BP X M ds b P2) (kk : ∀ d1 d2, P1 d1 → P2 d2 → ST X M ((ds.set i (some d1)).set j (some d2)) rest E) (hN : X.N.Nodup) (hi : X.N[i]? = some x := by rfl) (hj : X.N[j]? = some y := by rfl) (hij : i ≠ j := by decide)
    (hx : X.env.scope.names.lookup x = some .local := by rfl) (hy : X.env.scope.names.lookup y = some .local := by rfl) (hw : swappedStores [.Tuple [.Name x px, .Name y py] kt pt] (.Tuple [a, b] k2 pt2) X.env = pure (some [x, y]) := by rfl)
    (hs : swapsWithSole [.Tuple [.Name x px, .Name y py] kt pt] (.Tuple [a, b] k2 pt2) pos.line X.env = pure false := by rfl) (he : starEach [a, b] X.env = (false, eval a X.env) :: starEach [b] X.env := by rfl) (he2 : starEach [b] X.env = (false, eval b X.env) :: starEach [] X.env := by rfl) :
    ST X M ds (.Assign [.Tuple [.Name x px, .Name y py] kt pt] (.Tuple [a, b] k2 pt2) pos :: rest) E :=
  st_of (ps_par hc hN hi hj hij hx hy (pa_cons ha.pe (pa_cons hb.pe pa_nil he2) he) hw hs) fun σ H en w => ⟨en, w, fun d1 v1 H1 p1 e1 w1 i1 => ⟨en.mono e1 fun _ z => z, w1, fun d2 v2 H2 p2 e2 w2 i2 =>
    ⟨v1, v2, rfl, (kk d1 d2 p1 p2).go _ _ ((((en.mono e1 fun _ z => z).mono e2 fun _ z => z).set (i1.mono e2 fun _ z => z)).set i2) w2⟩⟩⟩
/-- a, b = x, []: the list is our own -/
theorem st_parL {i j : Nat} {px py pt pl : Pos} {kt k2 pt2} (f : α → D) (im : ∀ a, (f a).imm = true) (hc : X.calm = true) (ha : BP X M ds a P1) (i1 : ∀ d, P1 d → d.imm = true) (kk : ∀ d1, P1 d1 → ∀ q, ¬ M.dep q → ST X (M.ls X.K q f im []) ((ds.set i (some d1)).set j (some (.adr q))) rest E) (hN : X.N.Nodup) (hi : X.N[i]? = some x := by rfl) (hj : X.N[j]? = some y := by rfl) (hij : i ≠ j := by decide)
    (hx : X.env.scope.names.lookup x = some .local := by rfl) (hy : X.env.scope.names.lookup y = some .local := by rfl) (hw : swappedStores [.Tuple [.Name x px, .Name y py] kt pt] (.Tuple [a, .List [] pl] k2 pt2) X.env = pure (some [x, y]) := by rfl)
    (hs : swapsWithSole [.Tuple [.Name x px, .Name y py] kt pt] (.Tuple [a, .List [] pl] k2 pt2) pos.line X.env = pure false := by rfl) (he : starEach [a, .List [] pl] X.env = (false, eval a X.env) :: starEach [.List [] pl] X.env := by rfl) (he2 : starEach [.List [] pl] X.env = (false, eval (.List [] pl) X.env) :: starEach [] X.env := by rfl) :
    ST X M ds (.Assign [.Tuple [.Name x px, .Name y py] kt pt] (.Tuple [a, .List [] pl] k2 pt2) pos :: rest) E :=
  st_of (ps_par hc hN hi hj hij hx hy (pa_cons ha.pe (pa_cons (pe_lst pa_nil) pa_nil he2) he) hw hs) fun σ H en w => ⟨en, w, fun d1 v1 H1 p1 e1 w1 j1 => ⟨Nat.zero_le _, fun q nq => by
    obtain ⟨w2, en2, nd⟩ := Md.push_en (K := X.K) (hi := imm_map im []) w1 (en.mono e1 fun _ z => z) nq .nil
    exact ⟨v1, .ref q, rfl, (kk d1 p1 q nd).go _ _ ((en2.set (j1.imm (Ex.new (B := NoA) (o := .lst []) nq) (i1 d1 p1))).set (.adr q)) w2⟩⟩⟩
/-- a, b = [], [e]: both are our own -/
theorem st_parLL {i j : Nat} {px py pt pl pm : Pos} {kt k2 pt2} (f : α → D) (im : ∀ a, (f a).imm = true) (g : β → D) (im2 : ∀ a, (g a).imm = true) {c : β} (hc : X.calm = true) (hb : ∀ q, ¬ M.dep q → BE X (M.ls X.K q f im []) ds e (g c))
    (kk : ∀ q q', ¬ M.dep q → ¬ (M.ls X.K q f im []).dep q' → ST X ((M.ls X.K q f im []).ls X.K q' g im2 [c]) ((ds.set i (some (.adr q))).set j (some (.adr q'))) rest E) (hN : X.N.Nodup) (hi : X.N[i]? = some x := by rfl) (hj : X.N[j]? = some y := by rfl) (hij : i ≠ j := by decide)
    (hx : X.env.scope.names.lookup x = some .local := by rfl) (hy : X.env.scope.names.lookup y = some .local := by rfl) (hw : swappedStores [.Tuple [.Name x px, .Name y py] kt pt] (.Tuple [.List [] pl, .List [e] pm] k2 pt2) X.env = pure (some [x, y]) := by rfl)
    (hs : swapsWithSole [.Tuple [.Name x px, .Name y py] kt pt] (.Tuple [.List [] pl, .List [e] pm] k2 pt2) pos.line X.env = pure false := by rfl) (he : starEach [.List [] pl, .List [e] pm] X.env = (false, eval (.List [] pl) X.env) :: starEach [.List [e] pm] X.env := by rfl) (he2 : starEach [.List [e] pm] X.env = (false, eval (.List [e] pm) X.env) :: starEach [] X.env := by rfl)
    (he3 : starEach [e] X.env = (false, eval e X.env) :: starEach [] X.env := by rfl) :
    ST X M ds (.Assign [.Tuple [.Name x px, .Name y py] kt pt] (.Tuple [.List [] pl, .List [e] pm] k2 pt2) pos :: rest) E := by
  have pe : PE X e (fun σ H Q => ∃ q, ¬ M.dep q ∧ tD X.K (M.ls X.K q f im []) ds (fun z => z = g c) σ H Q) := by
    refine ⟨fun pins s σ H Q I z0 => ?_⟩
    obtain ⟨q, nq, z⟩ := z0
    exact (hb q nq).pe.run pins s σ H Q I z
  refine st_of (ps_par hc hN hi hj hij hx hy (pa_cons (pe_lst pa_nil) (pa_cons (pe_lst (pa_cons pe pa_nil he3)) pa_nil he2) he) hw hs) fun σ H en w => ⟨Nat.zero_le _, fun q nq => ?_⟩
  obtain ⟨w1, en1, nd⟩ := Md.push_en (K := X.K) (hi := imm_map im []) w en nq .nil
  refine ⟨q, nd, en1, w1, fun d1 v1 H1 p1 e1 w2 j1 => ⟨by show 1 ≤ sizeLine; decide, fun q' nq' => ?_⟩⟩
  subst p1
  obtain ⟨w3, en3, nd'⟩ := Md.push_en (K := X.K) (hi := imm_map im2 [c]) w2 (en1.mono e1 fun _ z => z) nq' (xs := [v1]) (.cons (j1.imm (Ex.refl (B := NoA) H1) (im2 c)) .nil)
  exact ⟨.ref q, .ref q', rfl, (kk q q' nd nd').go _ _ ((en3.set (.adr q)).set (.adr q')) w3⟩
/-- a, .. = e, e one of several things -/
theorem st_unpackP {tg : Expr} {ds2 : D → List (Option D)} {is : List Nat} (h : BP X M ds e P) (g : ∀ d, P d → BG X M tg d ds (ds2 d) is) (kk : ∀ d, P d → ST X M (ds2 d) rest E) (hs : swapsWithSole [tg] e pos.line X.env = pure false := by rfl) (hw : swappedStores [tg] e X.env = pure none := by rfl)
    (h1 : (assignEach [tg] X.env).map (·.2) = [assign tg X.env] := by rfl) : ST X M ds (.Assign [tg] e pos :: rest) E := by
  let tg' : TG := fun v σ H Q => ∃ d, P d ∧ tG X.K M d ds (ds2 d) is v σ H Q
  have pg : PG X tg tg' := ⟨fun pins s σ H v u Q I r ⟨d, pd, z⟩ => (g d pd).pg.run pins s σ H v u Q I r z⟩
  exact st_of (ps_asg h.pe pg hs hw h1) fun σ H en w => ⟨en, w, fun d v H1 p1 e1 w1 i1 => ⟨d, p1, en.mono e1 fun _ z => z, i1, fun σ' en' _ => (kk d p1).go _ _ en' w1⟩⟩
end
end K23

-- text A33
set_option Elab.async false
set_option linter.all false
set_option maxRecDepth 100000
set_option maxHeartbeats 2000000
namespace K23
open PySem PySem.Spec PyProof.Rows L2
/-- behind a turn: one of several states -/
def RchP {β : Type} (X : Cx) (H1 : Hp) (St : β → Md) (Pv : β → Prop) (ds : List (Option D)) : L2.St → Hp → Prop := fun σ H => ∃ b, Pv b ∧ En X.K (St b).S H σ ds ∧ ((St b).at H1).W H
section
variable {α β : Type} {X : Cx} {M : Md} {ds : List (Option D)} {tg iter a : Expr} {body rest : List Stmt} {E : Ends} {pos p : Pos}
theorem st_forP {φ : α → D} {Yp : List α → Prop} (hi : BI X M ds tg iter fun z => ∃ ys, Yp ys ∧ z = ys.map φ) (St : β → Md) (Pv : List α → Nat → β → Prop) (b0 : β) (h0 : St b0 = M) (p0 : ∀ ys, Yp ys → Pv ys 0 b0) (hS : ∀ b, (St b).S = M.S)
    (turn : ∀ H1 ys i y b, Yp ys → ys[i]? = some y → Pv ys i b → ∃ ds2 is, BG X ((St b).at H1) tg (φ y) ds ds2 is ∧ ST X ((St b).at H1) ds2 body { E with nx := RchP X H1 St (Pv ys (i + 1)) ds, ct := RchP X H1 St (Pv ys (i + 1)) ds, bk := fun σ H => wS X rest E σ H })
    (done : ∀ H1 ys b, Yp ys → Pv ys ys.length b → ST X ((St b).at H1) ds rest E) (hc : X.calm = true := by rfl) (hp : PassesOwn (model X.prog X.w) X.A X.env X.xe := by exact PassesOwn.never) (hs : ∀ x, foldedSetIterable iter X.env x = pure x := by intro _; rfl) : ST X M ds (.For tg iter body [] pos :: rest) E := by
  refine st_for (Ys := fun z => ∃ ys, Yp ys ∧ z = ys.map φ) hc hp hi (fun zs i M' ds' => ∃ ys b, Yp ys ∧ zs = ys.map φ ∧ Pv ys i b ∧ M' = St b ∧ ds' = ds) (fun zs ⟨ys, y1, y2⟩ => ⟨ys, b0, y1, y2, p0 ys y1, h0.symm, rfl⟩) (fun zs i M' ds' h => by
    obtain ⟨ys, b, _, _, _, h, _⟩ := h
    rw [h]
    exact hS b) ?_ ?_ hs
  · rintro H1 zs i z M' ds' _ hz ⟨ys, b, y1, y2, pv, rfl, rfl⟩
    rw [y2] at hz
    obtain ⟨y, hy, rfl⟩ := getElem_map_some hz
    obtain ⟨ds2, is, g, st⟩ := turn H1 ys i y b y1 hy pv
    refine ⟨ds2, is, g, ST.le ?_ st⟩
    refine ⟨fun σ H h => ?_, fun _ _ h => h, fun _ _ h => h, fun σ H h => ?_⟩
    · obtain ⟨b', p', en, w⟩ := h
      exact ⟨St b', ds', ⟨ys, b', y1, y2, p', rfl, rfl⟩, en, w⟩
    · obtain ⟨b', p', en, w⟩ := h
      exact ⟨St b', ds', ⟨ys, b', y1, y2, p', rfl, rfl⟩, en, w⟩
  · rintro H1 zs M' ds' _ ⟨ys, b, y1, y2, pv, rfl, rfl⟩
    rw [y2, List.length_map] at pv
    exact done H1 ys b y1 pv
theorem st_rchP {H1 : Hp} {St : β → Md} {Pv : β → Prop} {ds0 : List (Option D)} {E' : Ends} (b : β) (pv : Pv b) (e : E'.nx = RchP X H1 St Pv ds0) (w : Wk ds0 ds) : ST X ((St b).at H1) ds [] E' :=
  st_nil fun σ H en wm => by rw [e]; exact ⟨b, pv, en.weak w, wm⟩
/-- what is walked is known -/
theorem bi_known {φ : α → D} {ys : List α} (h : BIE X M ds tg iter (ys.map φ)) : BI X M ds tg iter fun z => ∃ zs, zs = ys ∧ z = zs.map φ := h.imp fun z e => ⟨ys, rfl, e⟩
/-- range(e), e one of several numbers -/
theorem bi_rngP {N : Nat → Prop} (hm : X.mg "range" = none) (ha : BP X M ds a fun d => ∃ n : Nat, N n ∧ d = .int n) (hN : ∀ n, N n → n ≤ 1000) (hg : Gl X "range" := by rfl) (he : starEach [a] X.env = (false, eval a X.env) :: starEach [] X.env := by rfl) (hs : starEach [a] X.env = [(false, eval a X.env)] := by rfl) :
    BI X M ds tg (.Call (.Name "range" p) [a] [] pos) fun z => ∃ ys, (∃ n, N n ∧ ys = List.range n) ∧ z = ys.map natD :=
  (bi_range1 (N := fun i => ∃ n : Nat, N n ∧ i = n) hm (ha.imp fun d ⟨n, h1, h2⟩ => ⟨n, h2, n, h1, rfl⟩) (fun i ⟨n, h1, h2⟩ => by
    have := hN n h1
    omega) hg he hs).imp fun z ⟨i, ⟨n, h1, h2⟩, h3⟩ => ⟨List.range n, ⟨n, h1, rfl⟩, by
      rw [h3, h2, show (0 : Int) = ((0 : Nat) : Int) from rfl, rngD_nat, Int.toNat_natCast, List.range_eq_range']⟩
end
end K23

-- text D5
set_option Elab.async false
set_option linter.all false
set_option maxRecDepth 100000
set_option maxHeartbeats 2000000
namespace K23
open PySem PySem.Spec PyProof.Rows L2
section
variable {k0 : Nat} {X : Cx} {M : Md} {ds : List (Option D)} {e1 e2 : Expr} {es : List Expr} {pos p : Pos} {P : D → Prop} {q q2 : Addr}
theorem bp_draw {many : Nat} (T : Top X.K X.mg) (su : Sur X 1) (kd : Deck M q q2) (h1 : BE X M ds e1 (.adr q)) (h2 : BE X M ds e2 (.int many)) (m1 : 1 ≤ many) (m2 : many ≤ 1000) (hg : Gl X "_law_draw" := by rfl)
    (he : starEach [e1, e2] X.env = (false, eval e1 X.env) :: starEach [e2] X.env := by rfl) (he2 : starEach [e2] X.env = (false, eval e2 X.env) :: starEach [] X.env := by rfl) (hpl : (backTo pos (starEach [e2] X.env)).any (·.1) = false := by rfl) : BP X M ds (.Call (.Name "_law_draw" p) [e1, e2] [] pos) fun d => ∃ k : Nat, k < many ∧ d = .int k :=
  bp_call (w__law_draw T) su (bae h1 (bae h2 ba_nil he2) he) ⟨q, q2, many, kd, rfl, m1, m2, rfl⟩ rfl hg (by decide) he hpl
theorem bp_pick (T : Top X.K X.mg) (su : Sur X 2) (kd : Deck M q q2) (h1 : BE X M ds e1 (.adr q)) (h2 : BP X M ds e2 fun d => ∃ l, d = .lst l ∧ 1 ≤ l.length ∧ l.length ≤ 1000 ∧ ∀ x ∈ l, P x) (hg : Gl X "_law_pick" := by rfl)
    (he : starEach [e1, e2] X.env = (false, eval e1 X.env) :: starEach [e2] X.env := by rfl) (he2 : starEach [e2] X.env = (false, eval e2 X.env) :: starEach [] X.env := by rfl) (hpl : (backTo pos (starEach [e2] X.env)).any (·.1) = false := by rfl) : BP X M ds (.Call (.Name "_law_pick" p) [e1, e2] [] pos) P :=
  pe_fnI (w__law_pick T) su (fun l ⟨d2, _, e⟩ => by rw [e]; rfl) (ba_two h1 h2 he he2) (fun l ⟨d2, ⟨es, e, l1, l2, a⟩, el⟩ => ⟨_, ⟨q, q2, es, kd, by rw [el, e], l1, l2, rfl⟩, a⟩) hg (by decide) he hpl
theorem bp_pickE {l : List D} (T : Top X.K X.mg) (su : Sur X 2) (kd : Deck M q q2) (h1 : BE X M ds e1 (.adr q)) (h2 : BE X M ds e2 (.lst l)) (m1 : 1 ≤ l.length) (m2 : l.length ≤ 1000) (hg : Gl X "_law_pick" := by rfl)
    (he : starEach [e1, e2] X.env = (false, eval e1 X.env) :: starEach [e2] X.env := by rfl) (he2 : starEach [e2] X.env = (false, eval e2 X.env) :: starEach [] X.env := by rfl) (hpl : (backTo pos (starEach [e2] X.env)).any (·.1) = false := by rfl) : BP X M ds (.Call (.Name "_law_pick" p) [e1, e2] [] pos) fun d => d ∈ l :=
  bp_pick T su kd h1 (h2.imp fun d e => ⟨l, e, m1, m2, fun _ h => h⟩) hg he he2 hpl
end
theorem ups_val {us : List UpP} {b : Key} {v : V} (h : valV (upsV us) b = some v) : ∃ u ∈ us, v = .int (u.2 : Nat) := by
  unfold valV at h
  cases c : (upsV us).find? (fun p => decide (p.1 = b)) with
  | none => rw [c] at h; cases h
  | some z =>
    rw [c] at h
    cases h
    obtain ⟨u, hu, e⟩ := List.mem_map.mp (List.mem_of_find?_eq_some c)
    exact ⟨u, hu, by rw [← e]⟩
/-- a role with the states l and ups for just their marks -/
def RoleOf (l : List State) (d : D) : Prop := ∃ ups : List UpP, ups.map (·.1) = w0 :: srt Wd.d (dd (marksSt l)) ∧ (∀ p ∈ ups, p.2 < l.length) ∧ d = (⟨l, ups⟩ : Role).d
def withR : Rel := fun M ds P => ∃ (q q2 p0 : Addr) (us : List UpP) (l : List State), Deck M q q2 ∧ Rdo M p0 (dK (upsV us)) ∧ ds = [.adr q, .tup (l.map State.d), .adr p0] ∧ 1 ≤ l.length ∧ l.length ≤ 6 ∧ (∀ s ∈ l, s.rules.length ≤ 6) ∧ (∀ u ∈ us, u.2 < l.length) ∧ P = RoleOf l
theorem marksSt_len {l : List State} (h1 : l.length ≤ 6) (h2 : ∀ s ∈ l, s.rules.length ≤ 6) : (srt Wd.d (dd (marksSt l))).length ≤ 36 := by
  rw [srt_len]
  refine Nat.le_trans (dd_len _) ?_
  have ml : ∀ y ∈ l, ((y.rules.filter fun r => !decide (r.mark.s = ("" : Str))).map fun r => r.mark).length ≤ 6 := fun y hy => by
    rw [List.length_map]
    exact Nat.le_trans (List.length_filter_le _ _) (h2 y hy)
  have zl := fm_len (f := fun s : State => (s.rules.filter fun r => !decide (r.mark.s = ("" : Str))).map fun r => r.mark) (l := l) (c := 6) ml l.length
  rw [take_len] at zl
  show (l.flatMap fun s => (s.rules.filter fun r => !decide (r.mark.s = ("" : Str))).map fun r => r.mark).length ≤ 36
  omega
section
variable {P : Program} {w : World} {K : PySem.W.Frag} {mg : Str → Option Value} {base : Heap}
theorem w__law_with_ups (T : Top K mg) : Fn P w K mg base 2 "_law_with_ups" ["_law_deck_here", "_law_states", "_law_ups"] (withR) := by
  obtain ⟨f, fd, hm, F⟩ := T.e88
  have S : FnScope ["_law_deck_here", "_law_states", "_law_ups", "_law_found", "_law_mark"] ["_law_deck_here", "_law_states", "_law_ups"] (defScope s88) := ⟨rfl, rfl, rfl, by decide +kernel, rfl, by decide +kernel, by decide +kernel⟩
  refine fn_mk (k := 1) F hm S (F.bindsN (ps := ["_law_deck_here", "_law_states", "_law_ups"]) fun _ _ _ _ _ _ us hl => match us, hl with | [_, _, _], _ => rfl) (fun M ds P r => by obtain ⟨q, q2, p0, us, l, kd, rd, rfl, h1, h2, h3, h4, rfl⟩ := r; rfl) ?_
  rintro cdv A fr s M _ _ H0 E su ⟨q, q2, p0, us, l, kd, rd, rfl, h1, h2, h3, h4, rfl⟩ rt nx
  have nd := S.nd
  refine ST.norm (ds' := [_, _, _, _, _]) rfl ?_
  have ml := marksSt_len h2 h3
  have ll : (l.map State.d).length ≤ 6 := by rw [List.length_map]; exact h2
  generalize em : srt Wd.d (dd (marksSt l)) = ms at ml rt
  refine st_nl (i := 3) upD (fun _ => Im.k) (fun t nt => ?_) nd
  refine ST.norm (ds' := [_, _, _, _, _]) rfl ?_
  refine st_forP (φ := Wd.d) (Yp := fun z => z = w0 :: ms) (bi_known (bie_lst (BP.is (be_catL (be_lst (bae be_str ba_nil)) (BP.is (be_call (w__law_marks T) (su.mono (by decide)) (bae (be_var 1) ba_nil) (⟨l, rfl, h2, h3, rfl⟩)) (by rw [em])) (by
    rw [List.length_map]
    have : 100 ≤ sizeLine := by decide
    show 1 + ms.length ≤ sizeLine
    omega)) rfl))) (fun L : List UpP => (M.at H0).ls K t upD (fun _ => Im.k) L) (fun ys i L => L.map (·.1) = ys.take i ∧ ∀ p ∈ L, p.2 < l.length) [] rfl (fun _ _ => ⟨rfl, fun p hp => by cases hp⟩) (fun _ => rfl) ?_ ?_
  · rintro H1 ys i y L rfl hy ⟨e1, e2⟩
    have hi := (List.getElem?_eq_some_iff.mp hy).1
    have kd2 : Deck (((M.at H0).ls K t upD (fun _ => Im.k) L).at H1) q q2 := (Deck.ls kd.at nt).at
    have rd2 : Rdo (((M.at H0).ls K t upD (fun _ => Im.k) L).at H1) p0 (dK (upsV us)) := (Rdo.push (Rdo.at rd)).at
    have hL : L.length ≤ 37 := by
      have := congrArg List.length e1
      rw [List.length_map, List.length_take] at this
      have h9 : (w0 :: ms).length = ms.length + 1 := rfl
      omega
    refine ⟨_, _, (bg_name (i := 4) nd), ?_⟩
    refine ST.norm (ds' := [_, _, _, _, _]) rfl ?_
    refine st_appP (i := 3) (f := upD) (Pa := fun a : UpP => a.1 = y ∧ a.2 < l.length) (M' := fun a => ((M.at H0).ls K t upD (fun _ => Im.k) (L ++ [a])).at H1) (fun _ => Im.k) (bp_tup (L := fun z => ∃ d2, (∃ k : Nat, k < l.length ∧ d2 = .int k) ∧ z = [y.d, d2]) (P := fun d => ∃ a : UpP, (a.1 = y ∧ a.2 < l.length) ∧ d = upD a)
      (ba_two (d1 := y.d) (P2 := fun d => ∃ k : Nat, k < l.length ∧ d = .int k) (be_var 4) (bp_if (bt_inD (b := Sum.inr y.s) su.u64 rd2 (be_var 4) (be_var 2)) (fun c => ?_) (fun _ => BP.imp (bp_draw T (su.mono (by decide)) kd2 (be_var 0) (be_len T.f_len (be_var 1)) (by first | decide | omega | (simp only [List.length_map, List.length_cons, List.length_append, List.length_nil]; omega) | (simp; omega)) (by first | decide | omega | (simp only [List.length_map, List.length_cons, List.length_append, List.length_nil]; omega) | (simp; omega))) (by rintro d ⟨k, hk, e⟩; exact ⟨k, by rw [List.length_map] at hk; exact hk, e⟩)))) ?_ ?_) (fun a => (ls_mut nt).at) ?_ ls_rd.at ?_
    · obtain ⟨v, hv⟩ := Option.isSome_iff_exists.mp c.symm
      obtain ⟨u, hu, ev⟩ := ups_val hv
      exact BP.imp (be_dget (b := Sum.inr y.s) (du := .int (u.2 : Nat)) su.u64 rd2 (be_var 2) (be_var 4) hv (fun _ _ => by rw [ev]; exact .int _)) fun d e => ⟨u.2, h4 u hu, e⟩
    · rintro z ⟨d2, ⟨k, hk, e⟩, e'⟩
      exact ⟨(y, k), ⟨rfl, hk⟩, by rw [e', e]; rfl⟩
    · rintro z ⟨d2, _, e'⟩
      rw [e']
      show 2 ≤ sizeLine
      decide
    · intro a ⟨a1, a2⟩
      refine st_rchP (L ++ [a]) ⟨?_, ?_⟩ rfl (by repeat first | exact Wk.nil | apply Wk.keep | apply Wk.drop)
      · rw [List.map_append, e1, List.take_succ, hy, List.map_cons, a1]
        rfl
      · intro p hp
        rcases List.mem_append.mp hp with z | z
        · exact e2 p z
        · rw [List.mem_singleton.mp z]
          exact a2
    · have : 100 ≤ sizeLine := by decide
      omega
  · rintro H1 ys L rfl ⟨e1, e2⟩
    rw [take_len] at e1
    exact st_ret (BP.imp (be_tup (bae (be_var 1) (bae (be_tupleOfA ls_rd.at (imm_map (fun _ => Im.k) _) T.f_tuple (be_var 3)) ba_nil))) fun d e => e) fun d e => by
      rw [e]
      exact Ret.at (Ret.push (rt _ ⟨L, e1.trans (by rw [em]), e2, rfl⟩))
end
end K23


-- text A34
set_option Elab.async false
set_option linter.all false
set_option maxRecDepth 100000
set_option maxHeartbeats 2000000
namespace K23
open PySem PySem.Spec PyProof.Rows L2
section
variable {α β : Type} {X : Cx} {M : Md} {ds : List (Option D)} {e a b : Expr} {es : List Expr} {body rest : List Stmt} {E : Ends} {pos p : Pos} {P : D → Prop} {N : Nat → Prop}
theorem bp_addN {m : Nat} (ha : BE X M ds a (.int m)) (hb : BP X M ds b fun d => ∃ k : Nat, N k ∧ d = .int k) : BP X M ds (.BinOp a .Add b pos) fun d => ∃ k : Nat, N k ∧ d = .int (m + k : Nat) :=
  bp_op op_add ha hb fun x y hx ⟨k, hk, hy⟩ => by
    rw [hx, hy]
    have := o_I0 (K := X.K) (M := M) (g := fun i j => V.int (i + j)) (i := (m : Int)) (j := (k : Int)) (d := .int ((m : Int) + k)) fun _ => .int _
    exact fun v u H Q w i1 i2 kk => this v u H Q w i1 i2 fun d z H' pd => kk d z H' ⟨k, hk, by rw [pd, Int.natCast_add]⟩
theorem bp_gtN {j : Int} (ha : BP X M ds a fun d => ∃ k : Nat, N k ∧ d = .int k) (hb : BE X M ds b (.int j)) : BP X M ds (.Compare a [.Gt] [b] pos) fun d => ∃ c : Bool, d = .bl c :=
  bp_cmp op_gt (nomark _) ha hb fun x y ⟨k, hk, hx⟩ hy => by
    rw [hx, hy]
    have := o_I0 (K := X.K) (M := M) (g := fun i j => V.bl (decide (j < i))) (i := (k : Int)) (j := j) (d := .bl (decide (j < (k : Int)))) fun _ => .bl _
    exact fun v u H Q w i1 i2 kk => this v u H Q w i1 i2 fun d z H' pd => kk d z H' ⟨_, pd⟩
theorem bt_gtN {j : Int} (ha : BP X M ds a fun d => ∃ k : Nat, N k ∧ d = .int k) (hb : BE X M ds b (.int j)) : BT X M ds (.Compare a [.Gt] [b] pos) fun _ => True :=
  bt_cmp op_gt (nomark _) ha hb fun x y ⟨k, hk, hx⟩ hy => by
    rw [hx, hy]
    have := o_I0 (K := X.K) (M := M) (g := fun i j => V.bl (decide (j < i))) (i := (k : Int)) (j := j) (d := .bl (decide (j < (k : Int)))) fun _ => .bl _
    exact fun v u H Q w i1 i2 kk => this v u H Q w i1 i2 fun d z H' pd => kk d z H' ⟨_, pd, trivial⟩
theorem ba_k {d : D} {L : List D → Prop} (h : BE X M ds e d) (t : BA X M ds es L) (hs : starEach (e :: es) X.env = (false, eval e X.env) :: starEach es X.env := by rfl) : BA X M ds (e :: es) fun l => ∃ r, L r ∧ l = d :: r :=
  ba_cons h t (fun x r hx hr => ⟨r, hr, by rw [hx]⟩) hs
theorem ba_p {L : List D → Prop} (h : BP X M ds e P) (t : BA X M ds es L) (hs : starEach (e :: es) X.env = (false, eval e X.env) :: starEach es X.env := by rfl) : BA X M ds (e :: es) fun l => ∃ d r, P d ∧ L r ∧ l = d :: r :=
  ba_cons h t (fun x r hx hr => ⟨x, r, hx, hr, rfl⟩) hs
theorem bp_tupleOfP {L : List D → Prop} (hm : X.mg "tuple" = none) (ha : BP X M ds e fun d => ∃ l, d = .lst l ∧ L l) (hg : Gl X "tuple" := by rfl) (he : starEach [e] X.env = (false, eval e X.env) :: starEach [] X.env := by rfl) (hpl : (backTo pos (starEach [] X.env)).any (·.1) = false := by rfl) :
    BP X M ds (.Call (.Name "tuple" p) [e] [] pos) fun d => ∃ l, d = .tup l ∧ L l :=
  bp_callTy call_tuple_of hm (by decide +kernel) (ba_cons (R := fun l => ∃ l', l = [.lst l'] ∧ L l') ha ba_nil (fun d r ⟨l, e1, e2⟩ hr => ⟨l, by rw [e1, hr], e2⟩) he) (fun _ ⟨l, q, hl⟩ => by
    rw [q]
    exact .pure1 fun v H Q w i k => by
      cases i with
      | lst h1 _ h2 => exact ⟨_, _, rfl, .inl ⟨.of h1, fun t nt => k _ _ _ ⟨l, rfl, hl⟩ (Ex.new nt) (Md.new w nt) (.tup upd_same (h2.mono (B := NoA) (Ex.new nt) fun _ z => z.elim))⟩⟩) hg (by decide) (by decide) he hpl
theorem typed {f : α → D} {Pa : α → Prop} : ∀ {l : List D}, (∀ d ∈ l, ∃ a, Pa a ∧ d = f a) → ∃ L : List α, l = L.map f ∧ ∀ a ∈ L, Pa a
  | [], _ => ⟨[], rfl, fun a h => by cases h⟩
  | d :: l, h => by
    obtain ⟨a, pa, e⟩ := h d List.mem_cons_self
    obtain ⟨L, e2, h2⟩ := typed (l := l) fun x hx => h x (List.mem_cons_of_mem _ hx)
    exact ⟨a :: L, by rw [e, e2]; rfl, fun x hx => by
      rcases List.mem_cons.mp hx with z | z
      · rw [z]; exact pa
      · exact h2 x z⟩
theorem CR.all {keep : α → Bool} {Pe : α → D → Prop} : ∀ {ys : List α} {l : List D}, CR keep Pe ys l → ∀ d ∈ l, ∃ y ∈ ys, Pe y d
  | _, _, .nil, d, h => by cases h
  | _, _, .skip _ t, d, h => let ⟨y, h1, h2⟩ := CR.all t d h; ⟨y, List.mem_cons_of_mem _ h1, h2⟩
  | _, _, .take _ p t, d, h => by
    rcases List.mem_cons.mp h with z | z
    · exact ⟨_, List.mem_cons_self, by rw [z]; exact p⟩
    · obtain ⟨y, h1, h2⟩ := CR.all t d z
      exact ⟨y, List.mem_cons_of_mem _ h1, h2⟩
/-- the end of a turn, from a state that knows more -/
theorem st_rchPw {H1 : Hp} {St : β → Md} {Pv : β → Prop} {ds0 : List (Option D)} {E' : Ends} (b : β) (pv : Pv b) (hw : ∀ H, M.W H → ((St b).at H1).W H) (hs : ∀ a, (St b).S a → M.S a) (e : E'.nx = RchP X H1 St Pv ds0) (w : Wk ds0 ds) : ST X M ds [] E' :=
  st_nil fun σ H en wm => by rw [e]; exact ⟨b, pv, (en.weak w).sub fun a _ _ z => hs a z, hw H wm⟩
end
end K23

-- text D6
set_option Elab.async false
set_option linter.all false
set_option maxRecDepth 100000
set_option maxHeartbeats 2000000
namespace K23
open PySem PySem.Spec PyProof.Rows L2
/-- what the law draws: a cause, a letter, a rule, a state -/
def CauseDr (ks : List Wd) (c : Cause) : Prop := ∀ k ∈ c.kinds, k ∈ ks
def SendDr (lead : Bool) (ks : List Wd) (s : Sd) : Prop := s.1 ∈ ks ∧ s.2 ∈ rcvs lead
structure RuleDr (lead : Bool) (ks ms : List Wd) (many : Nat) (r : Rule) : Prop where
  cause : CauseDr ks r.cause
  mark : r.mark ∈ ms ++ [w0]
  forced : r.mark.s = ("" : Str) → r.forced = false
  len : r.sends.length ≤ 2
  sends : ∀ s ∈ r.sends, SendDr lead ks s
  goes : r.goes < many
structure StateDr (lead : Bool) (ks ms : List Wd) (many : Nat) (s : State) : Prop where
  fin : s.fin ∈ FINS
  len : s.rules.length ≤ 3
  rules : ∀ r ∈ s.rules, RuleDr lead ks ms many r
/-- a drawn role is a role -/
theorem drawn_ok {lead : Bool} {ks ms : List Wd} {l : List State} {d : D} (hk : ∀ k ∈ ks, k ∈ NAMES) (hm : ∀ m ∈ ms, m ∈ NAMES) (h3 : ks.length ≤ 3) (l1 : 1 ≤ l.length) (l2 : l.length ≤ 4) (hs : ∀ s ∈ l, StateDr lead ks ms l.length s) (h : RoleOf l d) :
    ∃ ρ : Role, d = ρ.d ∧ ρ.Ok lead ∧ Slim ρ := by
  obtain ⟨ups, u1, u2, rfl⟩ := h
  refine ⟨⟨l, ups⟩, rfl, ⟨l1, by show l.length ≤ 12; omega, fun s hs' => ?_, u2, by rw [marksIn_eq]; exact u1⟩, slim_of ks h3 fun k z => ?_⟩
  · have g := hs s hs'
    refine ⟨g.fin, by have := g.len; omega, fun r hr => ?_⟩
    have q := g.rules r hr
    refine ⟨fun k z => hk k (q.cause k z), ?_, by have := q.len; omega, fun p hp => ⟨hk _ (q.sends p hp).1, (q.sends p hp).2⟩, q.goes⟩
    rcases List.mem_append.mp q.mark with z | z
    · exact .inl (hm _ z)
    · have e := List.mem_singleton.mp z
      exact .inr ⟨e, q.forced (by rw [e])⟩
  · unfold sendsSt at z
    obtain ⟨s, hs', z⟩ := List.mem_flatMap.mp z
    obtain ⟨r, hr, z⟩ := List.mem_flatMap.mp z
    obtain ⟨x, hx, rfl⟩ := List.mem_map.mp z
    exact (((hs s hs').rules r hr).sends x hx).1
def drawnR : Rel := fun M ds P => ∃ (q q2 : Addr) (lead : Bool) (ks ms : List Wd), Deck M q q2 ∧ ds = [.adr q, .bl lead, .lst (ks.map Wd.d), .lst (ms.map Wd.d)] ∧ 1 ≤ ks.length ∧ ks.length ≤ 3 ∧ (∀ k ∈ ks, k ∈ NAMES) ∧ ms.length ≤ 3 ∧ (∀ m ∈ ms, m ∈ NAMES) ∧ P = fun d => ∃ ρ : Role, d = ρ.d ∧ ρ.Ok lead ∧ Slim ρ
theorem send_dr (lead : Bool) (ks : List Wd) : ∀ z : List D, (∃ d r, d ∈ ks.map Wd.d ∧ (∃ d' r', d' ∈ (rcvs lead).map Wd.d ∧ r' = [] ∧ r = d' :: r') ∧ z = d :: r) → ∃ s : Sd, SendDr lead ks s ∧ D.tup z = sdD s := by
  rintro z ⟨d, r, hd, ⟨d', r', hd', rfl, rfl⟩, rfl⟩
  obtain ⟨k, hk, rfl⟩ := List.mem_map.mp hd
  obtain ⟨t, ht, rfl⟩ := List.mem_map.mp hd'
  exact ⟨(k, t), ⟨hk, ht⟩, rfl⟩
theorem send_sz (lead : Bool) (ks : List Wd) : ∀ z : List D, (∃ d r, d ∈ ks.map Wd.d ∧ (∃ d' r', d' ∈ (rcvs lead).map Wd.d ∧ r' = [] ∧ r = d' :: r') ∧ z = d :: r) → z.length ≤ sizeLine := by
  rintro z ⟨d, r, hd, ⟨d', r', hd', rfl, rfl⟩, rfl⟩
  show 2 ≤ sizeLine
  decide
theorem range_dr : ∀ d : D, d ∈ [D.int 1, .int 0, .int 1, .int 2] → ∃ n : Nat, n ≤ 2 ∧ d = .int n := fun d h => by
  simp only [List.mem_cons, List.not_mem_nil, or_false] at h
  rcases h with z | z | z | z
  · exact ⟨1, by decide, z⟩
  · exact ⟨0, by decide, z⟩
  · exact ⟨1, by decide, z⟩
  · exact ⟨2, by decide, z⟩
section
variable {P : Program} {w : World} {K : PySem.W.Frag} {mg : Str → Option Value} {base : Heap}
theorem w__law_drawn_role (T : Top K mg) : Fn P w K mg base 3 "_law_drawn_role" ["_law_deck_here", "_law_is_leader", "_law_kinds", "_law_marks_here"] (drawnR) := by
  obtain ⟨f, fd, hm, F⟩ := T.e89
  have S : FnScope ["_law_deck_here", "_law_is_leader", "_law_kinds", "_law_marks_here", "_law_many", "_law_states", "_law_at", "_law_rules", "_law_turn", "_law_cause", "_law_mark", "_law_ends_here", "_law_letters", "_law_k"] ["_law_deck_here", "_law_is_leader", "_law_kinds", "_law_marks_here"] (defScope s89) := ⟨rfl, rfl, rfl, by decide +kernel, rfl, by decide +kernel, by decide +kernel⟩
  refine fn_mk (k := 2) F hm S (F.bindsN (ps := ["_law_deck_here", "_law_is_leader", "_law_kinds", "_law_marks_here"]) fun _ _ _ _ _ _ us hl => match us, hl with | [_, _, _, _], _ => rfl) (fun M ds P r => by obtain ⟨q, q2, lead, ks, ms, kd, rfl, k1, k2, k3, m1, m2, rfl⟩ := r; rfl) ?_
  rintro cdv A fr s M _ _ H0 E su ⟨q, q2, lead, ks, ms, kd, rfl, k1, k2, k3, m1, m2, rfl⟩ rt nx
  have nd := S.nd
  refine ST.norm (ds' := [_, _, _, _, _, _, _, _, _, _, _, _, _, _]) rfl ?_
  refine st_parL (i := 4) (j := 5) State.d (fun _ => Im.k) rfl (bp_addN (m := 2) (be_int (i := ((2 : Nat) : Int))) (bp_draw T (su.mono (by decide)) kd.at (be_var 0) (be_int (i := ((3 : Nat) : Int))) (by first | decide | omega | (simp only [List.length_map, List.length_cons, List.length_append, List.length_nil]; omega) | (simp; omega)) (by first | decide | omega | (simp only [List.length_map, List.length_cons, List.length_append, List.length_nil]; omega) | (simp; omega)))) (fun d z => by obtain ⟨k, _, e⟩ := z; rw [e]; rfl) (fun d1 z t nt => ?_) nd
  obtain ⟨many0, hmany, e⟩ := z
  subst e
  generalize em : 2 + many0 = many
  have hm2 : 2 ≤ many ∧ many ≤ 4 := by omega
  refine ST.norm (ds' := [_, _, _, _, _, _, _, _, _, _, _, _, _, _]) rfl ?_
  refine st_forP (φ := natD) (Yp := fun z => z = List.range many) (bi_known (bie_rng1 T.f_range (be_var 4))) (fun L : List State => (M.at H0).ls K t State.d (fun _ => Im.k) L) (fun ys i L => L.length = i ∧ ∀ s ∈ L, StateDr lead ks ms many s) [] rfl (fun _ _ => ⟨rfl, fun p hp => by cases hp⟩) (fun _ => rfl) ?_ ?_
  · rintro H1 ys i at_ L rfl hy ⟨e1, e2⟩
    have hi := (List.getElem?_eq_some_iff.mp hy).1
    rw [List.length_range] at hi
    have kd2 : Deck (((M.at H0).ls K t State.d (fun _ => Im.k) L).at H1) q q2 := (Deck.ls kd.at nt).at
    refine ⟨_, _, (bg_name (i := 6) nd), ?_⟩
    refine ST.norm (ds' := [_, _, _, _, _, _, _, _, _, _, _, _, _, _]) rfl ?_
    refine st_nl (i := 7) Rule.d (fun _ => Im.k) (fun t2 nt2 => ?_) nd
    refine ST.norm (ds' := [_, _, _, _, _, _, _, _, _, _, _, _, _, _]) rfl ?_
    have kd3 : Deck ((((M.at H0).ls K t State.d (fun _ => Im.k) L).at H1).ls K t2 Rule.d (fun _ => Im.k) []) q q2 := Deck.ls kd2 nt2
    refine st_forP (φ := natD) (Yp := fun z => ∃ n, n ≤ 3 ∧ z = List.range n) (bi_rngP (N := fun n => n ≤ 3) T.f_range (bp_if (bt_gtN (N := fun _ => True) (BP.imp (be_var 6) fun d e => ⟨at_, trivial, e⟩) be_int) (fun _ => ?_) (fun _ => ?_)) (fun n h => by omega)) (fun R : List Rule => (((M.at H0).ls K t State.d (fun _ => Im.k) L).at H1).ls K t2 Rule.d (fun _ => Im.k) R) (fun ys i R => R.length = i ∧ ∀ r ∈ R, RuleDr lead ks ms many r) [] rfl (fun _ _ => ⟨rfl, fun p hp => by cases hp⟩) (fun _ => rfl) ?_ ?_
    · refine BP.imp (bp_pickE T (su.mono (by decide)) kd3 (be_var 0) (be_lst (bae be_int (bae be_int (bae be_int (bae be_int (bae be_int ba_nil)))))) (by first | decide | omega | (simp only [List.length_map, List.length_cons, List.length_append, List.length_nil]; omega) | (simp; omega)) (by first | decide | omega | (simp only [List.length_map, List.length_cons, List.length_append, List.length_nil]; omega) | (simp; omega))) fun d h => ?_
      simp only [List.mem_cons, List.not_mem_nil, or_false] at h
      rcases h with z | z | z | z | z
      · exact ⟨1, by decide, z⟩
      · exact ⟨2, by decide, z⟩
      · exact ⟨3, by decide, z⟩
      · exact ⟨2, by decide, z⟩
      · exact ⟨0, by decide, z⟩
    · refine BP.imp (bp_addN (m := 2) (be_int (i := ((2 : Nat) : Int))) (bp_draw T (su.mono (by decide)) kd3 (be_var 0) (be_int (i := ((2 : Nat) : Int))) (by first | decide | omega | (simp only [List.length_map, List.length_cons, List.length_append, List.length_nil]; omega) | (simp; omega)) (by first | decide | omega | (simp only [List.length_map, List.length_cons, List.length_append, List.length_nil]; omega) | (simp; omega)))) fun d h => ?_
      obtain ⟨k, hk, z⟩ := h
      exact ⟨2 + k, by omega, z⟩
    · rintro H2 ys j turn R ⟨n, n3, rfl⟩ hj ⟨r1, r2⟩
      have hj2 := (List.getElem?_eq_some_iff.mp hj).1
      rw [List.length_range] at hj2
      have kd4 : Deck (((((M.at H0).ls K t State.d (fun _ => Im.k) L).at H1).ls K t2 Rule.d (fun _ => Im.k) R).at H2) q q2 := (Deck.ls kd2 nt2).at
      refine ⟨_, _, (bg_name (i := 8) nd), ?_⟩
      refine ST.norm (ds' := [_, _, _, _, _, _, _, _, _, _, _, _, _, _]) rfl ?_
      have ck : ∀ (c : Wd → Cause) (x : Str), (∀ k, (c k).kinds = [k]) → (∀ k, (c k).d = .tup [.str x, .str k.s]) → ∀ z : List D, (∃ r, (∃ d r', d ∈ ks.map Wd.d ∧ r' = [] ∧ r = d :: r') ∧ z = .str x :: r) → ∃ c' : Cause, CauseDr ks c' ∧ D.tup z = c'.d := by
        rintro c x h1 h2 z ⟨r, ⟨d, r', hd, rfl, rfl⟩, rfl⟩
        obtain ⟨k, hk, rfl⟩ := List.mem_map.mp hd
        exact ⟨c k, fun k' hk' => by rw [h1] at hk'; rw [List.mem_singleton.mp hk']; exact hk, by rw [h2]; rfl⟩
      have cz : ∀ (x : Str) (z : List D), (∃ r, (∃ d r', d ∈ ks.map Wd.d ∧ r' = [] ∧ r = d :: r') ∧ z = .str x :: r) → z.length ≤ sizeLine := by
        rintro x z ⟨r, ⟨d, r', hd, rfl, rfl⟩, rfl⟩
        show 2 ≤ sizeLine
        decide
      refine st_asg (i := 9) (hN := nd) (bp_pick (P := fun d => ∃ c : Cause, CauseDr ks c ∧ d = c.d) T (su.mono (by decide)) kd4 (be_var 0) (BP.imp (bp_lstP (n := 6) (bap (BP.imp (be_tup (bae be_str ba_nil)) fun d e => ⟨.able, (fun k hk => by cases hk), e⟩) (bap (BP.imp (be_tup (bae be_str ba_nil)) fun d e => ⟨.timer, (fun k hk => by cases hk), e⟩) (bap (BP.imp (be_tup (bae be_str ba_nil)) fun d e => ⟨.unable, (fun k hk => by cases hk), e⟩)
        (bap (bp_tup (P := fun d => ∃ c : Cause, CauseDr ks c ∧ d = c.d) (ba_k be_str (ba_p (bp_pickE T (su.mono (by decide)) kd4 (be_var 0) (be_var 2) (by first | decide | omega | (simp only [List.length_map, List.length_cons, List.length_append, List.length_nil]; omega) | (simp; omega)) (by first | decide | omega | (simp only [List.length_map, List.length_cons, List.length_append, List.length_nil]; omega) | (simp; omega))) ba_nil)) (ck .some "some" (fun _ => rfl) fun _ => rfl) (cz "some")) (bap (bp_tup (P := fun d => ∃ c : Cause, CauseDr ks c ∧ d = c.d) (ba_k be_str (ba_p (bp_pickE T (su.mono (by decide)) kd4 (be_var 0) (be_var 2) (by first | decide | omega | (simp only [List.length_map, List.length_cons, List.length_append, List.length_nil]; omega) | (simp; omega)) (by first | decide | omega | (simp only [List.length_map, List.length_cons, List.length_append, List.length_nil]; omega) | (simp; omega))) ba_nil)) (ck .some "some" (fun _ => rfl) fun _ => rfl) (cz "some")) (bap (bp_tup (P := fun d => ∃ c : Cause, CauseDr ks c ∧ d = c.d) (ba_k be_str (ba_p (bp_pickE T (su.mono (by decide)) kd4 (be_var 0) (be_var 2) (by first | decide | omega | (simp only [List.length_map, List.length_cons, List.length_append, List.length_nil]; omega) | (simp; omega)) (by first | decide | omega | (simp only [List.length_map, List.length_cons, List.length_append, List.length_nil]; omega) | (simp; omega))) ba_nil)) (ck .each "each" (fun _ => rfl) fun _ => rfl) (cz "each")) bap_nil))))))) (fun d z => by
          obtain ⟨l, e, hl, ha⟩ := z
          exact ⟨l, e, by omega, by omega, ha⟩))) (fun d z => ?_)
      obtain ⟨c, hc, e⟩ := z
      subst e
      refine ST.norm (ds' := [_, _, _, _, _, _, _, _, _, _, _, _, _, _]) rfl ?_
      have szm : (ms.map Wd.d).length + [D.str ""].length ≤ sizeLine := by
        rw [List.length_map]
        have : 10 ≤ sizeLine := by decide
        show ms.length + 1 ≤ sizeLine
        omega
      refine st_asg (i := 10) (hN := nd) (P := fun d => ∃ m : Wd, m ∈ ms ++ [w0] ∧ d = m.d) (BP.imp (bp_pickE T (su.mono (by decide)) kd4 (be_var 0) (be_catL (be_var 3) (be_lst (bae be_str ba_nil)) (by first | decide | assumption | (simp [PySem.sizeLine]; done) | omega)) (by first | decide | omega | (simp only [List.length_map, List.length_cons, List.length_append, List.length_nil]; omega) | (simp; omega)) (by first | decide | omega | (simp only [List.length_map, List.length_cons, List.length_append, List.length_nil]; omega) | (simp; omega))) (fun d h => by
        rcases List.mem_append.mp h with z | z
        · obtain ⟨m, hm, e⟩ := List.mem_map.mp z
          exact ⟨m, List.mem_append_left _ hm, e.symm⟩
        · exact ⟨w0, List.mem_append_right _ (List.mem_singleton.mpr rfl), List.mem_singleton.mp z⟩)) (fun d z => ?_)
      obtain ⟨m, hm, e⟩ := z
      subst e
      refine ST.norm (ds' := [_, _, _, _, _, _, _, _, _, _, _, _, _, _]) rfl ?_
      refine st_set (i := 11) (hN := nd) (d := .lst ((rcvs lead).map Wd.d)) (BP.is (be_if (bte_val (be_var 1)) (fun _ => be_lst (bae be_str (bae be_str ba_nil))) (fun _ => be_lst (bae be_str (bae be_str (bae be_str ba_nil))))) (by cases lead <;> rfl)) ?_
      refine ST.norm (ds' := [_, _, _, _, _, _, _, _, _, _, _, _, _, _]) rfl ?_
      have rl : 1 ≤ ((rcvs lead).map Wd.d).length ∧ ((rcvs lead).map Wd.d).length ≤ 1000 := by cases lead <;> decide
      refine st_asg (i := 12) (hN := nd) (P := fun d => ∃ l, d = .tup l ∧ ∃ S : List Sd, l = S.map sdD ∧ S.length ≤ 2 ∧ ∀ s ∈ S, SendDr lead ks s) (bp_tupleOfP T.f_tuple (BP.imp (bp_lc (φ := natD) (Ok := fun _ => True) (Ys := fun ys : List Nat => ∃ n, n ≤ 2 ∧ ys = List.range n) (keep := fun _ => true) (Pe := fun _ d => ∃ s : Sd, SendDr lead ks s ∧ d = sdD s) (is := [13]) (g := _) (own := [("_law_k", 13)]) ⟨rfl, nd, blkOk_by (N := ["_law_deck_here", "_law_is_leader", "_law_kinds", "_law_marks_here", "_law_many", "_law_states", "_law_at", "_law_rules", "_law_turn", "_law_cause", "_law_mark", "_law_ends_here", "_law_letters", "_law_k"]) (sc := defScope s89) (own := [("_law_k", 13)]) (by decide +kernel), by decide, fun y hy X' hX => by have su := hX.sur su; obtain ⟨_, _, _, _, _, rfl⟩ := hX.ex; exact bg_name (i := 13) nd, fun y hy X' hX => by have su := hX.sur su; obtain ⟨_, _, _, _, _, rfl⟩ := hX.ex; exact bts_nil, fun y hy hk X' hX => by have su := hX.sur su; obtain ⟨_, _, _, _, _, rfl⟩ := hX.ex; exact bp_tup (P := fun d => ∃ s : Sd, SendDr lead ks s ∧ d = sdD s) (ba_p (bp_pickE T (su.mono (by decide)) kd4 (be_var 0) (be_var 2) (by first | decide | omega | (simp only [List.length_map, List.length_cons, List.length_append, List.length_nil]; omega) | (simp; omega)) (by first | decide | omega | (simp only [List.length_map, List.length_cons, List.length_append, List.length_nil]; omega) | (simp; omega))) (ba_p (bp_pickE T (su.mono (by decide)) kd4 (be_var 0) (be_var 11) rl.1 rl.2) ba_nil)) (send_dr lead ks) (send_sz lead ks), fun y d hy hk e => by obtain ⟨s, _, e⟩ := e; rw [e]; exact Im.k⟩ (bi_rngP (N := fun n => n ≤ 2) T.f_range (BP.imp (bp_pickE T (su.mono (by decide)) kd4 (be_var 0) (be_lst (bae be_int (bae be_int (bae be_int (bae be_int ba_nil))))) (by decide) (by decide)) range_dr) (fun n h => by omega)) (fun ys z => by obtain ⟨n, hn, e⟩ := z; rw [e, List.length_range]; exact Nat.le_trans hn (by decide)) (fun _ _ _ _ => trivial)) fun d z => ?_)) (fun d z => ?_)
      · obtain ⟨ys, l, e, ⟨n, hn, ey⟩, cr⟩ := z
        obtain ⟨S, eS, hS⟩ := typed (f := sdD) (Pa := SendDr lead ks) fun d hd => by
          obtain ⟨_, _, z⟩ := cr.all d hd
          exact z
        refine ⟨l, e, S, eS, ?_, hS⟩
        have := cr.len
        rw [eS, List.length_map, ey, List.length_range] at this
        omega
      obtain ⟨l, e, S, e2', sl, hS⟩ := z
      subst e2' e
      refine ST.norm (ds' := [_, _, _, _, _, _, _, _, _, _, _, _, _, _]) rfl ?_
      have hR : R.length < sizeLine := by
        have : 10 ≤ sizeLine := by decide
        omega
      refine st_appP (i := 7) (f := Rule.d) (Pa := RuleDr lead ks ms many) (M' := fun a => ((((M.at H0).ls K t State.d (fun _ => Im.k) L).at H1).ls K t2 Rule.d (fun _ => Im.k) (R ++ [a])).at H2) (fun _ => Im.k) (bp_tup (P := fun d => ∃ a : Rule, RuleDr lead ks ms many a ∧ d = a.d)
        (ba_k (be_var 9) (ba_k (be_var 10) (ba_p (bp_and (P := fun d => ∃ b : Bool, (m.s = ("" : Str) → b = false) ∧ d = .bl b) (bq_neS su.u64 (be_var 10) be_str) (fun h => be_one (BP.imp (bp_gtN (bp_draw T (su.mono (by decide)) kd4 (be_var 0) (be_int (i := ((3 : Nat) : Int))) (by first | decide | omega | (simp only [List.length_map, List.length_cons, List.length_append, List.length_nil]; omega) | (simp; omega)) (by first | decide | omega | (simp only [List.length_map, List.length_cons, List.length_append, List.length_nil]; omega) | (simp; omega))) be_int) fun d z => ?_)) (fun h => ⟨false, fun _ => rfl, rfl⟩)) (ba_k (be_var 12) (ba_p (bp_draw T (su.mono (by decide)) kd4 (be_var 0) (be_var 4) (by first | decide | omega | (simp only [List.length_map, List.length_cons, List.length_append, List.length_nil]; omega) | (simp; omega)) (by first | decide | omega | (simp only [List.length_map, List.length_cons, List.length_append, List.length_nil]; omega) | (simp; omega))) ba_nil))))) ?_ ?_) (fun a => (ls_mut nt2).at) ?_ ls_rd.at hR
      · obtain ⟨b, e⟩ := z
        exact ⟨b, fun h2 => by rw [h2] at h; exact absurd h (by decide), e⟩
      · rintro z ⟨_, ⟨_, ⟨_, _, ⟨b, hb, rfl⟩, ⟨_, ⟨_, _, ⟨k, hk, rfl⟩, rfl, rfl⟩, rfl⟩, rfl⟩, rfl⟩, rfl⟩
        exact ⟨⟨c, m, b, S, k⟩, ⟨hc, hm, hb, sl, hS, hk⟩, rfl⟩
      · rintro z ⟨_, ⟨_, ⟨_, _, ⟨b, hb, rfl⟩, ⟨_, ⟨_, _, ⟨k, hk, rfl⟩, rfl, rfl⟩, rfl⟩, rfl⟩, rfl⟩, rfl⟩
        show 5 ≤ sizeLine
        decide
      · intro a ha
        refine st_rchP (R ++ [a]) ⟨by rw [List.length_append, r1]; rfl, fun r hr => ?_⟩ rfl (by repeat first | exact Wk.nil | apply Wk.keep | apply Wk.drop)
        rcases List.mem_append.mp hr with z | z
        · exact r2 r z
        · rw [List.mem_singleton.mp z]; exact ha
    · rintro H2 ys R ⟨n, n3, rfl⟩ ⟨r1, r2⟩
      rw [List.length_range] at r1
      have kd5 : Deck (((((M.at H0).ls K t State.d (fun _ => Im.k) L).at H1).ls K t2 Rule.d (fun _ => Im.k) R).at H2) q q2 := (Deck.ls kd2 nt2).at
      have ne : t2 ≠ t := fun e => nt2 (.inl (.inr e))
      have hL : L.length < sizeLine := by
        have : 10 ≤ sizeLine := by decide
        omega
      refine st_appP (i := 5) (f := State.d) (Pa := StateDr lead ks ms many) (M' := fun a => ((((M.at H0).ls K t State.d (fun _ => Im.k) (L ++ [a])).at H1).ls K t2 Rule.d (fun _ => Im.k) R).at H2) (fun _ => Im.k) (bp_tup (P := fun d => ∃ a : State, StateDr lead ks ms many a ∧ d = a.d)
        (ba_p (P := fun d => ∃ f : Wd, f ∈ FINS ∧ d = f.d) (bp_if (bt_gtN (N := fun _ => True) (BP.imp (be_var 6) fun d e => ⟨at_, trivial, e⟩) be_int) (fun _ => BP.imp (bp_pickE T (su.mono (by decide)) kd5 (be_var 0) (be_lst (bae be_str (bae be_str (bae be_str (bae be_str ba_nil))))) (by first | decide | omega | (simp only [List.length_map, List.length_cons, List.length_append, List.length_nil]; omega) | (simp; omega)) (by first | decide | omega | (simp only [List.length_map, List.length_cons, List.length_append, List.length_nil]; omega) | (simp; omega))) fun d h => ?_) (fun _ => BP.imp be_str fun d e => ⟨w0, by decide +kernel, e⟩)) (ba_k (be_tupleOfA ls_rd.at (imm_map (fun _ => Im.k) _) T.f_tuple (be_var 7)) ba_nil)) ?_ ?_) (fun a => (Mut.push2 (ls_mut nt).at ne).at) ?_ (Rdl.push2 (ls_rd.at)).at hL
      · simp only [List.mem_cons, List.not_mem_nil, or_false] at h
        rcases h with z | z | z | z
        · exact ⟨w0, by decide +kernel, z⟩
        · exact ⟨wd "kept", by decide +kernel, z⟩
        · exact ⟨wd "dropped", by decide +kernel, z⟩
        · exact ⟨w0, by decide +kernel, z⟩
      · rintro z ⟨_, _, ⟨f, hf, rfl⟩, ⟨_, rfl, rfl⟩, rfl⟩
        exact ⟨⟨f, R⟩, ⟨hf, by show R.length ≤ 3; omega, r2⟩, rfl⟩
      · rintro z ⟨_, _, ⟨f, hf, rfl⟩, ⟨_, rfl, rfl⟩, rfl⟩
        show 2 ≤ sizeLine
        decide
      · intro a ha
        refine st_rchPw (L ++ [a]) ⟨by rw [List.length_append, e1]; rfl, fun s hs => ?_⟩ (fun H w => w.1.1) (fun a z => .inl z) rfl (by repeat first | exact Wk.nil | apply Wk.keep | apply Wk.drop)
        rcases List.mem_append.mp hs with z | z
        · exact e2 s z
        · rw [List.mem_singleton.mp z]; exact ha
  · rintro H1 ys L rfl ⟨e1, e2⟩
    rw [List.length_range] at e1
    have kd2 : Deck (((M.at H0).ls K t State.d (fun _ => Im.k) L).at H1) q q2 := (Deck.ls kd.at nt).at
    refine st_ret (bp_call3D (kvs := upsV []) (w__law_with_ups T) (su.mono (by decide)) (be_var 0) (be_tupleOfA ls_rd.at (imm_map (fun _ => Im.k) _) T.f_tuple (be_var 5)) Im.k bdn_new (fun t' nt' => ⟨q, q2, t', [], L, Deck.own kd2 nt', Rdo.own, rfl, by omega, by omega, fun s hs => by have := (e2 s hs).len; omega, fun u hu => (by cases hu), rfl⟩)) (fun d p => ?_)
    exact Ret.at (Ret.push (rt _ (drawn_ok k3 m2 k2 (by omega) (by omega) (by rw [e1]; exact e2) p)))
end
end K23


-- text A35
set_option Elab.async false
set_option linter.all false
set_option maxRecDepth 100000
set_option maxHeartbeats 2000000
namespace K23
open PySem PySem.Spec PyProof.Rows L2
section
variable {X : Cx} {M : Md} {ds : List (Option D)} {e a b t : Expr} {es : List Expr} {pos : Pos} {A B : List D → Prop} {P : D → Prop}
theorem bp_catT (ha : BP X M ds a fun d => ∃ l, d = .tup l ∧ A l) (hb : BP X M ds b fun d => ∃ l, d = .tup l ∧ B l) (hz : ∀ l m, A l → B m → l.length + m.length ≤ sizeLine) : BP X M ds (.BinOp a .Add b pos) fun d => ∃ l, d = .tup l ∧ ∃ x y, A x ∧ B y ∧ l = x ++ y :=
  bp_op op_catA ha hb fun x y ⟨l, e1, h1⟩ ⟨m, e2, h2⟩ => by
    rw [e1, e2]
    have := o_catT (X := X) (M := M) (xs := l) (ys := m) (hz l m h1 h2)
    exact fun v u H Q w i1 i2 kk => this v u H Q w i1 i2 fun d z H' pd => kk d z H' ⟨_, pd, l, m, h1, h2, rfl⟩
/-- a tuple that is known -/
theorem bp_kT {l : List D} (h : BE X M ds a (.tup l)) : BP X M ds a fun d => ∃ m, d = .tup m ∧ m = l := h.imp fun d e => ⟨l, e, rfl⟩
/-- (e,) -/
theorem bp_one1 {k : Nat} (h : BP X M ds e P) (hs : starEach [e] X.env = (false, eval e X.env) :: starEach [] X.env := by rfl) : BP X M ds (.Tuple [e] k pos) fun d => ∃ m, d = .tup m ∧ ∃ x, P x ∧ m = [x] :=
  bp_tup (L := fun l => ∃ x, P x ∧ l = [x]) (ba_cons (L := fun l => l = []) h ba_nil (fun d l pd pl => ⟨d, pd, by rw [pl]⟩) hs) (fun l z => ⟨l, rfl, z⟩) fun l ⟨x, _, e⟩ => by rw [e]; show 1 ≤ sizeLine; decide
end
end K23

-- text D7
set_option Elab.async false
set_option linter.all false
set_option maxRecDepth 100000
set_option maxHeartbeats 2000000
namespace K23
open PySem PySem.Spec PyProof.Rows L2
/-- a role that the law may hand out -/
def RoleGood (lead : Bool) (d : D) : Prop := ∃ ρ : Role, d = ρ.d ∧ ρ.Ok lead ∧ Slim ρ
def changedR : Rel := fun M ds P => ∃ (q q2 : Addr) (lead : Bool) (ρ : Role), Deck M q q2 ∧ ds = [.adr q, ρ.d] ∧ ρ.Ok lead ∧ ρ.states.length ≤ 6 ∧ Slim ρ ∧ P = RoleGood lead
theorem ups_pos {lead : Bool} {ρ : Role} (h : ρ.Ok lead) : 1 ≤ ρ.ups.length := by
  have e := congrArg List.length h.marks
  rw [List.length_map, List.length_cons] at e
  omega
theorem slim_ups {ρ : Role} {us : List UpP} (h : Slim ρ) : Slim ⟨ρ.states, us⟩ := by
  obtain ⟨L, h1, h2⟩ := h
  exact ⟨L, h1, fun k hk => h2 k hk⟩
theorem split_at {α : Type} {l : List α} {k : Nat} {x : α} (h : l[k]? = some x) : l = l.take k ++ [x] ++ l.drop (k + 1) := by
  obtain ⟨hk, e⟩ := List.getElem?_eq_some_iff.mp h
  rw [← e, List.append_assoc, List.singleton_append, List.getElem_cons_drop, List.take_append_drop]
/-- another up -/
theorem other_up {lead : Bool} {ρ : Role} {k : Nat} {u : UpP} {s : Nat} (h : ρ.Ok lead) (sl : Slim ρ) (hu : ρ.ups[k]? = some u) (hs : s < ρ.states.length) : RoleGood lead (⟨ρ.states, ρ.ups.take k ++ [(u.1, s)] ++ ρ.ups.drop (k + 1)⟩ : Role).d := by
  refine ⟨_, rfl, ⟨h.pos, h.len, h.states, fun p hp => ?_, ?_⟩, slim_ups sl⟩
  · simp only [List.mem_append, List.mem_singleton] at hp
    rcases hp with (z | z) | z
    · exact h.ups p (List.mem_of_mem_take z)
    · rw [z]; exact hs
    · exact h.ups p (List.mem_of_mem_drop z)
  · have e : (ρ.ups.take k ++ [(u.1, s)] ++ ρ.ups.drop (k + 1)).map (·.1) = ρ.ups.map (·.1) := by
      conv => rhs; rw [split_at hu]
      simp only [List.map_append, List.map_cons, List.map_nil]
    rw [marksIn_eq]
    show (ρ.ups.take k ++ [(u.1, s)] ++ ρ.ups.drop (k + 1)).map (·.1) = w0 :: srt Wd.d (dd (marksSt ρ.states))
    rw [e, h.marks, marksIn_eq]
/-- a rule that may stand in place of r -/
structure RuleCh (n : Nat) (r r' : Rule) : Prop where
  cause : r'.cause = r.cause
  mark : r'.mark = r.mark
  forced : r'.forced = r.forced ∨ r'.forced = false
  sends : r'.sends = r.sends
  goes : r'.goes < n
theorem RuleCh.ok {lead : Bool} {n : Nat} {r r' : Rule} (c : RuleCh n r r') (h : r.Ok lead n) : r'.Ok lead n := by
  refine ⟨by rw [c.cause]; exact h.cause, ?_, by rw [c.sends]; exact h.len, by rw [c.sends]; exact h.sends, c.goes⟩
  rw [c.mark]
  rcases h.mark with z | z
  · exact .inl z
  · rcases c.forced with e | e
    · exact .inr ⟨z.1, by rw [e]; exact z.2⟩
    · exact .inr ⟨z.1, e⟩
/-- other rules in one state -/
theorem other_rule {lead : Bool} {ρ : Role} {a k : Nat} {st : State} {r : Rule} {some' : List Rule} {d : D} (h : ρ.Ok lead) (sl : Slim ρ) (hst : ρ.states[a]? = some st) (hr : st.rules[k]? = some r) (hs : some' = [] ∨ ∃ r', RuleCh ρ.states.length r r' ∧ some' = [r'])
    (hd : RoleOf (ρ.states.take a ++ [⟨st.fin, st.rules.take k ++ some' ++ st.rules.drop (k + 1)⟩] ++ ρ.states.drop (a + 1)) d) : RoleGood lead d := by
  obtain ⟨us, u1, u2, rfl⟩ := hd
  have hm := List.mem_of_getElem? hst
  have hrm := List.mem_of_getElem? hr
  have la := (List.getElem?_eq_some_iff.mp hst).1
  have lk := (List.getElem?_eq_some_iff.mp hr).1
  have ll : (ρ.states.take a ++ [(⟨st.fin, st.rules.take k ++ some' ++ st.rules.drop (k + 1)⟩ : State)] ++ ρ.states.drop (a + 1)).length = ρ.states.length := by
    simp only [List.length_append, List.length_take, List.length_cons, List.length_nil, List.length_drop]
    omega
  have ok := h.states st hm
  have rok := ok.rules r hrm
  have rs : ∀ x ∈ st.rules.take k ++ some' ++ st.rules.drop (k + 1), x.Ok lead ρ.states.length ∧ ∃ y ∈ st.rules, x.sends = y.sends := fun x hx => by
    simp only [List.mem_append] at hx
    rcases hx with (z | z) | z
    · exact ⟨ok.rules x (List.mem_of_mem_take z), x, List.mem_of_mem_take z, rfl⟩
    · rcases hs with e | ⟨r', c, e⟩
      · rw [e] at z; cases z
      · rw [e] at z
        rw [List.mem_singleton.mp z]
        exact ⟨c.ok rok, r, hrm, c.sends⟩
    · exact ⟨ok.rules x (List.mem_of_mem_drop z), x, List.mem_of_mem_drop z, rfl⟩
  have sm : ∀ s ∈ ρ.states.take a ++ [(⟨st.fin, st.rules.take k ++ some' ++ st.rules.drop (k + 1)⟩ : State)] ++ ρ.states.drop (a + 1), s.Ok lead ρ.states.length ∧ ∀ x ∈ s.rules, ∃ s' ∈ ρ.states, ∃ y ∈ s'.rules, x.sends = y.sends := fun s hs' => by
    simp only [List.mem_append, List.mem_singleton] at hs'
    rcases hs' with (z | z) | z
    · have z2 := List.mem_of_mem_take z
      exact ⟨h.states s z2, fun x hx => ⟨s, z2, x, hx, rfl⟩⟩
    · rw [z]
      refine ⟨⟨ok.fin, ?_, fun x hx => (rs x hx).1⟩, fun x hx => ?_⟩
      · have := ok.len
        have l1 : some'.length ≤ 1 := by
          rcases hs with e | ⟨r', _, e⟩ <;> rw [e] <;> simp
        simp only [List.length_append, List.length_take, List.length_drop]
        omega
      · obtain ⟨_, y, hy, e⟩ := rs x hx
        exact ⟨st, hm, y, hy, e⟩
    · have z2 := List.mem_of_mem_drop z
      exact ⟨h.states s z2, fun x hx => ⟨s, z2, x, hx, rfl⟩⟩
  obtain ⟨L, h1, h2⟩ := sl
  refine ⟨_, rfl, ⟨by show 1 ≤ List.length _; rw [ll]; exact h.pos, by show List.length _ ≤ 12; rw [ll]; exact h.len, fun s hs' => ?_, u2, by rw [marksIn_eq]; exact u1⟩, slim_of L h1 fun w hw => ?_⟩
  · show s.Ok lead (List.length _)
    rw [ll]
    exact (sm s hs').1
  · unfold sendsSt at hw
    obtain ⟨s, hs', z⟩ := List.mem_flatMap.mp hw
    obtain ⟨x, hx, z⟩ := List.mem_flatMap.mp z
    obtain ⟨s2, hs2, y, hy, e⟩ := (sm s hs').2 x hx
    rw [e] at z
    obtain ⟨i, j, hm2⟩ := rulesOf_mem hs2 hy
    exact h2 w (List.mem_flatMap.mpr ⟨_, hm2, z⟩)
section
variable {P : Program} {w : World} {K : PySem.W.Frag} {mg : Str → Option Value} {base : Heap}
theorem w__law_changed_role (T : Top K mg) : Fn P w K mg base 3 "_law_changed_role" ["_law_deck_here", "_law_role"] (changedR) := by
  obtain ⟨f, fd, hm, F⟩ := T.e90
  have S : FnScope ["_law_deck_here", "_law_role", "_law_states", "_law_ups", "_law_way", "_law_at", "_law_end", "_law_rules", "_law_k", "_law_cause", "_law_mark", "_law_forced", "_law_letters", "_law_step", "_law_some"] ["_law_deck_here", "_law_role"] (defScope s90) := ⟨rfl, rfl, rfl, by decide +kernel, rfl, by decide +kernel, by decide +kernel⟩
  refine fn_mk (k := 2) F hm S (F.bindsN (ps := ["_law_deck_here", "_law_role"]) fun _ _ _ _ _ _ us hl => match us, hl with | [_, _], _ => rfl) (fun M ds P r => by obtain ⟨q, q2, lead, ρ, kd, rfl, ok, h6, sl, rfl⟩ := r; rfl) ?_
  rintro cdv A fr s M _ _ H0 E su ⟨q, q2, lead, ρ, kd, rfl, ok, h6, sl, rfl⟩ rt nx
  have nd := S.nd
  refine ST.norm (ds' := [_, _, _, _, _, _, _, _, _, _, _, _, _, _, _]) rfl ?_
  have pos := ok.pos
  have ul : 1 ≤ ρ.ups.length ∧ ρ.ups.length ≤ 37 := ⟨ups_pos ok, Nat.le_trans (ups_len ok) (by decide)⟩
  refine st_unpack (be_var 1) (bg_tup rfl (bgs_cons (bg_name (i := 2) nd) (bgs_cons (bg_name (i := 3) nd) (bgs_nil))) 2) ?_
  refine ST.norm (ds' := [_, _, _, _, _, _, _, _, _, _, _, _, _, _, _]) rfl ?_
  refine st_parP (i := 4) (j := 5) rfl (bp_draw T (su.mono (by decide)) kd.at (be_var 0) (be_int (i := ((4 : Nat) : Int))) (by first | decide | omega | (simp only [List.length_map, List.length_cons, List.length_append, List.length_nil]; omega) | (simp; omega)) (by first | decide | omega | (simp only [List.length_map, List.length_cons, List.length_append, List.length_nil]; omega) | (simp; omega))) (bp_draw T (su.mono (by decide)) kd.at (be_var 0) (be_len T.f_len (be_var 2)) (by first | decide | omega | (simp only [List.length_map, List.length_cons, List.length_append, List.length_nil]; omega) | (simp; omega)) (by first | decide | omega | (simp only [List.length_map, List.length_cons, List.length_append, List.length_nil]; omega) | (simp; omega))) (fun d1 d2 z1 z2 => ?_) nd
  obtain ⟨way, hway, e⟩ := z1
  subst e
  obtain ⟨at_, hat, e⟩ := z2
  subst e
  rw [List.length_map] at hat
  refine ST.norm (ds' := [_, _, _, _, _, _, _, _, _, _, _, _, _, _, _]) rfl ?_
  obtain ⟨st, hst⟩ : ∃ st, ρ.states[at_]? = some st := ⟨_, List.getElem?_eq_getElem hat⟩
  have sok := ok.states st (List.mem_of_getElem? hst)
  have rl := sok.len
  refine st_unpack (be_ix (be_var 2) (be_var 5) (at_map (f := State.d) hst)) (bg_tup rfl (bgs_cons (bg_name (i := 6) nd) (bgs_cons (bg_name (i := 7) nd) (bgs_nil))) 2) ?_
  refine ST.norm (ds' := [_, _, _, _, _, _, _, _, _, _, _, _, _, _, _]) rfl ?_
  refine st_ifE (q := decide ((way : Int) = 3) || (st.rules.map Rule.d).isEmpty) (BT.is (BW.bt (bw_or (tq_eqI su.u64 (be_var 4) be_int) fun _ => bw_or1 (tq_eq su.u64 (be_var 7) (be_tup ba_nil)))) (by rw [eqv_nil])) (fun c => ?_) (fun c => ?_)
  · refine st_asg (i := 8) (hN := nd) (bp_draw T (su.mono (by decide)) kd.at (be_var 0) (be_len T.f_len (be_var 3)) (by first | decide | omega | (simp only [List.length_map, List.length_cons, List.length_append, List.length_nil]; omega) | (simp; omega)) (by first | decide | omega | (simp only [List.length_map, List.length_cons, List.length_append, List.length_nil]; omega) | (simp; omega))) (fun d z => ?_)
    obtain ⟨k, hk, e⟩ := z
    subst e
    rw [List.length_map] at hk
    refine ST.norm (ds' := [_, _, _, _, _, _, _, _, _, _, _, _, _, _, _]) rfl ?_
    obtain ⟨u, hu⟩ : ∃ u, ρ.ups[k]? = some u := ⟨_, List.getElem?_eq_getElem hk⟩
    have big : 100 ≤ sizeLine := by decide
    have t1 : (ρ.ups.take k).length ≤ 37 := Nat.le_trans (List.length_take_le _ _) (by omega)
    have t2 : (ρ.ups.drop (k + 1)).length ≤ 37 := by rw [List.length_drop]; omega
    refine st_ret (bp_tup (P := RoleGood lead) (ba_k (be_var 2) (ba_p (bp_catT (bp_catT (bp_kT (BP.is (d' := .tup ((ρ.ups.take k).map upD)) (be_slT (be_var 3) bo_none (bo_some (be_var 8))) (by rw [cutD_lo, List.map_take]))) (bp_one1 (bp_tup (P := fun d => ∃ s : Nat, s < ρ.states.length ∧ d = upD (u.1, s)) (ba_k (be_ix (be_ix (be_var 3) (be_var 8) (at_map (f := upD) hu)) be_int) (ba_p (bp_draw T (su.mono (by decide)) kd.at (be_var 0) (be_len T.f_len (be_var 2)) (by first | decide | omega | (simp only [List.length_map, List.length_cons, List.length_append, List.length_nil]; omega) | (simp; omega)) (by first | decide | omega | (simp only [List.length_map, List.length_cons, List.length_append, List.length_nil]; omega) | (simp; omega))) ba_nil)) ?_ ?_)) ?_) (bp_kT (BP.is (d' := .tup ((ρ.ups.drop (k + 1)).map upD)) (be_slT (be_var 3) (bo_some (BP.is (d' := .int ((k + 1 : Nat) : Int)) (be_add (be_var 8) be_int) rfl)) bo_none) (by rw [cutD_hi, List.map_drop]))) ?_) ba_nil)) ?_ ?_) (fun d p => rt d p)
    · rintro z ⟨_, ⟨_, _, ⟨s, hs, rfl⟩, rfl, rfl⟩, rfl⟩
      exact ⟨s, by rw [List.length_map] at hs; exact hs, rfl⟩
    · rintro z ⟨_, ⟨_, _, _, rfl, rfl⟩, rfl⟩
      show 2 ≤ sizeLine
      decide
    · rintro l m rfl ⟨x, _, rfl⟩
      rw [List.length_map]
      show _ + 1 ≤ sizeLine
      omega
    · rintro l m ⟨x, y, rfl, ⟨z, _, rfl⟩, rfl⟩ rfl
      rw [List.length_append, List.length_map, List.length_map]
      show _ + 1 + _ ≤ sizeLine
      omega
    · rintro z ⟨_, ⟨_, _, ⟨l, rfl, ⟨x, y, ⟨x1, y1, rfl, ⟨z1, ⟨s, hs, rfl⟩, rfl⟩, rfl⟩, rfl, rfl⟩⟩, rfl, rfl⟩, rfl⟩
      have := other_up ok sl hu hs
      unfold Role.d at this
      simp only [List.map_append, List.map_cons, List.map_nil] at this
      exact this
    · rintro z ⟨_, ⟨_, _, _, rfl, rfl⟩, rfl⟩
      show 2 ≤ sizeLine
      decide
  · refine st_then ?_
    have r1 : 1 ≤ st.rules.length := by
      cases hz : st.rules with
      | nil => rw [hz] at c; simp at c
      | cons x l => simp
    refine st_asg (i := 8) (hN := nd) (bp_draw T (su.mono (by decide)) kd.at (be_var 0) (be_len T.f_len (be_var 7)) (by first | decide | omega | (simp only [List.length_map, List.length_cons, List.length_append, List.length_nil]; omega) | (simp; omega)) (by first | decide | omega | (simp only [List.length_map, List.length_cons, List.length_append, List.length_nil]; omega) | (simp; omega))) (fun d z => ?_)
    obtain ⟨k, hk, e⟩ := z
    subst e
    rw [List.length_map] at hk
    refine ST.norm (ds' := [_, _, _, _, _, _, _, _, _, _, _, _, _, _, _]) rfl ?_
    obtain ⟨r, hr⟩ : ∃ r, st.rules[k]? = some r := ⟨_, List.getElem?_eq_getElem hk⟩
    have rok := sok.rules r (List.mem_of_getElem? hr)
    refine st_unpack (be_ix (be_var 7) (be_var 8) (at_map (f := Rule.d) hr)) (bg_tup rfl (bgs_cons (bg_name (i := 9) nd) (bgs_cons (bg_name (i := 10) nd) (bgs_cons (bg_name (i := 11) nd) (bgs_cons (bg_name (i := 12) nd) (bgs_cons (bg_name (i := 13) nd) (bgs_nil)))))) 5) ?_
    refine ST.norm (ds' := [_, _, _, _, _, _, _, _, _, _, _, _, _, _, _]) rfl ?_
    refine st_asg (i := 14) (hN := nd) (P := fun d => ∃ some' : List Rule, (some' = [] ∨ ∃ r', RuleCh ρ.states.length r r' ∧ some' = [r']) ∧ d = .tup (some'.map Rule.d)) (bp_if (tq_eqI su.u64 (be_var 4) be_int) (fun _ => BP.imp (be_tup (bae (be_tup (bae (be_var 9) (bae (be_var 10) (bae be_bl (bae (be_var 12) (bae (be_var 13) ba_nil)))))) ba_nil)) fun d e => ?_) (fun _ => bp_if (tq_eqI su.u64 (be_var 4) be_int) (fun _ => BP.imp (be_tup ba_nil) fun d e => ⟨[], .inl rfl, e⟩)
      (fun _ => BP.imp (bp_one1 (bp_tup (P := fun d => ∃ r', RuleCh ρ.states.length r r' ∧ d = r'.d) (ba_k (be_var 9) (ba_k (be_var 10) (ba_k (be_var 11) (ba_k (be_var 12) (ba_p (bp_draw T (su.mono (by decide)) kd.at (be_var 0) (be_len T.f_len (be_var 2)) (by first | decide | omega | (simp only [List.length_map, List.length_cons, List.length_append, List.length_nil]; omega) | (simp; omega)) (by first | decide | omega | (simp only [List.length_map, List.length_cons, List.length_append, List.length_nil]; omega) | (simp; omega))) ba_nil))))) ?_ ?_)) fun d z => ?_))) (fun d z => ?_)
    · exact ⟨[(⟨r.cause, r.mark, false, r.sends, r.goes⟩ : Rule)], .inr ⟨(⟨r.cause, r.mark, false, r.sends, r.goes⟩ : Rule), ⟨rfl, rfl, .inr rfl, rfl, rok.goes⟩, rfl⟩, e⟩
    · rintro z ⟨_, ⟨_, ⟨_, ⟨_, ⟨_, _, ⟨g, hg, rfl⟩, rfl, rfl⟩, rfl⟩, rfl⟩, rfl⟩, rfl⟩
      rw [List.length_map] at hg
      exact ⟨⟨r.cause, r.mark, r.forced, r.sends, g⟩, ⟨rfl, rfl, .inl rfl, rfl, hg⟩, rfl⟩
    · rintro z ⟨_, ⟨_, ⟨_, ⟨_, ⟨_, _, ⟨g, hg, rfl⟩, rfl, rfl⟩, rfl⟩, rfl⟩, rfl⟩, rfl⟩
      show 5 ≤ sizeLine
      decide
    · obtain ⟨m, e, x, ⟨r', hr', ex⟩, em⟩ := z
      exact ⟨[r'], .inr ⟨r', hr', rfl⟩, by rw [e, em, ex]; rfl⟩
    obtain ⟨some', hs, e⟩ := z
    subst e
    refine ST.norm (ds' := [_, _, _, _, _, _, _, _, _, _, _, _, _, _, _]) rfl ?_
    have l1 : some'.length ≤ 1 := by
      rcases hs with e | ⟨r', _, e⟩ <;> rw [e] <;> simp
    have big : 100 ≤ sizeLine := by decide
    have t1 : (st.rules.take k).length ≤ 6 := Nat.le_trans (List.length_take_le _ _) (by omega)
    have t2 : (st.rules.drop (k + 1)).length ≤ 6 := by rw [List.length_drop]; omega
    refine st_set (i := 7) (hN := nd) (d := .tup ((st.rules.take k ++ some' ++ st.rules.drop (k + 1)).map Rule.d)) (BP.is (be_catT (be_catT (BP.is (d' := .tup ((st.rules.take k).map Rule.d)) (be_slT (be_var 7) bo_none (bo_some (be_var 8))) (by rw [cutD_lo, List.map_take])) (be_var 14) (by rw [List.length_map, List.length_map]; omega)) (BP.is (d' := .tup ((st.rules.drop (k + 1)).map Rule.d)) (be_slT (be_var 7) (bo_some (BP.is (d' := .int ((k + 1 : Nat) : Int)) (be_add (be_var 8) be_int) rfl)) bo_none) (by rw [cutD_hi, List.map_drop])) (by rw [List.length_append, List.length_map, List.length_map, List.length_map]; omega)) (by rw [List.map_append, List.map_append])) ?_
    refine ST.norm (ds' := [_, _, _, _, _, _, _, _, _, _, _, _, _, _, _]) rfl ?_
    have t3 : (ρ.states.take at_).length ≤ 6 := Nat.le_trans (List.length_take_le _ _) (by omega)
    have t4 : (ρ.states.drop (at_ + 1)).length ≤ 6 := by rw [List.length_drop]; omega
    have ll : (ρ.states.take at_ ++ [(⟨st.fin, st.rules.take k ++ some' ++ st.rules.drop (k + 1)⟩ : State)] ++ ρ.states.drop (at_ + 1)).length = ρ.states.length := by
      simp only [List.length_append, List.length_take, List.length_cons, List.length_nil, List.length_drop]
      omega
    refine st_ret (bp_call3D (d2 := .tup ((ρ.states.take at_ ++ [(⟨st.fin, st.rules.take k ++ some' ++ st.rules.drop (k + 1)⟩ : State)] ++ ρ.states.drop (at_ + 1)).map State.d)) (w__law_with_ups T) (su.mono (by decide)) (be_var 0) (BP.is (be_catT (be_catT (BP.is (d' := .tup ((ρ.states.take at_).map State.d)) (be_slT (be_var 2) bo_none (bo_some (be_var 5))) (by rw [cutD_lo, List.map_take])) (be_tup (bae (be_tup (bae (be_var 6) (bae (be_var 7) ba_nil))) ba_nil)) ?_) (BP.is (d' := .tup ((ρ.states.drop (at_ + 1)).map State.d)) (be_slT (be_var 2) (bo_some (BP.is (d' := .int ((at_ + 1 : Nat) : Int)) (be_add (be_var 5) be_int) rfl)) bo_none) (by rw [cutD_hi, List.map_drop])) ?_) ?_) Im.k (bdn_dict rfl T.f_dict (be_listOf T.f_list (be_var 3)) (ups_nd ok)) (fun t' nt' => ⟨q, q2, t', ρ.ups, _, Deck.own kd.at nt', Rdo.own, rfl, by rw [ll]; exact pos, by rw [ll]; exact h6, fun s hs' => ?_, fun u hu => by rw [ll]; exact ok.ups u hu, rfl⟩)) (fun d p => rt d (other_rule ok sl hst hr hs p))
    · rw [List.length_map]
      show _ + 1 ≤ sizeLine
      omega
    · rw [List.length_append, List.length_map, List.length_map]
      show _ + 1 + _ ≤ sizeLine
      omega
    · exact congrArg D.tup (by rw [List.map_append (l₂ := ρ.states.drop (at_ + 1)), List.map_append (l₁ := ρ.states.take at_)]; rfl)
    · simp only [List.mem_append, List.mem_singleton] at hs'
      rcases hs' with (z | z) | z
      · exact (ok.states s (List.mem_of_mem_take z)).len
      · rw [z]
        show (st.rules.take k ++ some' ++ st.rules.drop (k + 1)).length ≤ 6
        simp only [List.length_append, List.length_take, List.length_drop]
        omega
      · exact (ok.states s (List.mem_of_mem_drop z)).len
end
end K23


-- text D8
set_option Elab.async false
set_option linter.all false
set_option maxRecDepth 100000
set_option maxHeartbeats 2000000
namespace K23
open PySem PySem.Spec PyProof.Rows L2
/-- a protocol that the law may hand out -/
def ProtoGood (d : D) : Prop := ∃ p : Proto, d = p.d ∧ p.Ok ∧ p.Slim
structure KnownGood (p : Proto) : Prop where
  ok : p.Ok
  slim : p.Slim
  l6 : p.leader.states.length ≤ 6
  m6 : p.member.states.length ≤ 6
theorem oneRound_good : KnownGood oneRound := by
  have h := known_sends
  simp only [KNOWN, List.all_cons, Bool.and_eq_true, List.all_eq_true, decide_eq_true_eq] at h
  exact ⟨oneRound_ok, ⟨slim_of sendL (by decide) h.1.1, slim_of sendM (by decide) h.1.2⟩, by decide, by decide⟩
theorem twoRounds_good (b : Bool) : KnownGood (twoRounds b) := by
  have h := known_sends
  simp only [KNOWN, List.all_cons, Bool.and_eq_true, List.all_eq_true, decide_eq_true_eq] at h
  cases b
  · exact ⟨twoRounds_ok _, ⟨slim_of sendL (by decide) h.2.2.1.1, slim_of sendM (by decide) h.2.2.1.2⟩, by decide, by decide⟩
  · exact ⟨twoRounds_ok _, ⟨slim_of sendL (by decide) h.2.1.1, slim_of sendM (by decide) h.2.1.2⟩, by decide, by decide⟩
theorem knownOf_good (z : Str) : KnownGood (knownOf z) := by
  unfold knownOf
  split
  · exact oneRound_good
  · exact twoRounds_good _
def protoR : Rel := fun M ds P => ∃ q q2 : Addr, Deck M q q2 ∧ ds = [.adr q] ∧ P = ProtoGood
section
variable {P : Program} {w : World} {K : PySem.W.Frag} {mg : Str → Option Value} {base : Heap}
theorem w__law_drawn_protocol (T : Top K mg) : Fn P w K mg base 4 "_law_drawn_protocol" ["_law_deck_here"] (protoR) := by
  obtain ⟨f, fd, hm, F⟩ := T.e91
  have S : FnScope ["_law_deck_here", "_law_way", "_law_found", "_law_k", "_law_kinds", "_law_marks_here"] ["_law_deck_here"] (defScope s91) := ⟨rfl, rfl, rfl, by decide +kernel, rfl, by decide +kernel, by decide +kernel⟩
  refine fn_mk (k := 3) F hm S (F.bindsN (ps := ["_law_deck_here"]) fun _ _ _ _ _ _ us hl => match us, hl with | [_], _ => rfl) (fun M ds P r => by obtain ⟨q, q2, kd, rfl, rfl⟩ := r; rfl) ?_
  rintro cdv A fr s M _ _ H0 E su ⟨q, q2, kd, rfl, rfl⟩ rt nx
  have nd := S.nd
  refine ST.norm (ds' := [_, _, _, _, _, _]) rfl ?_
  refine st_parP (i := 1) (j := 2) (P2 := fun d => ∃ p : Proto, KnownGood p ∧ d = p.d) rfl (bp_draw T (su.mono (by decide)) kd.at (be_var 0) (be_int (i := ((5 : Nat) : Int))) (by first | decide | omega | (simp only [List.length_map, List.length_cons, List.length_append, List.length_nil]; omega) | (simp; omega)) (by first | decide | omega | (simp only [List.length_map, List.length_cons, List.length_append, List.length_nil]; omega) | (simp; omega))) (pe_fnI (L := fun l => ∃ z : Str, SOk z ∧ l = [.str z]) (w__law_known T) (su.mono (by decide)) (fun l z => by obtain ⟨z, _, e⟩ := z; rw [e]; rfl) (ba_cons (P := fun d => d ∈ [D.str "tworounds", .str "lazy", .str "oneround", .str "tworounds"]) (L := fun l => l = []) (bp_pickE T (su.mono (by decide)) kd.at (be_var 0) (be_lst (bae be_str (bae be_str (bae be_str (bae be_str ba_nil))))) (by first | decide | omega | (simp only [List.length_map, List.length_cons, List.length_append, List.length_nil]; omega) | (simp; omega)) (by first | decide | omega | (simp only [List.length_map, List.length_cons, List.length_append, List.length_nil]; omega) | (simp; omega))) ba_nil (fun d l h e => ?_)) (fun l z => ?_)) (fun d1 d2 z1 z2 => ?_) nd
  · rw [e]
    simp only [List.mem_cons, List.not_mem_nil, or_false] at h
    rcases h with z | z | z | z
    · exact ⟨_, (inferInstance : SOk "tworounds"), by rw [z]⟩
    · exact ⟨_, (inferInstance : SOk "lazy"), by rw [z]⟩
    · exact ⟨_, (inferInstance : SOk "oneround"), by rw [z]⟩
    · exact ⟨_, (inferInstance : SOk "tworounds"), by rw [z]⟩
  · obtain ⟨z, sz, e⟩ := z
    exact ⟨_, ⟨_, ⟨z, e, sz, rfl⟩, rfl⟩, fun d hd => ⟨knownOf z, knownOf_good z, hd⟩⟩
  obtain ⟨way, hway, e⟩ := z1
  subst e
  obtain ⟨p, kp, e⟩ := z2
  subst e
  refine ST.norm (ds' := [_, _, _, _, _, _]) rfl ?_
  refine st_ifE (q := decide ((way : Int) = 0)) (tq_eqI su.u64 (be_var 1) be_int) (fun c => ?_) (fun c => ?_)
  · exact st_retE (be_var 2) (rt _ ⟨p, rfl, kp.ok, kp.slim⟩)
  refine st_then ?_
  refine st_ifE (q := decide ((way : Int) < 3)) (bt_lt (be_var 1) be_int) (fun c => ?_) (fun c => ?_)
  · refine st_asg (i := 3) (hN := nd) (bp_draw T (su.mono (by decide)) kd.at (be_var 0) (be_int (i := ((2 : Nat) : Int))) (by first | decide | omega | (simp only [List.length_map, List.length_cons, List.length_append, List.length_nil]; omega) | (simp; omega)) (by first | decide | omega | (simp only [List.length_map, List.length_cons, List.length_append, List.length_nil]; omega) | (simp; omega))) (fun d z => ?_)
    obtain ⟨k, hk, e⟩ := z
    subst e
    refine ST.norm (ds' := [_, _, _, _, _, _]) rfl ?_
    have sz : ∀ l m : List D, l.length ≤ 2 → m.length ≤ 2 → l.length + m.length ≤ sizeLine := fun l m h1 h2 => Nat.le_trans (Nat.add_le_add h1 h2) (by decide)
    have cs : k = 0 ∨ k = 1 := by omega
    rcases cs with rfl | rfl
    · refine st_ret (bp_catT (bp_catT (bp_kT (BP.is (d' := .tup []) (be_slT (be_var 2) bo_none (bo_some (be_var 3))) rfl)) (bp_one1 (bp_call (w__law_changed_role T) (su.mono (by decide)) (bae (be_var 0) (bae (be_ix (be_var 2) (be_var 3)) ba_nil)) ⟨q, q2, true, p.leader, kd.at, rfl, kp.ok.leader, kp.l6, kp.slim.leader, rfl⟩)) ?_) (bp_kT (BP.is (d' := .tup [p.member.d]) (be_slT (be_var 2) (bo_some (BP.is (d' := .int ((1 : Nat) : Int)) (be_add (be_var 3) be_int) rfl)) bo_none) rfl)) ?_) (fun d z => rt d ?_)
      · rintro l m rfl ⟨x, _, rfl⟩
        exact sz _ _ (Nat.zero_le _) (by simp)
      · rintro l m ⟨x, y, rfl, ⟨x1, _, rfl⟩, rfl⟩ rfl
        exact sz _ _ (by simp) (by simp)
      · obtain ⟨l, e, x, y, ⟨x1, y1, rfl, ⟨x2, ⟨ρ, e2, ok2, sl2⟩, rfl⟩, rfl⟩, rfl, rfl⟩ := z
        exact ⟨⟨ρ, p.member⟩, by rw [e, e2]; rfl, ⟨ok2, kp.ok.member⟩, ⟨sl2, kp.slim.member⟩⟩
    · refine st_ret (bp_catT (bp_catT (bp_kT (BP.is (d' := .tup [p.leader.d]) (be_slT (be_var 2) bo_none (bo_some (be_var 3))) rfl)) (bp_one1 (bp_call (w__law_changed_role T) (su.mono (by decide)) (bae (be_var 0) (bae (be_ix (be_var 2) (be_var 3)) ba_nil)) ⟨q, q2, false, p.member, kd.at, rfl, kp.ok.member, kp.m6, kp.slim.member, rfl⟩)) ?_) (bp_kT (BP.is (d' := .tup []) (be_slT (be_var 2) (bo_some (BP.is (d' := .int ((2 : Nat) : Int)) (be_add (be_var 3) be_int) rfl)) bo_none) rfl)) ?_) (fun d z => rt d ?_)
      · rintro l m rfl ⟨x, _, rfl⟩
        exact sz _ _ (by simp) (by simp)
      · rintro l m ⟨x, y, rfl, ⟨x1, _, rfl⟩, rfl⟩ rfl
        exact sz _ _ (by simp) (Nat.zero_le _)
      · obtain ⟨l, e, x, y, ⟨x1, y1, rfl, ⟨x2, ⟨ρ, e2, ok2, sl2⟩, rfl⟩, rfl⟩, rfl, rfl⟩ := z
        exact ⟨⟨p.leader, ρ⟩, by rw [e, e2]; rfl, ⟨kp.ok.leader, ok2⟩, ⟨kp.slim.leader, sl2⟩⟩
  refine st_then ?_
  refine st_parP (i := 4) (j := 5) (P1 := fun d => ∃ ks : List Wd, (1 ≤ ks.length ∧ ks.length ≤ 3 ∧ ∀ k ∈ ks, k ∈ NAMES) ∧ d = .lst (ks.map Wd.d)) (P2 := fun d => ∃ ks : List Wd, (1 ≤ ks.length ∧ ks.length ≤ 3 ∧ ∀ k ∈ ks, k ∈ NAMES) ∧ d = .lst (ks.map Wd.d)) rfl (BP.imp (bp_pickE T (su.mono (by decide)) kd.at (be_var 0) (be_lst (bae (be_lst (bae be_str (bae be_str ba_nil))) (bae (be_lst (bae be_str (bae be_str (bae be_str ba_nil)))) (bae (be_lst (bae be_str ba_nil)) ba_nil)))) (by first | decide | omega | (simp only [List.length_map, List.length_cons, List.length_append, List.length_nil]; omega) | (simp; omega)) (by first | decide | omega | (simp only [List.length_map, List.length_cons, List.length_append, List.length_nil]; omega) | (simp; omega))) fun d h => ?_) (BP.imp (bp_pickE T (su.mono (by decide)) kd.at (be_var 0) (be_lst (bae (be_lst (bae be_str ba_nil)) (bae (be_lst (bae be_str (bae be_str ba_nil))) (bae (be_lst (bae be_str (bae be_str (bae be_str ba_nil)))) ba_nil)))) (by first | decide | omega | (simp only [List.length_map, List.length_cons, List.length_append, List.length_nil]; omega) | (simp; omega)) (by first | decide | omega | (simp only [List.length_map, List.length_cons, List.length_append, List.length_nil]; omega) | (simp; omega))) fun d h => ?_) (fun d1 d2 z1 z2 => ?_) nd
  · simp only [List.mem_cons, List.not_mem_nil, or_false] at h
    rcases h with z | z | z
    · exact ⟨[wd "go", wd "no"], ⟨by decide, by decide, by decide +kernel⟩, z⟩
    · exact ⟨[wd "a", wd "b", wd "yes"], ⟨by decide, by decide, by decide +kernel⟩, z⟩
    · exact ⟨[wd "ask"], ⟨by decide, by decide, by decide +kernel⟩, z⟩
  · simp only [List.mem_cons, List.not_mem_nil, or_false] at h
    rcases h with z | z | z
    · exact ⟨[wd "m"], ⟨by decide, by decide, by decide +kernel⟩, z⟩
    · exact ⟨[wd "kept", wd "dropped"], ⟨by decide, by decide, by decide +kernel⟩, z⟩
    · exact ⟨[wd "one", wd "two", wd "three"], ⟨by decide, by decide, by decide +kernel⟩, z⟩
  obtain ⟨ks, ⟨k1, k2, k3⟩, e⟩ := z1
  subst e
  obtain ⟨ms, ⟨m1, m2, m3⟩, e⟩ := z2
  subst e
  refine ST.norm (ds' := [_, _, _, _, _, _]) rfl ?_
  refine st_ret (bp_tup (P := ProtoGood) (ba_p (bp_call (w__law_drawn_role T) (su.mono (by decide)) (bae (be_var 0) (bae be_bl (bae (be_var 4) (bae (be_var 5) ba_nil)))) ⟨q, q2, true, ks, ms, kd.at, rfl, k1, k2, k3, m2, m3, rfl⟩) (ba_p (bp_call (w__law_drawn_role T) (su.mono (by decide)) (bae (be_var 0) (bae be_bl (bae (be_var 4) (bae (be_var 5) ba_nil)))) ⟨q, q2, false, ks, ms, kd.at, rfl, k1, k2, k3, m2, m3, rfl⟩) ba_nil)) ?_ ?_) (fun d z => rt d z)
  · rintro z ⟨_, _, ⟨ρ, rfl, ok1, sl1⟩, ⟨_, _, ⟨ρ2, rfl, ok2, sl2⟩, rfl, rfl⟩, rfl⟩
    exact ⟨⟨ρ, ρ2⟩, rfl, ⟨ok1, ok2⟩, ⟨sl1, sl2⟩⟩
  · rintro z ⟨_, _, _, ⟨_, _, _, rfl, rfl⟩, rfl⟩
    show 2 ≤ sizeLine
    decide
end
end K23


-- text S7
set_option Elab.async false
set_option linter.all false
set_option maxRecDepth 100000
set_option maxHeartbeats 2000000
namespace K23
open PySem PySem.Spec PyProof.Rows L2

/-! ## 44. rows of steps, and what stands behind them -/
section
variable {p : Proto} {n : Nat}
def Can (p : Proto) (n : Nat) : Standing → List Step → Prop
  | _, [] => True
  | S, s :: r => s ∈ stepsOf p n S ∧ Can p n (stepDone p n S s) r
def endOf (p : Proto) (n : Nat) : Standing → List Step → Standing
  | S, [] => S
  | S, s :: r => endOf p n (stepDone p n S s) r
def trail (p : Proto) (n : Nat) : Standing → List Step → List Standing
  | S, [] => [S]
  | S, s :: r => S :: trail p n (stepDone p n S s) r
theorem run_can : ∀ (r : List Step) (S : Standing), Can p n S r → runFrom p n S r = some (endOf p n S r)
  | [], _, _ => rfl
  | s :: r, S, h => by
    unfold runFrom
    rw [if_pos h.1]
    exact run_can r _ h.2
theorem run_not : ∀ (r : List Step) (S : Standing), ¬ Can p n S r → runFrom p n S r = none
  | [], _, h => absurd trivial h
  | s :: r, S, h => by
    unfold runFrom
    by_cases c : s ∈ stepsOf p n S
    · rw [if_pos c]
      exact run_not r _ fun z => h ⟨c, z⟩
    · rw [if_neg c]
theorem can_app : ∀ (r r2 : List Step) (S : Standing), Can p n S (r ++ r2) ↔ Can p n S r ∧ Can p n (endOf p n S r) r2
  | [], r2, S => ⟨fun h => ⟨trivial, h⟩, fun h => h.2⟩
  | s :: r, r2, S => by
    show (_ ∧ Can p n _ (r ++ r2)) ↔ (_ ∧ _) ∧ _
    rw [can_app r r2]
    exact ⟨fun ⟨a, b, c⟩ => ⟨⟨a, b⟩, c⟩, fun ⟨⟨a, b⟩, c⟩ => ⟨a, b, c⟩⟩
theorem end_app : ∀ (r r2 : List Step) (S : Standing), endOf p n S (r ++ r2) = endOf p n (endOf p n S r) r2
  | [], r2, S => rfl
  | s :: r, r2, S => end_app r r2 _
theorem trail_snoc : ∀ (r : List Step) (s : Step) (S : Standing), trail p n S (r ++ [s]) = trail p n S r ++ [endOf p n S (r ++ [s])]
  | [], s, S => rfl
  | t :: r, s, S => by
    show S :: trail p n (stepDone p n S t) (r ++ [s]) = _
    rw [trail_snoc r s]
    rfl
theorem trail_len : ∀ (r : List Step) (S : Standing), (trail p n S r).length = r.length + 1
  | [], S => rfl
  | s :: r, S => congrArg (· + 1) (trail_len r _)
theorem trail_at : ∀ (r : List Step) (i : Nat) (S : Standing), i ≤ r.length → (trail p n S r)[i]? = some (endOf p n S (r.take i))
  | [], i, S, h => by
    have : i = 0 := Nat.le_zero.mp h
    rw [this]
    rfl
  | s :: r, 0, S, _ => rfl
  | s :: r, i + 1, S, h => trail_at r i _ (Nat.le_of_succ_le_succ h)
theorem trail_last (r : List Step) (S : Standing) : (trail p n S r).getLast? = some (endOf p n S r) := by
  rw [List.getLast?_eq_getElem?, trail_len, Nat.add_sub_cancel, trail_at r r.length S (Nat.le_refl _), List.take_length]
theorem can_good (hp : p.Ok) : ∀ (r : List Step) (S : Standing), S.Good p n → Can p n S r → (endOf p n S r).Good p n
  | [], _, g, _ => g
  | s :: r, S, g, h => can_good hp r _ (stepDone_good hp g h.1) h.2
theorem can_take {r : List Step} {S : Standing} (h : Can p n S r) (i : Nat) : Can p n S (r.take i) := by
  rw [← List.take_append_drop i r] at h
  exact ((can_app _ _ _).mp h).1
theorem trail_good (hp : p.Ok) {r : List Step} {S : Standing} (g : S.Good p n) (h : Can p n S r) : ∀ T ∈ trail p n S r, T.Good p n := fun T hT => by
  obtain ⟨i, hi⟩ := List.mem_iff_getElem?.mp hT
  have hl := (List.getElem?_eq_some_iff.mp hi).1
  rw [trail_len] at hl
  rw [trail_at r i S (by omega)] at hi
  cases hi
  exact can_good hp _ _ g (can_take h i)

/-! ### there is always a step -/
theorem fall_there {S : Standing} (ok : S.Ok p n) {h : Nat} (hh : h < n) : ∃ s ∈ stepsOf p n S, s.h = h := by
  obtain ⟨x, hx, _⟩ := ok.house hh
  have hk := ok.houses h x hx
  cases c : x.state with
  | none =>
    refine ⟨.up h, mem_stepsOf.mpr ⟨x, hx, ?_⟩, rfl⟩
    unfold stepsAt
    rw [c]
    exact List.mem_singleton.mpr rfl
  | some k =>
    refine ⟨.fall h x.forced, mem_stepsOf.mpr ⟨x, hx, ?_⟩, rfl⟩
    unfold stepsAt
    rw [c]
    refine List.mem_append_left _ (List.mem_append_right _ (List.mem_map.mpr ⟨x.forced, ?_, rfl⟩))
    rw [List.mem_range'_1]
    have := hk.forced
    omega
theorem steps_pos {S : Standing} (ok : S.Ok p n) (h1 : 1 ≤ n) : 1 ≤ (stepsOf p n S).length := by
  obtain ⟨s, hs, _⟩ := fall_there ok (h := 0) h1
  exact List.length_pos_of_mem hs
theorem steps_few {S : Standing} (g : S.Good p n) (hp : p.Ok) (sl : p.Slim) (hn : n ≤ 4) : (stepsOf p n S).length ≤ 300 := by
  have f := g.few sl hn
  have a := fm_len (f := fun q : House × Nat => stepsAt p n S.sent q.2 q.1) (l := S.houses.zipIdx) (c := 70) (fun y hy => by
    have l15 := (g.ok.houses y.2 y.1 (List.mem_zipIdx_iff_getElem?.mp hy)).log15 hp
    unfold stepsAt
    cases y.1.state with
    | none => show 1 ≤ 70; decide
    | some s =>
      show (((ruleSteps p n y.2 y.1 ++ hearSteps S.sent y.2 y.1) ++ fallSteps y.2 y.1) ++ forceSteps y.2 y.1).length ≤ 70
      have a := ruleSteps_len hp n y.2 y.1
      have b := hearSteps_len S.sent y.2 y.1
      have c := fallSteps_len y.2 y.1
      have d := forceSteps_len y.2 y.1
      simp only [List.length_append]
      omega) S.houses.zipIdx.length
  rw [List.take_length, List.length_zipIdx, g.ok.len] at a
  show (S.houses.zipIdx.flatMap fun q => stepsAt p n S.sent q.2 q.1).length ≤ 300
  omega

/-! ### a step touches its own house and the letters -/
theorem done_house {S : Standing} {s : Step} (hs : s ∈ stepsOf p n S) {h : Nat} (ne : h ≠ s.h) : (stepDone p n S s).houses[h]? = S.houses[h]? := by
  obtain ⟨x, hx, _⟩ := mem_stepsOf.mp hs
  have := put_at (List.getElem?_eq_some_iff.mp hx).1 (houseDone p (houseAt S s.h) s) h
  rw [if_neg ne] at this
  exact this
theorem done_own {S : Standing} {s : Step} (hs : s ∈ stepsOf p n S) : (stepDone p n S s).houses[s.h]? = some (houseDone p (houseAt S s.h) s) := by
  obtain ⟨x, hx, _⟩ := mem_stepsOf.mp hs
  have := put_at (List.getElem?_eq_some_iff.mp hx).1 (houseDone p (houseAt S s.h) s) s.h
  rw [if_pos rfl] at this
  exact this
theorem done_at {S : Standing} {s : Step} (hs : s ∈ stepsOf p n S) {h : Nat} (ne : h ≠ s.h) : houseAt (stepDone p n S s) h = houseAt S h := by
  unfold houseAt
  rw [done_house hs ne]
theorem done_sent {S : Standing} {s : Step} {l : Letter} : l ∈ (stepDone p n S s).sent ↔ l ∈ S.sent ∨ l ∈ lettersOf p n (houseAt S s.h) s := sentMore_mem
/-- the letter that a step hears -/
def heardOf : Step → Option Letter
  | .hear h g k => some ⟨g, h, k⟩
  | _ => none
theorem steps_sent {h : Nat} {x : House} {s : Step} {sent sent' : List Letter} (m : s ∈ stepsAt p n sent h x) (hl : ∀ l, heardOf s = some l → l ∈ sent') : s ∈ stepsAt p n sent' h x := by
  unfold stepsAt at m ⊢
  cases c : x.state with
  | none => rw [c] at m; exact m
  | some k =>
    rw [c] at m
    simp only [List.mem_append] at m ⊢
    rcases m with ((m | m) | m) | m
    · exact .inl (.inl (.inl m))
    · refine .inl (.inl (.inr ?_))
      unfold hearSteps at m ⊢
      obtain ⟨l, h1, h2⟩ := List.mem_map.mp m
      obtain ⟨h3, h4⟩ := List.mem_filter.mp h1
      refine List.mem_map.mpr ⟨l, List.mem_filter.mpr ⟨hl l ?_, h4⟩, h2⟩
      rw [← h2]
      simp only [Bool.and_eq_true, decide_eq_true_eq] at h4
      show some (⟨l.src, h, l.kind⟩ : Letter) = some l
      rw [← h4.1]
    · exact .inl (.inr m)
    · exact .inr m
theorem heard_sent {S : Standing} {s : Step} (hs : s ∈ stepsOf p n S) {l : Letter} (e : heardOf s = some l) : l ∈ S.sent := by
  obtain ⟨x, hx, m⟩ := mem_stepsOf.mp hs
  cases s with
  | hear h g k =>
    cases e
    exact (step_hear m).2.1
  | _ => cases e
/-- a step of another house can still be done -/
theorem still {S : Standing} {s t : Step} (hs : s ∈ stepsOf p n S) (ht : t ∈ stepsOf p n S) (ne : s.h ≠ t.h) : t ∈ stepsOf p n (stepDone p n S s) := by
  obtain ⟨x, hx, m⟩ := mem_stepsOf.mp ht
  exact mem_stepsOf.mpr ⟨x, by rw [done_house hs (Ne.symm ne)]; exact hx, steps_sent m fun l e => done_sent.mpr (.inl (heard_sent ht e))⟩
/-- .. and could be done before, if it hears nothing new -/
theorem before {S : Standing} {s t : Step} (hs : s ∈ stepsOf p n S) (ht : t ∈ stepsOf p n (stepDone p n S s)) (ne : s.h ≠ t.h) (hl : ∀ l, heardOf t = some l → l ∈ S.sent) : t ∈ stepsOf p n S := by
  obtain ⟨x, hx, m⟩ := mem_stepsOf.mp ht
  rw [done_house hs (Ne.symm ne)] at hx
  exact mem_stepsOf.mpr ⟨x, hx, steps_sent m hl⟩
theorem done_eq {S T : Standing} (hS : S.Ok p n) (hT : T.Ok p n) (h1 : ∀ h : Nat, S.houses[h]? = T.houses[h]?) (h2 : ∀ l, l ∈ S.sent ↔ l ∈ T.sent) : S = T := by
  have a : S.houses = T.houses := List.ext_getElem? h1
  have b : S.sent = T.sent := kdL.up_eq hS.sentUp hT.sentUp h2
  cases S; cases T
  simp only at a b
  rw [a, b]
/-- both orders lead to the same standing -/
theorem swap {S : Standing} (hp : p.Ok) (ok : S.Ok p n) {s t : Step} (hs : s ∈ stepsOf p n S) (ht : t ∈ stepsOf p n S) (ne : s.h ≠ t.h) : stepDone p n (stepDone p n S s) t = stepDone p n (stepDone p n S t) s := by
  have t1 := still hs ht ne
  have s1 := still ht hs (Ne.symm ne)
  have os := stepDone_ok hp ok hs
  have ot := stepDone_ok hp ok ht
  refine done_eq (stepDone_ok hp os t1) (stepDone_ok hp ot s1) (fun h => ?_) fun l => ?_
  · by_cases c1 : h = t.h
    · subst c1
      rw [done_own t1, done_house s1 (Ne.symm ne), done_own ht, done_at hs (Ne.symm ne)]
    · by_cases c2 : h = s.h
      · subst c2
        rw [done_house t1 c1, done_own hs, done_own s1, done_at ht ne]
      · rw [done_house t1 c1, done_house hs c2, done_house s1 c2, done_house ht c1]
  · rw [done_sent, done_sent, done_sent, done_sent, done_at hs (Ne.symm ne), done_at ht ne]
    exact ⟨fun z => z.elim (fun z => z.elim (fun z => .inl (.inl z)) .inr) fun z => .inl (.inr z), fun z => z.elim (fun z => z.elim (fun z => .inl (.inl z)) .inr) fun z => .inl (.inr z)⟩
/-- two neighbours exchanged -/
theorem neighbours (hp : p.Ok) {S : Standing} (ok : S.Ok p n) {s t : Step} {r : List Step} (h : Can p n S (s :: t :: r)) (ne : s.h ≠ t.h) : (Can p n S (t :: s :: r) ↔ ∀ l, heardOf t = some l → l ∈ S.sent) ∧ (Can p n S (t :: s :: r) → endOf p n S (t :: s :: r) = endOf p n S (s :: t :: r)) := by
  obtain ⟨hs, ht, hr⟩ := h
  have key : (∀ l, heardOf t = some l → l ∈ S.sent) → t ∈ stepsOf p n S ∧ s ∈ stepsOf p n (stepDone p n S t) ∧ stepDone p n (stepDone p n S s) t = stepDone p n (stepDone p n S t) s := fun hl => by
    have t0 := before hs ht ne hl
    exact ⟨t0, still t0 hs (Ne.symm ne), swap hp ok hs t0 ne⟩
  have fw : Can p n S (t :: s :: r) → ∀ l, heardOf t = some l → l ∈ S.sent := fun z l e => heard_sent z.1 e
  refine ⟨⟨fw, fun hl => ?_⟩, fun z => ?_⟩
  · obtain ⟨a, b, c⟩ := key hl
    exact ⟨a, b, by rw [← c]; exact hr⟩
  · obtain ⟨_, _, c⟩ := key (fw z)
    show endOf p n (stepDone p n (stepDone p n S t) s) r = endOf p n (stepDone p n (stepDone p n S s) t) r
    rw [c]
/-- a step that brings nothing may come behind steps of other houses -/
theorem late (hp : p.Ok) : ∀ (A : List Step) (S : Standing) (s : Step), S.Ok p n → s ∈ stepsOf p n S → (∀ l ∈ lettersOf p n (houseAt S s.h) s, l ∈ S.sent) → (∀ t ∈ A, t.h ≠ s.h) → Can p n (stepDone p n S s) A →
    Can p n S A ∧ s ∈ stepsOf p n (endOf p n S A) ∧ stepDone p n (endOf p n S A) s = endOf p n (stepDone p n S s) A
  | [], S, s, ok, hs, hl, ha, hc => ⟨trivial, hs, rfl⟩
  | t :: A, S, s, ok, hs, hl, ha, hc => by
    have ne : s.h ≠ t.h := Ne.symm (ha t List.mem_cons_self)
    have t0 : t ∈ stepsOf p n S := before hs hc.1 ne fun l e => by
      rcases done_sent.mp (heard_sent hc.1 e) with z | z
      · exact z
      · exact hl l z
    have s1 := still t0 hs (Ne.symm ne)
    have sw := swap hp ok hs t0 ne
    have hc2 := hc.2
    rw [sw] at hc2
    obtain ⟨a, b, c⟩ := late hp A (stepDone p n S t) s (stepDone_ok hp ok t0) s1 (fun l h => by
      rw [done_at t0 ne] at h
      exact done_sent.mpr (.inl (hl l h))) (fun u hu => ha u (List.mem_cons_of_mem _ hu)) hc2
    refine ⟨⟨t0, a⟩, b, ?_⟩
    show stepDone p n (endOf p n (stepDone p n S t) A) s = endOf p n (stepDone p n (stepDone p n S s) t) A
    rw [c, sw]
/-- the steps of a house that bring nothing may all come last -/
theorem last (hp : p.Ok) (h : Nat) : ∀ (r : List Step) (S : Standing), S.Ok p n → Can p n S r → (∀ (i : Nat) (s : Step), r[i]? = some s → s.h = h → (endOf p n S (r.take (i + 1))).sent = (endOf p n S (r.take i)).sent) →
    Can p n S (r.filter (fun s => !decide (s.h = h)) ++ r.filter fun s => decide (s.h = h)) ∧ endOf p n S (r.filter (fun s => !decide (s.h = h)) ++ r.filter fun s => decide (s.h = h)) = endOf p n S r
  | [], S, _, _, _ => ⟨trivial, rfl⟩
  | s :: r, S, ok, hc, hq => by
    obtain ⟨i1, i2⟩ := last hp h r (stepDone p n S s) (stepDone_ok hp ok hc.1) hc.2 fun i t ht e => hq (i + 1) t ht e
    by_cases c : s.h = h
    · rw [List.filter_cons_of_neg (by simp [c]), List.filter_cons_of_pos (by simp [c])]
      have q0 := hq 0 s rfl c
      have hl : ∀ l ∈ lettersOf p n (houseAt S s.h) s, l ∈ S.sent := fun l z => by
        have z2 : l ∈ (stepDone p n S s).sent := done_sent.mpr (.inr z)
        have q1 : (stepDone p n S s).sent = S.sent := q0
        rw [q1] at z2
        exact z2
      rw [can_app] at i1
      obtain ⟨a, b, d⟩ := late hp (r.filter fun s => !decide (s.h = h)) S s ok hc.1 hl (fun t ht => by
        have := (List.mem_filter.mp ht).2
        rw [c]
        simpa using this) i1.1
      rw [end_app] at i2
      rw [can_app, end_app]
      refine ⟨⟨a, b, ?_⟩, ?_⟩
      · rw [d]
        exact i1.2
      · show endOf p n (stepDone p n (endOf p n S (r.filter fun s => !decide (s.h = h))) s) (r.filter fun s => decide (s.h = h)) = endOf p n (stepDone p n S s) r
        rw [d]
        exact i2
    · rw [List.filter_cons_of_pos (by simp [c]), List.filter_cons_of_neg (by simp [c])]
      exact ⟨⟨hc.1, i1⟩, i2⟩
end
end K23

-- text A36
set_option Elab.async false
set_option linter.all false
set_option maxRecDepth 100000
set_option maxHeartbeats 2000000
namespace K23
open PySem PySem.Spec PyProof.Rows L2
section
variable {X : Cx} {M : Md} {ds : List (Option D)} {a b : Expr} {rest : List Expr} {pos : Pos}
theorem bw_andP {c : Bool} {P : Bool → Prop} (ha : BTE X M ds a c) (hb : c = true → BW X M ds (.BoolOp .And (b :: rest) pos) P) (hf : c = false → P false) : BW X M ds (.BoolOp .And (a :: b :: rest) pos) P := by
  cases c with
  | true => exact ⟨PW.imp (pw_and ha.pt (hb rfl).pw) fun σ H Q q => ⟨q.1, q.2.1, fun x H' p e w => by
      subst p
      show tT X.K M ds P σ H' Q
      exact ⟨q.1.mono e fun _ z => z, w, fun y H2 p2 e2 w2 => q.2.2 y H2 p2 (e.trans e2) w2⟩⟩⟩
  | false => exact ⟨PW.imp (pw_and (tB' := fun _ _ _ => False) ha.pt ⟨fun _ _ _ _ _ _ _ z => z.elim⟩) fun σ H Q q => ⟨q.1, q.2.1, fun x H' p e w => by
      subst p
      show Q false H'
      exact q.2.2 _ H' (hf rfl) e w⟩⟩
end
/-- the word a step begins with -/
def Step.nm : Step → Str
  | .rule _ _ => "rule"
  | .hear _ _ _ => "hear"
  | .force _ => "force"
  | .fall _ _ => "fall"
  | .up _ => "up"
theorem nm_at (s : Step) : atI s.items 0 = some (.str s.nm) := by cases s <;> rfl
theorem hh_at (s : Step) : atI s.items 1 = some (.int s.h) := by cases s <;> rfl
instance {s : Step} : SOk s.nm := match s with
  | .rule _ _ => inferInstanceAs (SOk "rule")
  | .hear _ _ _ => inferInstanceAs (SOk "hear")
  | .force _ => inferInstanceAs (SOk "force")
  | .fall _ _ => inferInstanceAs (SOk "fall")
  | .up _ => inferInstanceAs (SOk "up")
end K23

-- text D9
set_option Elab.async false
set_option linter.all false
set_option maxRecDepth 100000
set_option maxHeartbeats 2000000
namespace K23
open PySem PySem.Spec PyProof.Rows L2
def rowR : Rel := fun M ds P => ∃ (q q2 : Addr) (p : Proto) (n many : Nat), Deck M q q2 ∧ ds = [.adr q, p.d, .int n, .int many] ∧ p.Ok ∧ p.Slim ∧ 1 ≤ n ∧ n ≤ 4 ∧ many ≤ 100 ∧ P = fun d => ∃ r : List Step, r.length ≤ many ∧ Can p n (firstOf p n) r ∧ d = .tup [.tup (r.map Step.d), .lst ((trail p n (firstOf p n) r).map Standing.d)]
theorem can_snoc {p : Proto} {n : Nat} {r : List Step} {s : Step} {S : Standing} (h : Can p n S r) (hs : s ∈ stepsOf p n (endOf p n S r)) : Can p n S (r ++ [s]) := (can_app _ _ _).mpr ⟨h, hs, trivial⟩
section
variable {P : Program} {w : World} {K : PySem.W.Frag} {mg : Str → Option Value} {base : Heap}
theorem w__law_drawn_row (T : Top K mg) : Fn P w K mg base 5 "_law_drawn_row" ["_law_deck_here", "_law_protocol", "_law_n", "_law_many"] (rowR) := by
  obtain ⟨f, fd, hm, F⟩ := T.e99
  have S : FnScope ["_law_deck_here", "_law_protocol", "_law_n", "_law_many", "_law_row", "_law_some", "_law_turn", "_law_steps_here", "_law_quiet", "_law_step"] ["_law_deck_here", "_law_protocol", "_law_n", "_law_many"] (defScope s99) := ⟨rfl, rfl, rfl, by decide +kernel, rfl, by decide +kernel, by decide +kernel⟩
  refine fn_mk (k := 4) F hm S (F.bindsN (ps := ["_law_deck_here", "_law_protocol", "_law_n", "_law_many"]) fun _ _ _ _ _ _ us hl => match us, hl with | [_, _, _, _], _ => rfl) (fun M ds P r => by obtain ⟨q, q2, p, n, many, kd, rfl, hp, hsl, h1, hn, hm, rfl⟩ := r; rfl) ?_
  rintro cdv A fr s M _ _ H0 E su ⟨q, q2, p, n, many, kd, rfl, hp, hsl, h1, hn, hm, rfl⟩ rt nx
  have nd := S.nd
  refine ST.norm (ds' := [_, _, _, _, _, _, _, _, _, _]) rfl ?_
  refine st_parLL (i := 4) (j := 5) Step.d (fun _ => Im.k) Standing.d (fun _ => Im.k) (c := firstOf p n) rfl (fun t nt => (be_call (w__law_first T) (su.mono (by decide)) (bae (be_var 1) (bae (be_var 2) ba_nil)) (⟨_, _, rfl, hn, hp, rfl⟩))) (fun t t2 nt nt2 => ?_) nd
  refine ST.norm (ds' := [_, _, _, _, _, _, _, _, _, _]) rfl ?_
  have ne : t2 ≠ t := fun e => nt2 (.inr e)
  have nt2' : ∀ r : List Step, ¬ ((M.at H0).ls K t Step.d (fun _ => Im.k) r).dep t2 := fun _ => nt2
  refine st_forP (φ := natD) (Yp := fun z => z = List.range many) (bi_known (bie_rng1 T.f_range (be_var 3))) (fun r : List Step => ((M.at H0).ls K t Step.d (fun _ => Im.k) r).ls K t2 Standing.d (fun _ => Im.k) (trail p n (firstOf p n) r)) (fun ys i r => r.length = i ∧ Can p n (firstOf p n) r) [] rfl (fun _ _ => ⟨rfl, trivial⟩) (fun _ => rfl) ?_ ?_
  · rintro H1 ys i turn r rfl hy ⟨e1, e2⟩
    have hi := (List.getElem?_eq_some_iff.mp hy).1
    rw [List.length_range] at hi
    have big : 300 ≤ sizeLine := by decide
    have kd2 : Deck ((((M.at H0).ls K t Step.d (fun _ => Im.k) r).ls K t2 Standing.d (fun _ => Im.k) (trail p n (firstOf p n) r)).at H1) q q2 := (Deck.ls (Deck.ls kd.at nt) (nt2' r)).at
    have good := can_good hp r _ (firstOf_good hp n) e2
    have few := steps_few good hp hsl hn
    have pos := steps_pos good.ok h1
    refine ⟨_, _, (bg_name (i := 6) nd), ?_⟩
    refine ST.norm (ds' := [_, _, _, _, _, _, _, _, _, _]) rfl ?_
    refine st_set (i := 7) (hN := nd) (d := .lst ((srt Step.d (stepsOf p n (endOf p n (firstOf p n) r))).map Step.d)) (be_call (w__law_steps T) (su.mono (by decide)) (bae (be_var 1) (bae (be_var 2) (bae (be_ixA (ls_rd.at) (imm_map (fun _ => Im.k) _) (be_var 5) (be_neg be_int) (at_last (f := Standing.d) (trail_last r _))) ba_nil))) (⟨_, _, _, rfl, hn, hp, good.ok, rfl⟩)) ?_
    refine ST.norm (ds' := [_, _, _, _, _, _, _, _, _, _]) rfl ?_
    have sl : (srt Step.d (stepsOf p n (endOf p n (firstOf p n) r))).length = (stepsOf p n (endOf p n (firstOf p n) r)).length := srt_len _ _
    have sm : ∀ s, s ∈ srt Step.d (stepsOf p n (endOf p n (firstOf p n) r)) → s ∈ stepsOf p n (endOf p n (firstOf p n) r) := fun s h => srt_mem.mp h
    generalize srt Step.d (stepsOf p n (endOf p n (firstOf p n) r)) = L at sl sm ⊢
    refine st_setL (i := 8)  (φ := Step.d) (ys := L) (f := Step.d) (keep := fun s => !decide (s.nm = ("fall" : Str))) (is := [9]) (g := _) (own := [("_law_step", 9)]) ⟨rfl, nd, blkOk_by (N := ["_law_deck_here", "_law_protocol", "_law_n", "_law_many", "_law_row", "_law_some", "_law_turn", "_law_steps_here", "_law_quiet", "_law_step"]) (sc := defScope s99) (own := [("_law_step", 9)]) (by decide +kernel), by decide, fun y hy X' hX => by have su := hX.sur su; obtain ⟨_, _, _, _, _, rfl⟩ := hX.ex; exact bg_name (i := 9) nd, fun y hy X' hX => by have su := hX.sur su; obtain ⟨_, _, _, _, _, rfl⟩ := hX.ex; exact bts_one (tq_neS su.u64 (be_ix (be_var 9) be_int (nm_at y)) be_str), fun y hy hk X' hX => by have su := hX.sur su; obtain ⟨_, _, _, _, _, rfl⟩ := hX.ex; exact be_var 9, fun y d hy hk e => by subst e; exact Im.k⟩ (bie_lst (be_var 7)) (by omega) ?_
    refine ST.norm (ds' := [_, _, _, _, _, _, _, _, _, _]) rfl ?_
    have Lne : L.isEmpty = false := by
      cases L with
      | nil => exact absurd sl (by rw [List.length_nil]; omega)
      | cons x l => rfl
    refine st_skip (BT.is (tq_eq su.u64 (be_var 7) (be_lst ba_nil)) (by rw [eqv_nilL]; cases L; exact absurd Lne (by decide); rfl)) ?_
    have ql : (L.filter fun s => !decide (s.nm = ("fall" : Str))).length ≤ 300 := Nat.le_trans (List.length_filter_le _ _) (by omega)
    have qm : ∀ s, s ∈ L.filter (fun s => !decide (s.nm = ("fall" : Str))) → s ∈ stepsOf p n (endOf p n (firstOf p n) r) := fun s h => sm s (List.mem_filter.mp h).1
    generalize L.filter (fun s => !decide (s.nm = ("fall" : Str))) = Q at ql qm ⊢
    have pk : ∀ l : List Step, (∀ s ∈ l, s ∈ stepsOf p n (endOf p n (firstOf p n) r)) → ∀ x ∈ l.map Step.d, ∃ s : Step, s ∈ stepsOf p n (endOf p n (firstOf p n) r) ∧ x = s.d := fun l hl x hx => by
      obtain ⟨s, hs, e⟩ := List.mem_map.mp hx
      exact ⟨s, hl s hs, e.symm⟩
    refine st_asg (i := 9) (hN := nd) (bp_pick (P := fun x => ∃ s : Step, s ∈ stepsOf p n (endOf p n (firstOf p n) r) ∧ x = s.d) T (su.mono (by decide)) kd2 (be_var 0) (bp_if (BW.bt (bw_andP (P := fun z => z = true → Q ≠ []) (tq_ne su.u64 (be_var 8) (be_lst ba_nil)) (fun c => bw_and1 (BT.imp (bt_gtN (bp_draw T (su.mono (by decide)) kd2 (be_var 0) (be_int (i := ((4 : Nat) : Int))) (by first | decide | omega | (simp only [List.length_map, List.length_cons, List.length_append, List.length_nil]; omega) | (simp; omega)) (by first | decide | omega | (simp only [List.length_map, List.length_cons, List.length_append, List.length_nil]; omega) | (simp; omega))) be_int) fun z _ _ => ?_)) (fun _ z => absurd z (by decide)))) (fun c => BP.imp (be_var 8) fun d e => ⟨Q.map Step.d, e, ?_, ?_, pk Q qm⟩) (fun _ => BP.imp (be_var 7) fun d e => ⟨L.map Step.d, e, ?_, ?_, pk L sm⟩))) (fun d z => ?_)
    · rw [eqv_nilL] at c
      intro e
      rw [e] at c
      exact absurd c (by decide)
    · rw [List.length_map]
      cases Q with
      | nil => exact absurd rfl (c rfl)
      | cons x l => exact Nat.succ_le_succ (Nat.zero_le _)
    · rw [List.length_map]; omega
    · rw [List.length_map]; omega
    · rw [List.length_map]; omega
    obtain ⟨s, hs, e⟩ := z
    subst e
    refine ST.norm (ds' := [_, _, _, _, _, _, _, _, _, _]) rfl ?_
    have rl : r.length < sizeLine := by omega
    have tl : (trail p n (firstOf p n) r).length < sizeLine := by rw [trail_len]; omega
    refine st_app (i := 4) (M' := (((M.at H0).ls K t Step.d (fun _ => Im.k) (r ++ [s])).ls K t2 Standing.d (fun _ => Im.k) (trail p n (firstOf p n) r)).at H1) (fun _ => Im.k) (be_var 9) (Mut.push2 (ls_mut nt) ne).at ?_ rl
    have ee : endOf p n (firstOf p n) (r ++ [s]) = stepDone p n (endOf p n (firstOf p n) r) s := end_app _ _ _
    refine st_app (i := 5) (a := endOf p n (firstOf p n) (r ++ [s])) (M' := (((M.at H0).ls K t Step.d (fun _ => Im.k) (r ++ [s])).ls K t2 Standing.d (fun _ => Im.k) (trail p n (firstOf p n) r ++ [endOf p n (firstOf p n) (r ++ [s])])).at H1) (fun _ => Im.k) (BP.is (be_call (w__law_behind T) (su.mono (by decide)) (bae (be_var 1) (bae (be_var 2) (bae (be_ixA (ls_rd.at) (imm_map (fun _ => Im.k) _) (be_var 5) (be_neg be_int) (at_last (f := Standing.d) (trail_last r _))) (bae (be_var 9) ba_nil)))) (⟨_, _, _, _, rfl, hp, h1, hn, good.ok, hs, good.room hp hsl hn hs, rfl⟩)) (by rw [ee])) (ls_mut (nt2' (r ++ [s]))).at ?_ tl
    rw [← trail_snoc]
    exact st_rchP (St := fun r : List Step => ((M.at H0).ls K t Step.d (fun _ => Im.k) r).ls K t2 Standing.d (fun _ => Im.k) (trail p n (firstOf p n) r)) (Pv := fun r => r.length = i + 1 ∧ Can p n (firstOf p n) r) (r ++ [s]) ⟨by rw [List.length_append, e1]; rfl, can_snoc e2 hs⟩ rfl (by repeat first | exact Wk.nil | apply Wk.keep | apply Wk.drop)
  · rintro H1 ys r rfl ⟨e1, e2⟩
    rw [List.length_range] at e1
    have fin : Ret K (((M.at H0).ls K t Step.d (fun _ => Im.k) r).ls K t2 Standing.d (fun _ => Im.k) (trail p n (firstOf p n) r)) E (.tup [.tup (r.map Step.d), .adr t2]) := Ret.adr2 (nt2' r) Im.k (Ret.push (rt _ ⟨r, by omega, e2, rfl⟩))
    exact st_retE (be_tup (bae (be_tupleOfA (Rdl.push2 ls_rd).at (imm_map (fun _ => Im.k) _) T.f_tuple (be_var 4)) (bae (be_var 5) ba_nil))) (Ret.at fin)
end
end K23


-- text A37
set_option Elab.async false
set_option linter.all false
set_option maxRecDepth 100000
set_option maxHeartbeats 2000000
namespace K23
open PySem PySem.Spec PyProof.Rows L2

/-! ## 45. calls by name, the names from the last one on -/
theorem PK.imp {X : Cx} {e : List Keyword} {t t' : TA} (h : PK X e t) (i : ∀ σ H Q, t' σ H Q → t σ H Q) : PK X e t' := ⟨fun pos pins s σ H Q I q => h.run pos pins s σ H Q I (i σ H Q q)⟩
structure BK (X : Cx) (M : Md) (ds : List (Option D)) (ks : List Keyword) (L : List D) : Prop where
  pk : PK X ks (tA X.K M ds fun l => l = L)
section
variable {X : Cx} {M : Md} {ds : List (Option D)} {e : Expr} {kws : List Keyword} {pos p kpos : Pos} {nm : Option Str} {x : Str}
theorem bk_nil : BK X M ds [] [] := ⟨PK.imp pk_nil fun σ H Q q => q.2.2 [] [] H rfl (Ex.refl H) q.2.1 .nil⟩
theorem bkw {d : D} {l : List D} (ha : BE X M ds e d) (hr : BK X M ds kws l) : BK X M ds (⟨nm, e, kpos⟩ :: kws) (d :: l) :=
  ⟨PK.imp (pk_cons ha.pe hr.pk) fun σ H Q q => ⟨q.1, q.2.1, fun d' v H1 p1 e1 w1 i1 => ⟨q.1.mono e1 fun _ z => z, w1, fun l' vs H2 p2 e2 w2 i2 => q.2.2 (d' :: l') (v :: vs) H2 (by rw [p1, p2]) (e1.trans e2) w2 (.cons (i1.mono e2 fun _ z => z) i2)⟩⟩⟩
theorem Iss.snoc {K : PySem.W.Frag} {S : Addr → Prop} {H : Hp} : ∀ {vs : List V} {ds : List D}, Iss K S H vs ds → Iss K S H vs.reverse ds.reverse
  | _, _, .nil => .nil
  | _, _, .cons h t => by
    rw [List.reverse_cons, List.reverse_cons]
    exact (Iss.snoc t).append (.cons h .nil)
theorem fund_same {K : PySem.W.Frag} {x1 q1 x2 q2 : Str} {a1 a2 : Arguments} {b1 b2 : List Stmt} {c1 c2 : Scope} {f : Addr} {fd fd' : FuncData} (F : FunD K x1 q1 a1 b1 c1 [] [] f fd) (G : FunD K x2 q2 a2 b2 c2 [] [] f fd') : fd = fd' := by
  obtain ⟨_, _, _, _, _, _, _, _, _, _, _, h1, _⟩ := F.ex
  obtain ⟨_, _, _, _, _, _, _, _, _, _, _, h2, _⟩ := G.ex
  rw [h1] at h2
  have := Option.some.inj h2
  simp only [Obj.mk.injEq, Data.func.injEq] at this
  exact this.2.2.1
theorem bp_callR {k : Nat} {ps : List Str} {R : Rel} {l : List D} {P : D → Prop} {qual : Str} {pr : Arguments} {body : List Stmt} {scope : Scope} (F : Fn X.prog X.w X.K X.mg X.base k x ps R) (hF : ∃ f fd, X.mg x = some (.ref f) ∧ FunD X.K qual qual pr body scope [] [] f fd)
    (hb : ∀ (kV doc pm : Value) (an : Option Addr) (cdv ct : Value) (ws : List Value), ws.length = ps.length → bindArgs (PySem.W.fnOf qual qual pr body scope .none kV doc pm an cdv ct) ⟨[], ps.reverse.zip ws⟩ = pure (ps.zip ws.reverse))
    (su : Sur X k) (ha : BK X M ds kws l) (h : R M l.reverse P) (hl : l.length = ps.length := by rfl) (hks : (backToKw pos (keywordEach kws X.env)).filterMap (·.1) = ps.reverse := by rfl) (hall : (backToKw pos (keywordEach kws X.env)).all (·.1.isSome) = true := by rfl) (hg : Gl X x := by rfl) (hdb : (x == ("__debug__" : Str)) = false := by decide)
    (hpl : ((backTo pos (starEach [] X.env)).any (·.1) || (backToKw pos (keywordEach kws X.env)).any (·.1.isNone)) = false := by rfl) : BP X M ds (.Call (.Name x p) [] kws pos) P := by
  obtain ⟨f, fd, hm, hk, ⟨q0, a0, b0, c0, F0⟩, _, F⟩ := F.ex
  obtain ⟨f', fd', hm', F1⟩ := hF
  rw [hm] at hm'
  cases hm'
  have efd := fund_same F1 F0
  subst efd
  refine ⟨⟨fun pins s σ H Q I q => ?_⟩⟩
  obtain ⟨en, w, kk⟩ := q
  refine wpAny_Call_Name_kw (ld_glob I hg hm ?_ hdb)
  refine PySem.W.callWith_KW0 (h₀ := X.base) I.ok.mod.kin hk hall ?_ hpl
  refine thn (ha.pk.run pos pins s σ H (fun zs H2 => zs.length = ps.length ∧ sgR X.K R zs.reverse H2 Q) I ⟨en, w, fun l' zs H1 pl e1 w1 i1 => ?_⟩) ?_
  · subst pl
    exact ⟨by rw [i1.length]; exact hl, M, l'.reverse, P, h, w1, i1.snoc, fun d v H2 pd e2 w2 i2 => kk d v H2 pd (e1.trans e2) w2 i2⟩
  · rintro ws s2 ⟨zs, H2, I2, rz, lz, q2⟩
    refine ⟨I2.kIn, ?_⟩
    rw [hks]
    have lw : ws.length = ps.length := rz.length.symm.trans lz
    have bt : BindsTo s2 fd' ⟨[], ps.reverse.zip ws⟩ (ps.zip ws.reverse) := by
      obtain ⟨oc, od, dV, kV, doc, pm, an, cdv, ct, osl, rfl, lk, hcd, hD, hK⟩ := F1.ex
      rcases hD with ⟨_, rfl⟩ | ⟨z, _⟩
      · exact .of_eq (hb kV doc pm an cdv ct ws lw)
      · exact absurd rfl z
    refine wpAny_call (codeAny_mono (fng_run F su.gd su.room I2 bt rz.reverse q2) ?_)
    rintro q s' ⟨u, rfl, h'⟩
    exact h'
end
end K23

-- text D10
set_option Elab.async false
set_option linter.all false
set_option maxRecDepth 100000
set_option maxHeartbeats 2000000
namespace K23
open PySem PySem.Spec PyProof.Rows L2
/-- repr of one and the same thing -/
theorem tq_neR {X : Cx} {M : Md} {ds : List (Option D)} {a b : Expr} {pos : Pos} {z : Str} (hz : SOk z) (hu : X.A.units + 64 < cLine) (ha : BE X M ds a (.str z)) (hb : BE X M ds b (.str z)) : BTE X M ds (.Compare a [.NotEq] [b] pos) false :=
  BT.is (tq_neS hu ha hb hz hz) (by rw [decide_eq_true rfl]; rfl)
def pairR : Rel := fun M ds P => ∃ (q q2 : Addr) (p : Proto) (n : Nat) (S : Standing), Deck M q q2 ∧ ds = [.adr q, p.d, .int n, S.d] ∧ p.Ok ∧ p.Slim ∧ 1 ≤ n ∧ n ≤ 4 ∧ S.Good p n ∧ P = fun d => d = .bl true
theorem Sh.steps {p : Proto} {n : Nat} {S : Standing} (ok : S.Ok p n) (hp : p.Ok) (hn : n ≤ 4) {L : List Step} (hL : ∀ s ∈ L, s ∈ stepsOf p n S) (l3 : L.length ≤ 300) : Sh (.lst (L.map Step.d)) 20000 :=
  (Sh.lst (n := 60) (sh_map fun s hs => Sh.step (mem_STEPS ok hp hn (hL s hs)).2)).mono (by rw [List.length_map]; omega)
theorem Sh.two {p : Proto} {n : Nat} {S : Standing} (ok : S.Ok p n) (hp : p.Ok) (hn : n ≤ 4) : Sh (.tup [S.d, S.d]) 400000 := by
  refine (Sh.tup (n := 150000) (l := [S.d, S.d]) fun d hd => ?_).mono (by simp)
  simp only [List.mem_cons, List.not_mem_nil, or_false, or_self] at hd
  rw [hd]
  exact Sh.standing ok hp hn
section
variable {P : Program} {w : World} {K : PySem.W.Frag} {mg : Str → Option Value} {base : Heap}
theorem w__law_are_pairs_free (T : Top K mg) : Fn P w K mg base 11 "_law_are_pairs_free" ["_law_deck_here", "_law_protocol", "_law_n", "_law_standing"] (pairR) := by
  obtain ⟨f, fd, hm, F⟩ := T.e101
  have S : FnScope ["_law_deck_here", "_law_protocol", "_law_n", "_law_standing", "_law_steps_here", "_law_step", "_law_turn", "_law_one", "_law_others", "_law_other", "_law_near", "_law_far", "_law_both"] ["_law_deck_here", "_law_protocol", "_law_n", "_law_standing"] (defScope s101) := ⟨rfl, rfl, rfl, by decide +kernel, rfl, by decide +kernel, by decide +kernel⟩
  refine fn_mk (k := 10) F hm S (F.bindsN (ps := ["_law_deck_here", "_law_protocol", "_law_n", "_law_standing"]) fun _ _ _ _ _ _ us hl => match us, hl with | [_, _, _, _], _ => rfl) (fun M ds P r => by obtain ⟨q, q2, p, n, S0, kd, rfl, hp, hsl, h1, hn, good, rfl⟩ := r; rfl) ?_
  rintro cdv A fr s M _ _ H0 E su ⟨q, q2, p, n, S0, kd, rfl, hp, hsl, h1, hn, good, rfl⟩ rt nx
  have nd := S.nd
  refine ST.norm (ds' := [_, _, _, _, _, _, _, _, _, _, _, _, _]) rfl ?_
  have ok := good.ok
  have few := steps_few good hp hsl hn
  have pos := steps_pos ok h1
  have sl : (srt Step.d (stepsOf p n S0)).length = (stepsOf p n S0).length := srt_len _ _
  have sm : ∀ s, s ∈ srt Step.d (stepsOf p n S0) → s ∈ stepsOf p n S0 := fun s h => srt_mem.mp h
  have sr : Sh (.lst ((srt Step.d (stepsOf p n S0)).map Step.d)) 20000 := Sh.steps ok hp hn sm (by omega)
  refine st_setL (i := 4)  (φ := Step.d) (ys := srt Step.d (stepsOf p n S0)) (f := Step.d) (keep := fun _ => true) (is := [5]) (g := _) (own := [("_law_step", 5)]) ⟨rfl, nd, blkOk_by (N := ["_law_deck_here", "_law_protocol", "_law_n", "_law_standing", "_law_steps_here", "_law_step", "_law_turn", "_law_one", "_law_others", "_law_other", "_law_near", "_law_far", "_law_both"]) (sc := defScope s101) (own := [("_law_step", 5)]) (by decide +kernel), by decide, fun y hy X' hX => by have su := hX.sur su; obtain ⟨_, _, _, _, _, rfl⟩ := hX.ex; exact bg_name (i := 5) nd, fun y hy X' hX => by have su := hX.sur su; obtain ⟨_, _, _, _, _, rfl⟩ := hX.ex; exact bts_nil, fun y hy hk X' hX => by have su := hX.sur su; obtain ⟨_, _, _, _, _, rfl⟩ := hX.ex; exact be_var 5, fun y d hy hk e => by subst e; exact Im.k⟩ (bie_tup (be_call (w_steps_from T) (su.mono (by decide)) (bae (be_var 1) (bae (be_var 2) (bae (be_var 3) ba_nil))) (⟨_, _, _, rfl, hp, h1, hn, ok, rfl⟩))) (Nat.le_trans (by omega : _ ≤ 300) (by decide)) ?_
  refine ST.norm (ds' := [_, _, _, _, _, _, _, _, _, _, _, _, _]) rfl ?_
  rw [show (srt Step.d (stepsOf p n S0)).filter (fun _ => true) = srt Step.d (stepsOf p n S0) from List.filter_eq_self.mpr fun _ _ => rfl]
  have sh : Shown (.lst ((srt Step.d (stepsOf p n S0)).map Step.d)) := shown_of sr (by decide)
  refine st_skip (tq_neR ⟨sr.tx⟩ su.u64 (be_repr su T.f_repr (be_var 4) sh) (be_repr su T.f_repr (be_call (w__law_steps T) (su.mono (by decide)) (bae (be_var 1) (bae (be_var 2) (bae (be_var 3) ba_nil))) (⟨_, _, _, rfl, hn, hp, ok, rfl⟩)) sh)) ?_
  generalize srt Step.d (stepsOf p n S0) = L at sl sm
  refine st_forP (φ := natD) (Yp := fun z => z = List.range 3) (bi_known (bie_rng1 T.f_range (be_int (i := ((3 : Nat) : Int))))) (fun _ : Unit => M.at H0) (fun ys i _ => True) () rfl (fun _ _ => trivial) (fun _ => rfl) ?_ ?_
  · rintro H1 ys i turn b rfl hy _
    have kd2 : Deck ((M.at H0).at H1) q q2 := kd.at.at
    refine ⟨_, _, (bg_name (i := 6) nd), ?_⟩
    refine ST.norm (ds' := [_, _, _, _, _, _, _, _, _, _, _, _, _]) rfl ?_
    refine st_asg (i := 7) (hN := nd) (BP.imp (P' := fun d => ∃ s : Step, s ∈ stepsOf p n S0 ∧ d = s.d) (bp_pickE T (su.mono (by decide)) kd2 (be_var 0) (be_var 4) (by first | decide | omega | (simp only [List.length_map, List.length_cons, List.length_append, List.length_nil]; omega) | (simp; omega)) (by first | decide | omega | (simp only [List.length_map, List.length_cons, List.length_append, List.length_nil]; omega) | (simp; omega))) fun d h => ?_) (fun d z => ?_)
    · obtain ⟨s, hs, e⟩ := List.mem_map.mp h
      exact ⟨s, sm s hs, e.symm⟩
    obtain ⟨s, hs, e⟩ := z
    subst e
    refine ST.norm (ds' := [_, _, _, _, _, _, _, _, _, _, _, _, _]) rfl ?_
    refine st_setL (i := 8)  (φ := Step.d) (ys := L) (f := Step.d) (keep := fun t => !decide (t.h = s.h)) (is := [5]) (g := _) (own := [("_law_step", 5)]) ⟨rfl, nd, blkOk_by (N := ["_law_deck_here", "_law_protocol", "_law_n", "_law_standing", "_law_steps_here", "_law_step", "_law_turn", "_law_one", "_law_others", "_law_other", "_law_near", "_law_far", "_law_both"]) (sc := defScope s101) (own := [("_law_step", 5)]) (by decide +kernel), by decide, fun y hy X' hX => by have su := hX.sur su; obtain ⟨_, _, _, _, _, rfl⟩ := hX.ex; exact bg_name (i := 5) nd, fun y hy X' hX => by have su := hX.sur su; obtain ⟨_, _, _, _, _, rfl⟩ := hX.ex; exact bts_one (BT.is (tq_neI su.u64 (be_ix (be_var 5) be_int (hh_at y)) (be_ix (be_var 7) be_int (hh_at s))) (nz _ _)), fun y hy hk X' hX => by have su := hX.sur su; obtain ⟨_, _, _, _, _, rfl⟩ := hX.ex; exact be_var 5, fun y d hy hk e => by subst e; exact Im.k⟩ (bie_lst (be_var 4)) (Nat.le_trans (by omega : _ ≤ 300) (by decide)) ?_
    refine ST.norm (ds' := [_, _, _, _, _, _, _, _, _, _, _, _, _]) rfl ?_
    have ql : (L.filter fun t => !decide (t.h = s.h)).length ≤ 300 := Nat.le_trans (List.length_filter_le _ _) (by omega)
    have qm : ∀ t, t ∈ L.filter (fun t => !decide (t.h = s.h)) → t ∈ stepsOf p n S0 ∧ s.h ≠ t.h := fun t h => ⟨sm t (List.mem_filter.mp h).1, fun e => by
      have := (List.mem_filter.mp h).2
      rw [e] at this
      simp at this⟩
    generalize L.filter (fun t => !decide (t.h = s.h)) = Q at ql qm ⊢
    refine st_ifE (q := (Q.map Step.d).isEmpty) (BT.is (tq_eq su.u64 (be_var 8) (be_lst ba_nil)) (eqv_nilL _)) (fun c => ?_) (fun c => ?_)
    · exact st_retE be_bl (Ret.at (rt _ rfl))
    refine st_then ?_
    have q1 : 1 ≤ (Q.map Step.d).length := by
      cases Q with
      | nil => exact absurd c (by decide)
      | cons x l => exact Nat.succ_le_succ (Nat.zero_le _)
    refine st_asg (i := 9) (hN := nd) (BP.imp (P' := fun d => ∃ t : Step, (t ∈ stepsOf p n S0 ∧ s.h ≠ t.h) ∧ d = t.d) (bp_pickE T (su.mono (by decide)) kd2 (be_var 0) (be_var 8) (by first | decide | omega | (simp only [List.length_map, List.length_cons, List.length_append, List.length_nil]; omega) | (simp; omega)) (by first | decide | omega | (simp only [List.length_map, List.length_cons, List.length_append, List.length_nil]; omega) | (simp; omega))) fun d h => ?_) (fun d z => ?_)
    · obtain ⟨t, ht, e⟩ := List.mem_map.mp h
      exact ⟨t, qm t ht, e.symm⟩
    obtain ⟨t, ⟨ht, ne⟩, e⟩ := z
    subst e
    refine ST.norm (ds' := [_, _, _, _, _, _, _, _, _, _, _, _, _]) rfl ?_
    have t1 := still hs ht ne
    have s1 := still ht hs (Ne.symm ne)
    have os := stepDone_good hp good hs
    have ot := stepDone_good hp good ht
    have sw := swap hp ok hs ht ne
    refine st_par (a2 := .Constant .none 0 ⟨0, 0, 0, 0⟩) (i := 10) (j := 11) rfl (be_call (w_behind T) (su.mono (by decide)) (bae (be_var 1) (bae (be_var 2) (bae (be_var 3) (bae (be_var 7) ba_nil)))) (⟨_, _, _, _, rfl, hp, h1, hn, ok, hs, rfl⟩)) (bp_callR (w_behind T) T.e78 (fun _ _ _ _ _ _ ws hl => match ws, hl with | [_, _, _, _], _ => rfl) (su.mono (by decide)) (bkw (be_var 9) (bkw (be_var 3) (bkw (be_var 2) (bkw (be_var 1) (bk_nil))))) ⟨_, ⟨_, _, _, _, rfl, hp, h1, hn, ok, ht, rfl⟩, rfl⟩) ?_ nd
    refine ST.norm (ds' := [_, _, _, _, _, _, _, _, _, _, _, _, _]) rfl ?_
    refine st_skip (BT.is (BW.bt (bw_or (tq_ninK (t := t) kdS.inj kdS.nb su.u64 (be_var 9) (be_call (w_steps_from T) (su.mono (by decide)) (bae (be_var 1) (bae (be_var 2) (bae (be_var 10) ba_nil))) (⟨_, _, _, rfl, hp, h1, hn, os.ok, rfl⟩))) fun _ => bw_or1 (tq_ninK (t := s) kdS.inj kdS.nb su.u64 (be_var 7) (bp_callR (w_steps_from T) T.e77 (fun _ _ _ _ _ _ ws hl => match ws, hl with | [_, _, _], _ => rfl) (su.mono (by decide)) (bkw (be_var 11) (bkw (be_var 2) (bkw (be_var 1) (bk_nil)))) ⟨_, ⟨_, _, _, rfl, hp, h1, hn, ot.ok, rfl⟩, rfl⟩)))) ?_) ?_
    · rw [decide_eq_true (srt_mem.mpr t1), decide_eq_true (srt_mem.mpr s1)]
      rfl
    refine st_set (i := 12) (hN := nd) (d := (stepDone p n (stepDone p n S0 s) t).d) (be_call (w__law_behind T) (su.mono (by decide)) (bae (be_var 1) (bae (be_var 2) (bae (be_call (w__law_behind T) (su.mono (by decide)) (bae (be_var 1) (bae (be_var 2) (bae (be_var 3) (bae (be_var 7) ba_nil)))) (⟨_, _, _, s, rfl, hp, h1, hn, ok, hs, good.room hp hsl hn hs, rfl⟩)) (bae (be_var 9) ba_nil)))) (⟨_, _, _, t, rfl, hp, h1, hn, os.ok, t1, os.room hp hsl hn t1, rfl⟩)) ?_
    refine ST.norm (ds' := [_, _, _, _, _, _, _, _, _, _, _, _, _]) rfl ?_
    have sb : Sh (.tup [(stepDone p n (stepDone p n S0 s) t).d, (stepDone p n (stepDone p n S0 s) t).d]) 400000 := Sh.two (stepDone_ok hp os.ok t1) hp hn
    have sh : Shown (.tup [(stepDone p n (stepDone p n S0 s) t).d, (stepDone p n (stepDone p n S0 s) t).d]) := shown_of sb (by decide)
    refine st_skip (tq_neR ⟨sb.tx⟩ su.u64 (be_repr su T.f_repr (be_tup (bae (be_call (w_behind T) (su.mono (by decide)) (bae (be_var 1) (bae (be_var 2) (bae (be_var 10) (bae (be_var 9) ba_nil)))) (⟨_, _, _, _, rfl, hp, h1, hn, os.ok, t1, rfl⟩)) (bae (BP.is (d' := (stepDone p n (stepDone p n S0 s) t).d) (be_call (w_behind T) (su.mono (by decide)) (bae (be_var 1) (bae (be_var 2) (bae (be_var 11) (bae (be_var 7) ba_nil)))) (⟨_, _, _, _, rfl, hp, h1, hn, ot.ok, s1, rfl⟩)) (by rw [sw])) ba_nil))) sh) (be_repr su T.f_repr (be_tup (bae (be_var 12) (bae (be_var 12) ba_nil))) sh)) ?_
    exact st_rchP (St := fun _ : Unit => M.at H0) (Pv := fun _ => True) () trivial rfl (by repeat first | exact Wk.nil | apply Wk.keep | apply Wk.drop)
  · rintro H1 ys b rfl _
    exact st_retE be_bl (Ret.at (rt _ rfl))
end
end K23


-- text S8
set_option Elab.async false
set_option linter.all false
set_option maxRecDepth 100000
set_option maxHeartbeats 2000000
namespace K23
open PySem PySem.Spec PyProof.Rows L2
section
variable {p : Proto} {n : Nat}
theorem can_STEPS (hp : p.Ok) (hn : n ≤ 4) : ∀ (r : List Step) (S : Standing), S.Ok p n → Can p n S r → ∀ t ∈ r, t ∈ STEPS ∧ t.Sm
  | [], _, _, _, t, h => by cases h
  | s :: r, S, ok, c, t, h => by
    rcases List.mem_cons.mp h with z | z
    · rw [z]
      exact mem_STEPS ok hp hn c.1
    · exact can_STEPS hp hn r _ (stepDone_ok hp ok c.1) c.2 t z
def optL : Option Letter → D
  | none => .non
  | some l => l.d
def dueB (S : Standing) : Option Letter → Bool
  | none => true
  | some l => decide (l ∈ S.sent)
theorem split2 {α : Type} {r : List α} {i : Nat} {s t : α} (hs : r[i]? = some s) (ht : r[i + 1]? = some t) : r = r.take i ++ s :: t :: r.drop (i + 2) := by
  obtain ⟨h1, e1⟩ := List.getElem?_eq_some_iff.mp hs
  obtain ⟨h2, e2⟩ := List.getElem?_eq_some_iff.mp ht
  rw [← e1, ← e2, List.getElem_cons_drop, List.getElem_cons_drop, List.take_append_drop]
theorem turned_ok (hp : p.Ok) {S0 : Standing} (ok : S0.Ok p n) {r : List Step} (h : Can p n S0 r) {i : Nat} {s t : Step} (hs : r[i]? = some s) (ht : r[i + 1]? = some t) (ne : s.h ≠ t.h) :
    (runFrom p n S0 (r.take i ++ [t, s] ++ r.drop (i + 2))).isSome = dueB (endOf p n S0 (r.take i)) (heardOf t) ∧ (dueB (endOf p n S0 (r.take i)) (heardOf t) = true → runFrom p n S0 (r.take i ++ [t, s] ++ r.drop (i + 2)) = some (endOf p n S0 r)) := by
  have e := split2 hs ht
  have h' := h
  rw [e, can_app] at h'
  obtain ⟨a, b⟩ := h'
  have okS : (endOf p n S0 (r.take i)).Ok p n := by
    have := runFrom_ok hp _ _ ok _ (run_can _ _ a)
    exact this
  obtain ⟨k1, k2⟩ := neighbours hp okS b ne
  have ea : r.take i ++ [t, s] ++ r.drop (i + 2) = r.take i ++ (t :: s :: r.drop (i + 2)) := by rw [List.append_assoc]; rfl
  have due : dueB (endOf p n S0 (r.take i)) (heardOf t) = true ↔ ∀ l, heardOf t = some l → l ∈ (endOf p n S0 (r.take i)).sent := by
    cases heardOf t with
    | none => exact ⟨fun _ l z => by (cases z), fun _ => rfl⟩
    | some l => exact ⟨fun z l' e => by cases e; exact of_decide_eq_true z, fun z => decide_eq_true (z l rfl)⟩
  rw [ea]
  by_cases c : Can p n (endOf p n S0 (r.take i)) (t :: s :: r.drop (i + 2))
  · have cc : Can p n S0 (r.take i ++ (t :: s :: r.drop (i + 2))) := (can_app _ _ _).mpr ⟨a, c⟩
    have ee : endOf p n S0 (r.take i ++ (t :: s :: r.drop (i + 2))) = endOf p n S0 r := by
      rw [end_app, k2 c]
      conv => rhs; rw [e]
      rw [end_app]
    rw [run_can _ _ cc, ee, due.mpr (k1.mp c)]
    exact ⟨rfl, fun _ => rfl⟩
  · have cc : ¬ Can p n S0 (r.take i ++ (t :: s :: r.drop (i + 2))) := fun z => c ((can_app _ _ _).mp z).2
    have nd : dueB (endOf p n S0 (r.take i)) (heardOf t) = false := by
      cases z : dueB (endOf p n S0 (r.take i)) (heardOf t) with
      | false => rfl
      | true => exact absurd (k1.mpr (due.mp z)) c
    rw [run_not _ _ cc, nd]
    exact ⟨rfl, fun z => absurd z (by decide)⟩

/-! ### the steps that come last, by places -/
theorem zip_split {α : Type} (f : α → Nat → Bool) (g : α → Bool) : ∀ (r : List α) (k : Nat), (∀ s i, k ≤ i → f s i = g s) → ((r.zipIdx k).filter fun q => f q.1 q.2).map (·.1) = r.filter g
  | [], _, _ => rfl
  | s :: r, k, h => by
    rw [List.zipIdx_cons, List.filter_cons, List.filter_cons]
    have ih := zip_split f g r (k + 1) fun s i hi => h s i (by omega)
    dsimp only
    rw [h s k (Nat.le_refl _)]
    cases g s with
    | true => simp only [if_true, List.map_cons]; rw [ih]
    | false => simp only [Bool.false_eq_true, if_false]; exact ih
theorem zip_all {α : Type} (f : α → Nat → Bool) (b : Bool) : ∀ (r : List α) (k : Nat), (∀ s i, i < k + r.length → f s i = b) → ((r.zipIdx k).filter fun q => f q.1 q.2).map (·.1) = if b = true then r else []
  | [], _, _ => by simp
  | s :: r, k, h => by
    rw [List.zipIdx_cons, List.filter_cons]
    have ih := zip_all f b r (k + 1) fun s i hi => h s i (by rw [List.length_cons]; omega)
    dsimp only
    rw [h s k (by rw [List.length_cons]; omega)]
    cases b with
    | true =>
      simp only [if_true, List.map_cons] at ih ⊢
      rw [ih]
    | false =>
      simp only [Bool.false_eq_true, if_false] at ih ⊢
      exact ih
theorem kept_eq {r : List Step} {f h : Nat} (hf : f ≤ r.length) : ((r.zipIdx.filter fun q => decide (q.2 < f) || !decide (q.1.h = h)).map (·.1)) = r.take f ++ (r.drop f).filter fun s => !decide (s.h = h) := by
  have e : r.zipIdx = (r.take f).zipIdx ++ (r.drop f).zipIdx f := by
    conv => lhs; rw [← List.take_append_drop f r]
    rw [List.zipIdx_append, List.length_take, Nat.min_eq_left hf, Nat.zero_add]
  rw [e, List.filter_append, List.map_append]
  refine congr (congrArg _ ?_) ?_
  · rw [zip_all (fun s i => decide (i < f) || !decide (s.h = h)) true (r.take f) 0 fun s i hi => by
      rw [List.length_take] at hi
      simp [show i < f by omega]]
    rfl
  · exact zip_split (fun s i => decide (i < f) || !decide (s.h = h)) (fun s => !decide (s.h = h)) (r.drop f) f fun s i hi => by simp [show ¬ i < f by omega]
theorem late_eq {r : List Step} {f h : Nat} (hf : f ≤ r.length) : ((r.zipIdx.filter fun q => decide (f ≤ q.2) && decide (q.1.h = h)).map (·.1)) = (r.drop f).filter fun s => decide (s.h = h) := by
  have e : r.zipIdx = (r.take f).zipIdx ++ (r.drop f).zipIdx f := by
    conv => lhs; rw [← List.take_append_drop f r]
    rw [List.zipIdx_append, List.length_take, Nat.min_eq_left hf, Nat.zero_add]
  rw [e, List.filter_append, List.map_append]
  rw [zip_all (fun s i => decide (f ≤ i) && decide (s.h = h)) false (r.take f) 0 fun s i hi => by
      rw [List.length_take] at hi
      simp [show ¬ f ≤ i by omega]]
  rw [zip_split (fun s i => decide (f ≤ i) && decide (s.h = h)) (fun s => decide (s.h = h)) (r.drop f) f fun s i hi => by simp [hi]]
  rfl
/-- all places of a filtered row lie below the last one's end -/
theorem below_last {α : Type} {r : List α} {k : α × Nat → Bool} {i : Nat} {s : α} (hs : r[i]? = some s) (hk : k (s, i) = true) : ∃ j, ((r.zipIdx.filter k).map (·.2)).getLast? = some j ∧ i ≤ j ∧ j < r.length := by
  have hm : i ∈ (r.zipIdx.filter k).map (·.2) := List.mem_map.mpr ⟨(s, i), List.mem_filter.mpr ⟨List.mem_zipIdx_iff_getElem?.mpr hs, hk⟩, rfl⟩
  have sorted : ((r.zipIdx.filter k).map (·.2)).Pairwise (· < ·) := by
    have h1 : (r.zipIdx.map (·.2)).Pairwise (· < ·) := by
      rw [List.zipIdx_map_snd]
      exact List.pairwise_lt_range'
    exact List.Pairwise.sublist (List.Sublist.map _ List.filter_sublist) h1
  have bound : ∀ j ∈ (r.zipIdx.filter k).map (·.2), j < r.length := fun j hj => by
    obtain ⟨q, hq, rfl⟩ := List.mem_map.mp hj
    exact (List.getElem?_eq_some_iff.mp (List.mem_zipIdx_iff_getElem?.mp (List.mem_filter.mp hq).1)).1
  generalize (r.zipIdx.filter k).map (·.2) = L at hm sorted bound
  have ne : L ≠ [] := fun e => by rw [e] at hm; cases hm
  refine ⟨L.getLast ne, List.getLast?_eq_some_getLast ne, ?_, bound _ (List.getLast_mem ne)⟩
  rw [← List.dropLast_concat_getLast ne] at hm sorted
  rcases List.mem_append.mp hm with z | z
  · exact Nat.le_of_lt ((List.pairwise_append.mp sorted).2.2 i z _ (List.mem_singleton.mpr rfl))
  · exact Nat.le_of_eq (List.mem_singleton.mp z)
end
end K23

-- text D11
set_option Elab.async false
set_option linter.all false
set_option maxRecDepth 100000
set_option maxHeartbeats 2000000
namespace K23
open PySem PySem.Spec PyProof.Rows L2
section
variable {X : Cx} {M : Md} {ds : List (Option D)} {a b tg : Expr} {pos p : Pos} {z : Str}
theorem be_eqR (hz : SOk z) (hu : X.A.units + 64 < cLine) (ha : BE X M ds a (.str z)) (hb : BE X M ds b (.str z)) : BE X M ds (.Compare a [.Eq] [b] pos) (.bl true) :=
  BP.is (be_eq hu ha hb hz.ok hz.ok (Nat.zero_le _)) (by
    have e : D.eqv (.str z) (.str z) = decide (z = z) := eqv_str z z
    rw [e, decide_eq_true rfl])
theorem bie_rngI {i : Int} (hm : X.mg "range" = none) (ha : BE X M ds a (.int i)) (hn : i < 1000 ∧ -1000 < i) (hg : Gl X "range" := by rfl) (he : starEach [a] X.env = (false, eval a X.env) :: starEach [] X.env := by rfl) (hs : starEach [a] X.env = [(false, eval a X.env)] := by rfl) :
    BIE X M ds tg (.Call (.Name "range" p) [a] [] pos) ((List.range i.toNat).map natD) :=
  (bi_range1 (N := fun j => j = i) hm (ha.imp fun d e => ⟨i, e, rfl⟩) (fun j e => by omega) hg he hs).imp fun z ⟨j, e, h⟩ => by
    rw [h, e, show (0 : Int) = ((0 : Nat) : Int) from rfl, rngD_nat, List.range_eq_range']
end
theorem Sh.bls (b c : Bool) : Sh (.tup [.bl b, .bl c]) 100 := by
  refine (Sh.tup (n := 5) (l := [.bl b, .bl c]) fun d hd => ?_).mono (by simp)
  simp only [List.mem_cons, List.not_mem_nil, or_false] at hd
  rcases hd with z | z <;> rw [z] <;> exact Sh.bl _
def hAt (r : List Step) (i : Nat) : Nat := ((r[i]?).map Step.h).getD 0
theorem hAt_of {r : List Step} {i : Nat} {s : Step} (h : r[i]? = some s) : hAt r i = s.h := by
  unfold hAt
  rw [h]
  rfl
def neighR : Rel := fun M ds P => ∃ (q q2 : Addr) (p : Proto) (n : Nat) (r : List Step), Deck M q q2 ∧ ds = [.adr q, p.d, .int n, .tup (r.map Step.d), .lst ((trail p n (firstOf p n) r).map Standing.d)] ∧ p.Ok ∧ p.Slim ∧ 1 ≤ n ∧ n ≤ 4 ∧ r.length ≤ 100 ∧ Can p n (firstOf p n) r ∧ P = fun d => d = .bl true
section
variable {P : Program} {w : World} {K : PySem.W.Frag} {mg : Str → Option Value} {base : Heap}
theorem w__law_are_neighbours_free (T : Top K mg) : Fn P w K mg base 10 "_law_are_neighbours_free" ["_law_deck_here", "_law_protocol", "_law_n", "_law_row", "_law_some"] (neighR) := by
  obtain ⟨f, fd, hm, F⟩ := T.e102
  have S : FnScope ["_law_deck_here", "_law_protocol", "_law_n", "_law_row", "_law_some", "_law_spots", "_law_at", "_law_one", "_law_other", "_law_turned", "_law_heard", "_law_due"] ["_law_deck_here", "_law_protocol", "_law_n", "_law_row", "_law_some"] (defScope s102) := ⟨rfl, rfl, rfl, by decide +kernel, rfl, by decide +kernel, by decide +kernel⟩
  refine fn_mk (k := 9) F hm S (F.bindsN (ps := ["_law_deck_here", "_law_protocol", "_law_n", "_law_row", "_law_some"]) fun _ _ _ _ _ _ us hl => match us, hl with | [_, _, _, _, _], _ => rfl) (fun M ds P r => by obtain ⟨q, q2, p, n, r, kd, rfl, hp, hsl, h1, hn, hr, hc, rfl⟩ := r; rfl) ?_
  rintro cdv A fr s M _ _ H0 E su ⟨q, q2, p, n, r, kd, rfl, hp, hsl, h1, hn, hr, hc, rfl⟩ rt nx
  have nd := S.nd
  refine ST.norm (ds' := [_, _, _, _, _, _, _, _, _, _, _, _]) rfl ?_
  have big : 1000 ≤ sizeLine := by decide
  have st2 : ∀ y, y ∈ List.range (((r.map Step.d).length : Int) - 1).toNat → ∃ s t, r[y]? = some s ∧ r[y + 1]? = some t := fun y hy => by
    rw [List.mem_range, List.length_map] at hy
    exact ⟨r[y]'(by omega), r[y + 1]'(by omega), List.getElem?_eq_getElem _, List.getElem?_eq_getElem _⟩
  refine st_setL (i := 5)  (φ := natD) (ys := List.range (((r.map Step.d).length : Int) - 1).toNat) (f := natD) (keep := fun i => !decide (hAt r i = hAt r (i + 1))) (is := [6]) (g := _) (own := [("_law_at", 6)]) ⟨rfl, nd, blkOk_by (N := ["_law_deck_here", "_law_protocol", "_law_n", "_law_row", "_law_some", "_law_spots", "_law_at", "_law_one", "_law_other", "_law_turned", "_law_heard", "_law_due"]) (sc := defScope s102) (own := [("_law_at", 6)]) (by decide +kernel), by decide, fun y hy X' hX => by obtain ⟨s, t, hs, ht⟩ := st2 y hy;have su := hX.sur su; obtain ⟨_, _, _, _, _, rfl⟩ := hX.ex; exact bg_name (i := 6) nd, fun y hy X' hX => by obtain ⟨s, t, hs, ht⟩ := st2 y hy;have su := hX.sur su; obtain ⟨_, _, _, _, _, rfl⟩ := hX.ex; exact bts_one (BT.is (tq_neI su.u64 (be_ix (be_ix (be_var 3) (be_var 6) (at_map (f := Step.d) hs)) be_int (hh_at s)) (be_ix (be_ix (be_var 3) (be_add (be_var 6) be_int) (at_map (f := Step.d) ht)) be_int (hh_at t))) (by rw [nz, hAt_of hs, hAt_of ht])), fun y hy hk X' hX => by obtain ⟨s, t, hs, ht⟩ := st2 y hy;have su := hX.sur su; obtain ⟨_, _, _, _, _, rfl⟩ := hX.ex; exact be_var 6, fun y d hy hk e => by subst e; exact Im.k⟩ (bie_rngI T.f_range (be_sub (be_len T.f_len (be_var 3)) be_int) (by rw [List.length_map]; omega)) (by rw [List.length_range, List.length_map]; omega) ?_
  refine ST.norm (ds' := [_, _, _, _, _, _, _, _, _, _, _, _]) rfl ?_
  have ql : ((List.range (((r.map Step.d).length : Int) - 1).toNat).filter fun i => !decide (hAt r i = hAt r (i + 1))).length ≤ 100 := Nat.le_trans (List.length_filter_le _ _) (by rw [List.length_range, List.length_map]; omega)
  have qm : ∀ i, i ∈ (List.range (((r.map Step.d).length : Int) - 1).toNat).filter (fun i => !decide (hAt r i = hAt r (i + 1))) → ∃ s t, r[i]? = some s ∧ r[i + 1]? = some t ∧ s.h ≠ t.h := fun i hi => by
    obtain ⟨z1, z2⟩ := List.mem_filter.mp hi
    obtain ⟨s, t, hs, ht⟩ := st2 i z1
    rw [hAt_of hs, hAt_of ht] at z2
    exact ⟨s, t, hs, ht, by simpa using z2⟩
  generalize (List.range (((r.map Step.d).length : Int) - 1).toNat).filter (fun i => !decide (hAt r i = hAt r (i + 1))) = Q at ql qm ⊢
  refine st_ifE (q := (Q.map natD).isEmpty) (BT.is (tq_eq su.u64 (be_var 5) (be_lst ba_nil)) (eqv_nilL _)) (fun c => ?_) (fun c => ?_)
  · exact st_retE be_bl (rt _ rfl)
  refine st_then ?_
  have q1 : 1 ≤ (Q.map natD).length := by
    cases Q with
    | nil => exact absurd c (by decide)
    | cons x l => exact Nat.succ_le_succ (Nat.zero_le _)
  refine st_asg (i := 6) (hN := nd) (BP.imp (P' := fun d => ∃ i : Nat, (∃ s t, r[i]? = some s ∧ r[i + 1]? = some t ∧ s.h ≠ t.h) ∧ d = .int i) (bp_pickE T (su.mono (by decide)) kd.at (be_var 0) (be_var 5) (by first | decide | omega | (simp only [List.length_map, List.length_cons, List.length_append, List.length_nil]; omega) | (simp; omega)) (by first | decide | omega | (simp only [List.length_map, List.length_cons, List.length_append, List.length_nil]; omega) | (simp; omega))) fun d h => ?_) (fun d z => ?_)
  · obtain ⟨i, hi, e⟩ := List.mem_map.mp h
    exact ⟨i, qm i hi, e.symm⟩
  obtain ⟨i, ⟨s, t, hs, ht, ne⟩, e⟩ := z
  subst e
  refine ST.norm (ds' := [_, _, _, _, _, _, _, _, _, _, _, _]) rfl ?_
  have li := (List.getElem?_eq_some_iff.mp ht).1
  refine st_par (a2 := .Constant .none 0 ⟨0, 0, 0, 0⟩) (i := 7) (j := 8) rfl (be_ix (be_var 3) (be_var 6) (at_map (f := Step.d) hs)) (be_ix (be_var 3) (be_add (be_var 6) be_int) (at_map (f := Step.d) ht)) ?_ nd
  refine ST.norm (ds' := [_, _, _, _, _, _, _, _, _, _, _, _]) rfl ?_
  have t1 : (r.take i).length ≤ 100 := Nat.le_trans (List.length_take_le _ _) (by omega)
  have t2 : (r.drop (i + 2)).length ≤ 100 := by rw [List.length_drop]; omega
  refine st_set (i := 9) (hN := nd) (d := .tup ((r.take i ++ [t, s] ++ r.drop (i + 2)).map Step.d)) (BP.is (be_catT (be_catT (BP.is (d' := .tup ((r.take i).map Step.d)) (be_slT (be_var 3) bo_none (bo_some (be_var 6))) (by rw [cutD_lo, List.map_take])) (be_tup (bae (be_var 8) (bae (be_var 7) ba_nil))) (by rw [List.length_map]; show _ + 2 ≤ sizeLine; omega)) (BP.is (d' := .tup ((r.drop (i + 2)).map Step.d)) (be_slT (be_var 3) (bo_some (BP.is (d' := .int ((i + 2 : Nat) : Int)) (be_add (be_var 6) be_int) rfl)) bo_none) (by rw [cutD_hi, List.map_drop])) (by rw [List.length_append, List.length_map, List.length_map]; show _ + 2 + _ ≤ sizeLine; omega)) (by rw [List.map_append, List.map_append]; rfl)) ?_
  refine ST.norm (ds' := [_, _, _, _, _, _, _, _, _, _, _, _]) rfl ?_
  have steps := can_STEPS hp hn r _ (firstOf_ok hp n) hc
  have tm : ∀ x ∈ r.take i ++ [t, s] ++ r.drop (i + 2), x ∈ STEPS ∧ x.Sm := fun x hx => by
    simp only [List.mem_append, List.mem_cons, List.not_mem_nil, or_false] at hx
    rcases hx with (z | z | z) | z
    · exact steps x (List.mem_of_mem_take z)
    · rw [z]; exact steps t (List.mem_of_getElem? ht)
    · rw [z]; exact steps s (List.mem_of_getElem? hs)
    · exact steps x (List.mem_of_mem_drop z)
  obtain ⟨u1, u2⟩ := turned_ok hp (firstOf_ok hp n) hc hs ht ne
  generalize r.take i ++ [t, s] ++ r.drop (i + 2) = tr at tm u1 u2 ⊢
  refine st_set (i := 10) (hN := nd) (d := optL (heardOf t)) (by
    cases t with
    | hear h g k =>
      exact (be_ifT (BT.is (tq_eqS su.u64 (be_ix (be_var 8) be_int) be_str) (by decide +kernel)) (be_tup (bae (be_ix (be_var 8) be_int) (bae (be_ix (be_var 8) be_int) (bae (be_ix (be_var 8) be_int) ba_nil)))))
    | _ =>
      exact (be_ifF (BT.is (tq_eqS su.u64 (be_ix (be_var 8) be_int) be_str) (by decide +kernel)) be_non)) ?_
  have at1 := trail_at (p := p) (n := n) r i (firstOf p n) (by omega)
  refine st_set (i := 11) (hN := nd) (d := .bl (dueB (endOf p n (firstOf p n) (r.take i)) (heardOf t))) (by
    generalize heardOf t = o
    cases o with
    | none => exact BP.is (be_or (c := true) (d := false) (BP.is (d := .bl (D.isNon .non)) (be_isN (be_var 10) be_non) rfl) (fun h => nomatch h)) rfl
    | some l => exact BP.is (be_or (be_isN (be_var 10) be_non) fun _ => be_one (bq_inK (t := l) kdL.inj kdL.nb su.u64 (be_var 10) (be_ix (be_ixL (be_var 4) (be_var 6) (at_map (f := Standing.d) at1)) be_int))) rfl) ?_
  generalize dueB (endOf p n (firstOf p n) (r.take i)) (heardOf t) = due at u1 u2 ⊢
  have sb := Sh.bls due due
  refine st_skip (tq_neR ⟨sb.tx⟩ su.u64 (BP.is (d' := .str (D.tup [.bl due, .bl due]).py.shown) (be_repr su T.f_repr (BP.is (d' := .tup [.bl due, .bl due]) (be_tup (bae (be_call (w_is_row_standings T) (su.mono (by decide)) (bae (be_var 1) (bae (be_var 2) (bae (be_var 9) ba_nil))) ⟨_, _, tr, rfl, h1, hn, hp, tm, rfl⟩) (bae (be_call (w__law_is_row T) (su.mono (by decide)) (bae (be_var 1) (bae (be_var 2) (bae (be_var 9) ba_nil))) (⟨_, _, tr, rfl, h1, hn, hp, hsl, tm, rfl⟩)) ba_nil))) (by rw [u1])) (shown_of sb (by decide))) rfl) (be_repr su T.f_repr (be_tup (bae (be_var 11) (bae (be_var 11) ba_nil))) (shown_of sb (by decide)))) ?_
  cases due with
  | false => exact st_retE (BP.is (be_or (c := true) (d := false) (BP.is (d := .bl (!false)) (be_not (be_var 11)) rfl) (fun h => nomatch h)) rfl) (rt _ rfl)
  | true =>
    have run := u2 rfl
    have okE := (can_good hp r _ (firstOf_good hp n) hc).ok
    have se := Sh.standing okE hp hn
    have sh : Shown (endOf p n (firstOf p n) r).d := shown_of se (by decide)
    exact st_retE (BP.is (be_or (c := false) (d := true) (BP.is (d := .bl (!true)) (be_not (be_var 11)) rfl) (fun _ => be_one (be_eqR ⟨se.tx⟩ su.u64 (be_repr su T.f_repr (bp_callR (w_standing_behind T) T.e81 (fun _ _ _ _ _ _ ws hl => match ws, hl with | [_, _, _], _ => rfl) (su.mono (by decide)) (bkw (be_var 9) (bkw (be_var 2) (bkw (be_var 1) (bk_nil)))) ⟨_, ⟨_, _, _, _, rfl, h1, hn, hp, tm, run, rfl⟩, rfl⟩) sh) (be_repr su T.f_repr (be_ixL (be_var 4) (be_neg be_int) (at_last (f := Standing.d) (trail_last r _))) sh)))) rfl) (rt _ rfl)
end
end K23


-- text D12
set_option Elab.async false
set_option linter.all false
set_option maxRecDepth 100000
set_option maxHeartbeats 2000000
namespace K23
open PySem PySem.Spec PyProof.Rows L2
theorem map_same {α : Type} {f : α → D} (inj : ∀ a b, f a = f b → a = b) : ∀ {l m : List α}, l.map f = m.map f → l = m
  | [], [], _ => rfl
  | [], _ :: _, h => by cases h
  | _ :: _, [], h => by cases h
  | x :: l, y :: m, h => by
    rw [List.map_cons, List.map_cons] at h
    have h1 := List.cons.inj h
    rw [inj x y h1.1, map_same inj h1.2]
theorem eqv_lets (a b : List Letter) : D.eqv (.tup (a.map Letter.d)) (.tup (b.map Letter.d)) = decide (a = b) := by
  have e := eqv_nb (.tup (a.map Letter.d)) (.tup (b.map Letter.d)) (nbs_map a fun x _ => kdL.nb x) (nbs_map b fun x _ => kdL.nb x)
  refine Bool.eq_iff_iff.mpr (e.trans ?_)
  rw [decide_eq_true_iff]
  exact ⟨fun h => map_same kdL.inj (D.tup.inj h), fun h => by rw [h]⟩
theorem gez (a b : Nat) : decide ((a : Int) ≤ (b : Int)) = decide (a ≤ b) := decide_eq_decide.mpr Int.ofNat_le
section
variable {X : Cx} {M : Md} {ds : List (Option D)} {a b : Expr} {pos : Pos}
theorem be_isB {c d : Bool} (ha : BE X M ds a (.bl c)) (hb : BE X M ds b (.bl d)) : BE X M ds (.Compare a [.Is] [b] pos) (.bl (decide (c = d))) :=
  be_cmp op_isBl (nomark _) ha hb (Op2.pure fun v u H Q i1 i2 k => by
    cases i1; cases i2
    exact ⟨c, d, rfl, rfl, k _ _ rfl (.bl _)⟩)
end
def lastD : Option Nat → Nat
  | none => 0
  | some j => j + 1
def sentAt (p : Proto) (n : Nat) (r : List Step) (i : Nat) : List Letter := (endOf p n (firstOf p n) (r.take i)).sent
/-- where the steps of h that bring something are -/
def sendsAt (p : Proto) (n h : Nat) (r : List Step) : List Nat := (r.zipIdx.filter fun q => decide (q.1.h = h) && !decide (sentAt p n r (q.2 + 1) = sentAt p n r q.2)).map (·.2)
theorem last_le (p : Proto) (n h : Nat) (r : List Step) : lastD (sendsAt p n h r).getLast? ≤ r.length := by
  cases e : (sendsAt p n h r).getLast? with
  | none => exact Nat.zero_le _
  | some j =>
    have hm := List.mem_of_getLast? e
    obtain ⟨q, hq, rfl⟩ := List.mem_map.mp hm
    exact (List.getElem?_eq_some_iff.mp (List.mem_zipIdx_iff_getElem?.mp (List.mem_filter.mp hq).1)).1
theorem last_row {p : Proto} {n h : Nat} {r : List Step} (hp : p.Ok) (hc : Can p n (firstOf p n) r) :
    runFrom p n (firstOf p n) (((r.zipIdx.filter fun q => decide (q.2 < lastD (sendsAt p n h r).getLast?) || !decide (q.1.h = h)).map (·.1)) ++ ((r.zipIdx.filter fun q => decide (lastD (sendsAt p n h r).getLast? ≤ q.2) && decide (q.1.h = h)).map (·.1))) = some (endOf p n (firstOf p n) r) := by
  have fl := last_le p n h r
  have quiet : ∀ (i : Nat) (s : Step), lastD (sendsAt p n h r).getLast? ≤ i → r[i]? = some s → s.h = h → sentAt p n r (i + 1) = sentAt p n r i := fun i s hi hs e => by
    by_cases c : sentAt p n r (i + 1) = sentAt p n r i
    · exact c
    · obtain ⟨j, h1, h2, _⟩ := below_last (k := fun q => decide (q.1.h = h) && !decide (sentAt p n r (q.2 + 1) = sentAt p n r q.2)) hs (by simp [e, c])
      have h3 : (sendsAt p n h r).getLast? = some j := h1
      rw [h3] at hi
      have : j + 1 ≤ i := hi
      omega
  generalize lastD (sendsAt p n h r).getLast? = f at fl quiet
  rw [kept_eq fl, late_eq fl]
  have e0 : r = r.take f ++ r.drop f := (List.take_append_drop f r).symm
  have hc2 := hc
  rw [e0, can_app] at hc2
  obtain ⟨a, b⟩ := hc2
  have okS : (endOf p n (firstOf p n) (r.take f)).Ok p n := runFrom_ok hp _ _ (firstOf_ok hp n) _ (run_can _ _ a)
  obtain ⟨k1, k2⟩ := last hp h (r.drop f) _ okS b fun i s hs e => by
    rw [List.getElem?_drop] at hs
    have q := quiet (f + i) s (Nat.le_add_right _ _) hs e
    unfold sentAt at q
    have t1 : ∀ j, endOf p n (firstOf p n) (r.take (f + j)) = endOf p n (endOf p n (firstOf p n) (r.take f)) ((r.drop f).take j) := fun j => by
      rw [← end_app, List.take_add]
    rw [← t1, ← t1]
    exact q
  rw [List.append_assoc]
  have cc := (can_app (p := p) (n := n) (r.take f) _ (firstOf p n)).mpr ⟨a, k1⟩
  rw [run_can _ _ cc, end_app, k2, ← end_app, List.take_append_drop]
section
variable {P : Program} {w : World} {K : PySem.W.Frag} {mg : Str → Option Value} {base : Heap}
theorem w__law_is_last (T : Top K mg) : Fn P w K mg base 10 "_law_is_last" ["_law_protocol", "_law_n", "_law_row", "_law_some", "_law_h"] (fun1 fun ds d => ∃ (p : Proto) (n h : Nat) (r : List Step), ds = [p.d, .int n, .tup (r.map Step.d), .lst ((trail p n (firstOf p n) r).map Standing.d), .int h] ∧ p.Ok ∧ p.Slim ∧ 1 ≤ n ∧ n ≤ 4 ∧ r.length ≤ 100 ∧ Can p n (firstOf p n) r ∧ d = .bl true) := by
  obtain ⟨f, fd, hm, F⟩ := T.e103
  have S : FnScope ["_law_protocol", "_law_n", "_law_row", "_law_some", "_law_h", "_law_sends", "_law_at", "_law_step", "_law_first_here", "_law_kept", "_law_late", "_law_turned"] ["_law_protocol", "_law_n", "_law_row", "_law_some", "_law_h"] (defScope s103) := ⟨rfl, rfl, rfl, by decide +kernel, rfl, by decide +kernel, by decide +kernel⟩
  refine fn_mk (k := 9) F hm S (F.bindsN (ps := ["_law_protocol", "_law_n", "_law_row", "_law_some", "_law_h"]) fun _ _ _ _ _ _ us hl => match us, hl with | [_, _, _, _, _], _ => rfl) (fun M ds P r => by obtain ⟨_, ⟨p, n, h, r, rfl, hp, hsl, h1, hn, hr, hc, rfl⟩, rfl⟩ := r; rfl) ?_
  rintro cdv A fr s M _ _ H0 E su ⟨_, ⟨p, n, h, r, rfl, hp, hsl, h1, hn, hr, hc, rfl⟩, rfl⟩ rt nx
  have nd := S.nd
  refine ST.norm (ds' := [_, _, _, _, _, _, _, _, _, _, _, _]) rfl ?_
  have big : 1000 ≤ sizeLine := by decide
  have zl : r.zipIdx.length ≤ 100 := by rw [List.length_zipIdx]; exact hr
  have tr : ∀ y : Step × Nat, y ∈ r.zipIdx → (trail p n (firstOf p n) r)[y.2 + 1]? = some (endOf p n (firstOf p n) (r.take (y.2 + 1))) ∧ (trail p n (firstOf p n) r)[y.2]? = some (endOf p n (firstOf p n) (r.take y.2)) := fun y hy => by
    have hl := (List.getElem?_eq_some_iff.mp (List.mem_zipIdx_iff_getElem?.mp hy)).1
    exact ⟨trail_at r _ _ (by omega), trail_at r _ _ (by omega)⟩
  refine st_setL (i := 5)  (φ := fun y : Step × Nat => .tup [.int y.2, y.1.d]) (ys := r.zipIdx) (f := fun q => .int q.2) (keep := fun q => decide (q.1.h = h) && !decide (sentAt p n r (q.2 + 1) = sentAt p n r q.2)) (is := [6, 7]) (g := _) (own := [("_law_at", 6), ("_law_step", 7)]) ⟨rfl, nd, blkOk_by (N := ["_law_protocol", "_law_n", "_law_row", "_law_some", "_law_h", "_law_sends", "_law_at", "_law_step", "_law_first_here", "_law_kept", "_law_late", "_law_turned"]) (sc := defScope s103) (own := [("_law_at", 6), ("_law_step", 7)]) (by decide +kernel), by decide, fun y hy X' hX => by obtain ⟨ha, hb⟩ := tr y hy;have su := hX.sur su; obtain ⟨_, _, _, _, _, rfl⟩ := hX.ex; exact bg_tup rfl (bgs_cons (bg_name (i := 6) nd) (bgs_cons (bg_name (i := 7) nd) (bgs_nil))) 2, fun y hy X' hX => by obtain ⟨ha, hb⟩ := tr y hy;have su := hX.sur su; obtain ⟨_, _, _, _, _, rfl⟩ := hX.ex; exact bts_one (BT.is (BW.bt (bw_and (tq_eqI su.u64 (be_ix (be_var 7) be_int (hh_at y.1)) (be_var 4)) fun _ => bw_and1 (tq_ne su.u64 (be_ix (be_ixL (be_var 3) (be_add (be_var 6) be_int) (at_map (f := Standing.d) ha)) be_int) (be_ix (be_ixL (be_var 3) (be_var 6) (at_map (f := Standing.d) hb)) be_int)))) (by rw [ez, eqv_lets]; rfl)), fun y hy hk X' hX => by obtain ⟨ha, hb⟩ := tr y hy;have su := hX.sur su; obtain ⟨_, _, _, _, _, rfl⟩ := hX.ex; exact be_var 6, fun y d hy hk e => by subst e; exact Im.k⟩ (bie_enum T.f_enumerate (be_var 2)) (by omega) ?_
  refine ST.norm (ds' := [_, _, _, _, _, _, _, _, _, _, _, _]) rfl ?_
  rw [show (r.zipIdx.filter fun q => decide (q.1.h = h) && !decide (sentAt p n r (q.2 + 1) = sentAt p n r q.2)).map (fun q => D.int q.2) = (sendsAt p n h r).map natD by unfold sendsAt; rw [List.map_map]; rfl]
  have key := last_row (h := h) hp hc
  generalize sendsAt p n h r = S at key ⊢
  refine st_set (i := 8) (hN := nd) (d := .int ((lastD S.getLast? : Nat) : Int)) (by
    rcases List.eq_nil_or_concat S with e | ⟨l, j, e⟩
    · rw [e]
      exact (be_ifF (BT.is (tq_ne su.u64 (be_var 5) (be_lst ba_nil)) rfl) be_int)
    · have gl : S.getLast? = some j := by rw [e, List.concat_eq_append, List.getLast?_append]; rfl
      rw [gl]
      exact BP.is (be_ifT (BT.is (tq_ne su.u64 (be_var 5) (be_lst ba_nil)) (by rw [eqv_nilL]; cases S; cases gl; rfl)) (be_add (be_ixL (be_var 5) (be_neg be_int) (at_last (f := natD) gl)) be_int)) rfl) ?_
  generalize lastD S.getLast? = F at key ⊢
  refine st_setL (i := 9)  (φ := fun y : Step × Nat => .tup [.int y.2, y.1.d]) (ys := r.zipIdx) (f := fun q => q.1.d) (keep := fun q => decide (q.2 < F) || !decide (q.1.h = h)) (is := [6, 7]) (g := _) (own := [("_law_at", 6), ("_law_step", 7)]) ⟨rfl, nd, blkOk_by (N := ["_law_protocol", "_law_n", "_law_row", "_law_some", "_law_h", "_law_sends", "_law_at", "_law_step", "_law_first_here", "_law_kept", "_law_late", "_law_turned"]) (sc := defScope s103) (own := [("_law_at", 6), ("_law_step", 7)]) (by decide +kernel), by decide, fun y hy X' hX => by have su := hX.sur su; obtain ⟨_, _, _, _, _, rfl⟩ := hX.ex; exact bg_tup rfl (bgs_cons (bg_name (i := 6) nd) (bgs_cons (bg_name (i := 7) nd) (bgs_nil))) 2, fun y hy X' hX => by have su := hX.sur su; obtain ⟨_, _, _, _, _, rfl⟩ := hX.ex; exact bts_one (BT.is (BW.bt (bw_or (bt_lt (be_var 6) (be_var 8)) fun _ => bw_or1 (tq_neI su.u64 (be_ix (be_var 7) be_int (hh_at y.1)) (be_var 4)))) (by rw [lz, nz])), fun y hy hk X' hX => by have su := hX.sur su; obtain ⟨_, _, _, _, _, rfl⟩ := hX.ex; exact be_var 7, fun y d hy hk e => by subst e; exact Im.k⟩ (bie_enum T.f_enumerate (be_var 2)) (by omega) ?_
  refine ST.norm (ds' := [_, _, _, _, _, _, _, _, _, _, _, _]) rfl ?_
  refine st_setL (i := 10)  (φ := fun y : Step × Nat => .tup [.int y.2, y.1.d]) (ys := r.zipIdx) (f := fun q => q.1.d) (keep := fun q => decide (F ≤ q.2) && decide (q.1.h = h)) (is := [6, 7]) (g := _) (own := [("_law_at", 6), ("_law_step", 7)]) ⟨rfl, nd, blkOk_by (N := ["_law_protocol", "_law_n", "_law_row", "_law_some", "_law_h", "_law_sends", "_law_at", "_law_step", "_law_first_here", "_law_kept", "_law_late", "_law_turned"]) (sc := defScope s103) (own := [("_law_at", 6), ("_law_step", 7)]) (by decide +kernel), by decide, fun y hy X' hX => by have su := hX.sur su; obtain ⟨_, _, _, _, _, rfl⟩ := hX.ex; exact bg_tup rfl (bgs_cons (bg_name (i := 6) nd) (bgs_cons (bg_name (i := 7) nd) (bgs_nil))) 2, fun y hy X' hX => by have su := hX.sur su; obtain ⟨_, _, _, _, _, rfl⟩ := hX.ex; exact bts_one (BT.is (BW.bt (bw_and (bt_ge (be_var 6) (be_var 8)) fun _ => bw_and1 (tq_eqI su.u64 (be_ix (be_var 7) be_int (hh_at y.1)) (be_var 4)))) (by rw [gez, ez])), fun y hy hk X' hX => by have su := hX.sur su; obtain ⟨_, _, _, _, _, rfl⟩ := hX.ex; exact be_var 7, fun y d hy hk e => by subst e; exact Im.k⟩ (bie_enum T.f_enumerate (be_var 2)) (by omega) ?_
  refine ST.norm (ds' := [_, _, _, _, _, _, _, _, _, _, _, _]) rfl ?_
  have steps := can_STEPS hp hn r _ (firstOf_ok hp n) hc
  have mk : ∀ (k : Step × Nat → Bool) (x : Step), x ∈ (r.zipIdx.filter k).map (·.1) → x ∈ STEPS ∧ x.Sm := fun k x hx => by
    obtain ⟨y, hy, e⟩ := List.mem_map.mp hx
    rw [← e]
    exact steps y.1 (List.fst_mem_of_mem_zipIdx (List.mem_filter.mp hy).1)
  have lk : ∀ k : Step × Nat → Bool, (r.zipIdx.filter k).length ≤ 100 := fun k => Nat.le_trans (List.length_filter_le _ _) zl
  have m1 := mk (fun q => decide (q.2 < F) || !decide (q.1.h = h))
  have m2 := mk (fun q => decide (F ≤ q.2) && decide (q.1.h = h))
  have l1 := lk (fun q => decide (q.2 < F) || !decide (q.1.h = h))
  have l2 := lk (fun q => decide (F ≤ q.2) && decide (q.1.h = h))
  generalize r.zipIdx.filter (fun q => decide (q.2 < F) || !decide (q.1.h = h)) = A1 at key m1 l1 ⊢
  generalize r.zipIdx.filter (fun q => decide (F ≤ q.2) && decide (q.1.h = h)) = A2 at key m2 l2 ⊢
  refine st_set (i := 11) (hN := nd) (d := .tup ((A1.map (·.1) ++ A2.map (·.1)).map Step.d)) (BP.is (be_tupleOf T.f_tuple (be_catL (be_var 9) (be_var 10) (by rw [List.length_map, List.length_map]; omega))) (by rw [List.map_append, List.map_map, List.map_map]; rfl)) ?_
  refine ST.norm (ds' := [_, _, _, _, _, _, _, _, _, _, _, _]) rfl ?_
  have tm : ∀ x ∈ A1.map (·.1) ++ A2.map (·.1), x ∈ STEPS ∧ x.Sm := fun x hx => (List.mem_append.mp hx).elim (m1 x) (m2 x)
  generalize A1.map (·.1) ++ A2.map (·.1) = tr2 at key tm ⊢
  have okE := (can_good hp r _ (firstOf_good hp n) hc).ok
  have se := Sh.standing okE hp hn
  have sh : Shown (endOf p n (firstOf p n) r).d := shown_of se (by decide)
  exact st_retE (BP.is (be_and (c := true) (d := true) (BP.is (be_isB (be_call (w_is_row_standings T) (su.mono (by decide)) (bae (be_var 0) (bae (be_var 1) (bae (be_var 11) ba_nil))) ⟨_, _, tr2, rfl, h1, hn, hp, tm, rfl⟩) be_bl) (by rw [key]; rfl)) (fun _ => be_one (be_eqR ⟨se.tx⟩ su.u64 (be_repr su T.f_repr (be_call (w_standing_behind T) (su.mono (by decide)) (bae (be_var 0) (bae (be_var 1) (bae (be_var 11) ba_nil))) (⟨_, _, _, _, rfl, h1, hn, hp, tm, key, rfl⟩)) sh) (be_repr su T.f_repr (be_ixL (be_var 3) (be_neg be_int) (at_last (f := Standing.d) (trail_last r _))) sh)))) rfl) (rt _ rfl)
end
end K23


-- text A38
set_option Elab.async false
set_option linter.all false
set_option maxRecDepth 100000
set_option maxHeartbeats 2000000
namespace K23
open PySem PySem.Spec PyProof.Rows L2

/-! ## 46. the law's own call, nothing being shown -/
/-- the script alone may be tracked, as an object that is known -/
def Lone (H : Hp) (a : Addr) : Prop := ∀ b, H b = none ∨ (b = a ∧ ∃ o ys, H b = some (.frz o (.lst ys)))
theorem Lone.at {H : Hp} {a b : Addr} {o : HO} (l : Lone H a) (h : H b = some o) : b = a ∧ ∃ z ys, o = .frz z (.lst ys) := by
  rcases l b with n | ⟨e, z, ys, q⟩
  · rw [n] at h; cases h
  · rw [q] at h; cases h; exact ⟨e, z, ys, rfl⟩
section
variable {P : Program} {w : World} {K : PySem.W.Frag} {mg mb : Str → Option Value} {k : Nat} {fa a : Addr} {fd : FuncData} {x : Str} {sg : Sg} {s₁ : Shared} {vs : List Value} {ns : List Int}
theorem lone_call (KX : K.In s₁.heap) (gl : s₁.heap.Ns mainGlobals mg) (bl : s₁.heap.Ns builtinsNs mb) (bb : ∀ y : Str, y ≠ "__name__" → mb y = bootBuiltins y) (nl : s₁.heap.NoLimit) (gn : s₁.gens = #[])
    (scr : s₁.heap.get? a = some { cls := .type "list", data := .seq vs.toArray }) (room : Room k callerA) (F : ∀ base : Heap, K.In base → base.Ns mainGlobals mg → FnG P w K mg base k fa fd [x] sg) (bd : ∀ (s : Shared) (u : Value), BindsTo s fd ⟨[u], []⟩ [(x, u)])
    {H : Hp} (lo : Lone H a) (ok : HOk P w H s₁.heap) (kn : H a ≠ none → K.lookup a = none) (pr : sg [.ref a] H fun v _ => v = .bl true) :
    codeAny (model P w) callerA (.call (.ref fa) ⟨[.ref a], []⟩) (fun r s' => r = .ok (.ret (.bool true)) ∧ OldK s₁.heap s'.heap ∧ s'.os = s₁.os ∧ AllBare s'.gens) s₁ := by
  -- what is hidden is the script at most
  have keep : ∀ {b : Addr} {o : Obj}, s₁.heap.get? b = some o → b ≠ a → (hidT s₁.heap H).get? b = some o := fun {b o} e ne => by
    refine hidT_get e ?_
    rcases lo b with z | z
    · exact z
    · exact absurd z.1 ne
  have dicts : ∀ {b : Addr} {m : Str → Option Value}, s₁.heap.Ns b m → (hidT s₁.heap H).Ns b m := fun {b m} h => by
    obtain ⟨o, es, ep, e, d, r⟩ := h
    refine ⟨o, es, ep, keep e fun z => ?_, d, r⟩
    rw [z, scr] at e
    cases e
    have bad : Data.seq vs.toArray _ = Data.dict es ep := d
    cases bad
  have known : K.In (hidT s₁.heap H) := fun b o e => by
    by_cases c : b = a
    · subst c
      cases q : H b with
      | none => exact hidT_get (KX b o e) q
      | some u =>
        have := kn (by rw [q]; exact fun z => nomatch z)
        rw [this] at e
        cases e
    · exact keep (KX b o e) c
  obtain ⟨mc, n1, n2⟩ := nl
  have start : Env0 P w K mg (hidT s₁.heap H) callerA [] s₁ H := ⟨rfl, ⟨known, dicts gl, ⟨mb, dicts bl, bb⟩, ⟨mc, dicts n1, n2⟩⟩, fun b o e => of_hidT e, Nat.le_of_eq (hidT_size _ _), trivial, fun b hb => absurd (show b ∈ ([] : List Addr) from hb) (by simp), ok, .of_eq gn⟩
  have run := (F (hidT s₁.heap H) known (dicts gl)).go callerA [] s₁ H ⟨[.ref a], []⟩ [.ref a] [.ref a] (fun v _ => v = .bl true) rfl room start (bd s₁ (.ref a)) (.cons rfl .nil) pr
  refine codeAny_mono run fun r s' h => ?_
  match r, h with
  | .error _, h => exact h.elim
  | .ok .next, h => exact h.elim
  | .ok .brk, h => exact h.elim
  | .ok .cont, h => exact h.elim
  | .ok (.ret u), h =>
    obtain ⟨v, H2, os, bare, un, ok2, rel, tv⟩ := h
    have tv' : v = .bl true := tv
    rw [tv'] at rel
    have ru : u = Value.bool true := rel
    refine ⟨by rw [ru], OldK.of_keep fun b o e => ?_, os, bare⟩
    cases q : H b with
    | none => exact un.keep b o e q (fun z => absurd (show b ∈ ([] : List Addr) from z) (by simp)) (by simp)
    | some z =>
      obtain ⟨_, ob, ys, ez⟩ := lo.at q
      rw [ez] at q
      have old := (ok b _ q).1
      have new := (ok2 b _ (un.frzs b ob _ q)).1
      rw [e] at old
      cases old
      exact new
/-- .. whatever the module's own objects are -/
theorem script_call (KX : K.In s₁.heap) (gl : s₁.heap.Ns mainGlobals mg) (bl : s₁.heap.Ns builtinsNs mb) (bb : ∀ y : Str, y ≠ "__name__" → mb y = bootBuiltins y) (nl : s₁.heap.NoLimit) (gn : s₁.gens = #[])
    (scr : s₁.heap.get? a = some { cls := .type "list", data := .seq vs.toArray }) (ia : IntsAre vs ns) (few : ns.length ≤ sizeLine) (room : Room k callerA) (F : ∀ base : Heap, K.In base → base.Ns mainGlobals mg → FnG P w K mg base k fa fd [x] sg) (bd : ∀ (s : Shared) (u : Value), BindsTo s fd ⟨[u], []⟩ [(x, u)])
    (pr : ∀ H : Hp, SqL K H a (ns.map V.int) → sg [.ref a] H fun v _ => v = .bl true) :
    codeAny (model P w) callerA (.call (.ref fa) ⟨[.ref a], []⟩) (fun r s' => r = .ok (.ret (.bool true)) ∧ OldK s₁.heap s'.heap ∧ s'.os = s₁.os ∧ AllBare s'.gens) s₁ := by
  have vals := vals_ints ia
  have lv := ia.length
  cases c : K.lookup a with
  | some o =>
    have e := KX a o c
    rw [scr] at e
    cases e
    refine lone_call (H := fun _ => none) KX gl bl bb nl gn scr room F bd (fun _ => .inl rfl) (fun b u z => ?_) (fun z => absurd rfl z) (pr _ (.inr ⟨_, vs.toArray, _, c, rfl, rfl, rfl, ?_, ?_⟩))
    · have z' : (none : Option HO) = some u := z
      cases z'
    · rw [List.size_toArray, lv]
      exact few
    · simpa using vals
  | none =>
    let H : Hp := fun b => if b = a then some (.frz { cls := .type "list", data := .seq vs.toArray } (.lst (ns.map V.int))) else none
    have ha : H a = some (.frz { cls := .type "list", data := .seq vs.toArray } (.lst (ns.map V.int))) := if_pos rfl
    have hn : ∀ b, b ≠ a → H b = none := fun b h => if_neg h
    have lo : Lone H a := fun b => by
      by_cases h : b = a
      · subst h
        exact .inr ⟨rfl, _, _, ha⟩
      · exact .inl (hn b h)
    refine lone_call (H := H) KX gl bl bb nl gn scr room F bd lo (fun b u z => ?_) (fun _ => c) (pr H (.inl (.inr ⟨_, ha⟩)))
    by_cases h : b = a
    · subst h
      rw [ha] at z
      cases z
      exact ⟨scr, by rw [List.length_map]; exact few, vs, _, vals, scr⟩
    · rw [hn b h] at z
      cases z
end
end K23

-- text A39
set_option Elab.async false
set_option linter.all false
set_option maxRecDepth 100000
set_option maxHeartbeats 2000000
namespace K23
open PySem PySem.Spec PyProof.Rows L2

/-! ## 47. the deck is made -/
/-- .. and a deck of our own -/
def Md.deck (M : Md) (q q2 : Addr) : Md where
  S := fun a => M.S a ∨ (a = q ∨ a = q2)
  W := fun H => M.W H ∧ DeckAt H q q2
  dep := fun a => M.dep a ∨ (a = q ∨ a = q2)
  sd := fun a h => h.imp (M.sd a) id
  dom := fun H a w d => by
    obtain ⟨w1, mx, dr, xs, h1, h2, _⟩ := w
    rcases d with d | d | d
    · exact M.dom H a w1 d
    · rw [d, h1]; exact fun z => nomatch z
    · rw [d, h2]; exact fun z => nomatch z
  ext := fun H H' B w hb e => by
    obtain ⟨w1, mx, dr, xs, h1, h2, h3⟩ := w
    exact ⟨M.ext H H' B w1 (fun a q d => hb a q (.inl d)) e, mx, dr, xs, e.old _ _ h1 fun z => hb _ z (.inr (.inl rfl)), e.old _ _ h2 fun z => hb _ z (.inr (.inr rfl)), h3⟩
theorem Deck.new {M : Md} {q q2 : Addr} (n1 : ¬ M.dep q) (n2 : ¬ M.dep q2) : Deck (M.deck q q2) q q2 where
  sq := .inr (.inl rfl)
  sq2 := .inr (.inr rfl)
  rd := fun H w => w.2
  wr := fun H H' w e d => ⟨M.ext H H' _ w.1 (fun a z => by
    rcases z with z | z
    · rw [z]; exact n1
    · rw [z]; exact n2) e, d⟩
/-- what the making of a deck asks and promises -/
def sgDeck (K : PySem.W.Frag) : Sg := fun vs H Q => ∃ (a : Addr) (ns : List Int), vs = [.ref a] ∧ ns.length ≤ 63 ∧ SqL K H a (ns.map V.int) ∧ ∀ q q2 H', H q = none → H q2 = none → Ex NoA H H' → DeckAt H' q q2 → Q (.ref q) H'
structure FnDeck (P : Program) (w : World) (K : PySem.W.Frag) (mg : Str → Option Value) (base : Heap) (k : Nat) (x : Str) (y : Str) : Prop where
  ex : ∃ f fd, mg x = some (.ref f) ∧ PySem.W.keepIn K (.ref f) = true ∧ Binds K fd [y] [] ∧ FnG P w K mg base k f fd [y] (sgDeck K)
section
variable {X : Cx} {M : Md} {ds : List (Option D)} {e : Expr} {rest : List Stmt} {E : Ends} {pos p : Pos} {x y : Str}
theorem Ex.scr {K : PySem.W.Frag} {H H' : Hp} {a : Addr} {xs : List V} (h : SqL K H a xs) (e : Ex NoA H H') : SqL K H' a xs := by
  rcases h with (h | ⟨o, h⟩) | h
  · exact .inl (.inl (e.old a _ h fun z => z))
  · exact .inl (.inr ⟨o, e.frz a o _ h⟩)
  · exact .inr h
/-- x = deck(script) -/
theorem st_deck {k i : Nat} {a : Addr} {ns : List Int} {x' : Str} {pos' cpos : Pos} (F : FnDeck X.prog X.w X.K X.mg X.base k x y) (su : Sur X k) (ha : BE X M ds e (.adr a)) (rd : ∀ H, M.W H → SqL X.K H a (ns.map V.int)) (few : ns.length ≤ 63) (kk : ∀ q q2, ¬ M.dep q → ¬ M.dep q2 → ST X (M.deck q q2) (ds.set i (some (.adr q))) rest E) (hN : X.N.Nodup := by assumption) (hi : X.N[i]? = some x' := by rfl) (hx : Loc X.env.scope x' := by first | exact Or.inl rfl | exact Or.inr rfl)
    (hs : swapsWith (.Call (.Name x p) [e] [] cpos) (some (.Name x' pos')) pos.line X.env = pure false := by rfl) (hf : X.fn x' = true ∨ X.env.scope.names.lookup x' = some .local := by exact Or.inl rfl) (hg : Gl X x := by rfl) (hdb : (x == ("__debug__" : Str)) = false := by decide)
    (he : starEach [e] X.env = (false, eval e X.env) :: starEach [] X.env := by rfl) (hpl : (backTo cpos (starEach [] X.env)).any (·.1) = false := by rfl) : ST X M ds (.Assign [.Name x' pos'] (.Call (.Name x p) [e] [] cpos) pos :: rest) E := by
  obtain ⟨f, fd, hm, hk, hb, F⟩ := F.ex
  have pe : PE X (.Call (.Name x p) [e] [] cpos) (fun σ H Q => En X.K M.S H σ ds ∧ M.W H ∧ ∀ q q2 H1 H2, Ex M.S H H1 → M.W H1 → H1 q = none → H1 q2 = none → Ex NoA H1 H2 → DeckAt H2 q q2 → Q (.ref q) H2) := by
    refine ⟨fun pins s σ H Q I q0 => ?_⟩
    obtain ⟨en, w, go⟩ := q0
    refine wpAny_Call_Name_kw (ld_glob I hg hm ?_ hdb)
    refine PySem.W.callWith_K (h₀ := X.base) I.ok.mod.kin hk ?_ he hpl
    refine thn ((bae ha ba_nil he).pa.run cpos pins s σ H (fun vs H1 => sgDeck X.K vs H1 Q) I ⟨en, w, fun l vs H1 pl e1 w1 i1 => ?_⟩) ?_
    · subst pl
      obtain ⟨v, rfl, i2⟩ := i1.one
      cases i2
      exact ⟨a, ns, rfl, few, rd H1 w1, fun q q2 H2 n1 n2 e2 d => go q q2 H1 H2 e1 w1 n1 n2 e2 d⟩
    · rintro us s1 ⟨vs, H1, I1, r, q⟩
      exact ⟨I1.kIn, fng_call F su.gd su.room I1 hb r q⟩
  exact st_of (ps_set hN hi hx pe hs hf) fun σ H en w => ⟨en, w, fun q q2 H1 H2 e1 w1 n1 n2 e2 d => by
    have w2 : M.W H2 := Md.pure w1 e2
    have nd1 := Md.free w1 n1
    have nd2 := Md.free w1 n2
    have en2 : En X.K M.S H2 σ ds := (en.mono e1 fun _ z => z).mono (B := NoA) e2 fun _ z => z.elim
    have en3 : En X.K (M.deck q q2).S H2 σ ds := by
      have en1 : En X.K M.S H1 σ ds := en.mono e1 fun _ z => z
      have en1' : En X.K (M.deck q q2).S H1 σ ds := en1.sub fun a o h z => z.elim id fun z => by
        rcases z with z | z
        · rw [z, n1] at h; cases h
        · rw [z, n2] at h; cases h
      exact en1'.mono (B := NoA) e2 fun _ z => z.elim
    exact (kk q q2 nd1 nd2).go _ _ (en3.set (.adr q)) ⟨w2, d⟩⟩
/-- a part of the script -/
theorem be_slA {a : Addr} {ns : List Int} {lo hi : Option Expr} {l h : Option Int} {p2 : Pos} (rd : ∀ H, M.W H → SqL X.K H a (ns.map V.int)) (ha : BE X M ds e (.adr a)) (hl : BO X M ds lo l) (hh : BO X M ds hi h) : BE X M ds (.Subscript e (.Slice lo hi none p2) pos) (.lst (cutD (ns.map D.int) l h)) :=
  .of (pe_slice sl_list ha.pe hl.po hh.po) fun σ H Q en w k => ⟨en, w, fun d v H1 p e1 w1 i1 => ⟨en.mono e1 fun _ z => z, w1, fun H2 e2 w2 => ⟨(en.mono e1 fun _ z => z).mono e2 fun _ z => z, w2, fun H3 e3 w3 => by
    subst p
    cases i1
    have is := Ints.iss (K := X.K) (S := M.S) (H := H3) ns
    exact ⟨_, _, rfl, rd H3 w3, fun p np => k _ _ _ rfl (((e1.trans e2).trans e3).trans (Ex.new np)) (Md.new w3 np) (.lst upd_same (Md.freeS w3 np) ((is.cut l h).mono (B := NoA) (Ex.new np) fun _ z => z.elim))⟩⟩⟩⟩
/-- return {"left": xs[::-1], "mixed": m, "draws": n} -/
theorem st_retDeck {H0 : Hp} {e1 e2 e3 : Expr} {zs : List Int} {mx dr : Int} {j1 j2 j3 : Nat} {c1 c2 c3 ps pd : Pos} {kn : Nat} {p1 p2 p3 : Pos} (h1 : BE X (Md.void.at H0) ds e1 (.lst (zs.map D.int))) (h2 : BE X (Md.void.at H0) ds e2 (.int mx)) (h3 : BE X (Md.void.at H0) ds e3 (.int dr)) (hz : zs.length ≤ 63)
    (k : ∀ q q2 H', H0 q = none → H0 q2 = none → Ex NoA H0 H' → DeckAt H' q q2 → E.rt (.ref q) H') :
    ST X (Md.void.at H0) ds (.Return (some (.Dict [some (.Constant (.str "left") j1 c1), some (.Constant (.str "mixed") j2 c2), some (.Constant (.str "draws") j3 c3)] [.Subscript e1 (.Slice none none (some (.UnaryOp .USub (.Constant (.int 1) kn p1) p2)) p3) ps, e2, e3] pd)) pos :: rest) E := by
  refine st_of (ps_ret (pe_disp (pps_cons (be_str (M := Md.void.at H0) (ds := ds)).pe (pe_revL h1.pe) (pps_cons (be_str (M := Md.void.at H0) (ds := ds)).pe h2.pe (pps_cons (be_str (M := Md.void.at H0) (ds := ds)).pe h3.pe pps_nil))) rfl rfl (by simp) (by simp))) fun σ H en w p np => ?_
  have n0 : H0 p = none := Ex.free w.2 np
  refine ⟨en.mono (B := NoA) (Ex.new np) fun _ z => z, Md.new w np, fun d1 v1 Ha pa ea wa ia => ?_⟩
  refine ⟨(en.mono (B := NoA) (Ex.new np) fun _ z => z).mono ea fun _ z => z, wa, fun d2 v2 Hb pb eb wb ib => ?_⟩
  subst pa pb
  cases ia
  cases ib with
  | lst g1 gS gi =>
    rename_i xs
    refine ⟨_, _, rfl, .of g1, fun q2 nq => ?_⟩
    have enb := ((en.mono (B := NoA) (Ex.new np) fun _ z => z).mono ea fun _ z => z).mono eb fun _ z => z
    have n2 : H0 q2 = none := Ex.free wb.2 nq
    refine ⟨enb.mono (B := NoA) (Ex.new nq) fun _ z => z, Md.new wb nq, fun d3 v3 Hc pc ec wc ic => ?_⟩
    refine ⟨(enb.mono (B := NoA) (Ex.new nq) fun _ z => z).mono ec fun _ z => z, wc, fun d4 v4 Hd pd' ed wd id => ?_⟩
    refine ⟨((enb.mono (B := NoA) (Ex.new nq) fun _ z => z).mono ec fun _ z => z).mono ed fun _ z => z, wd, fun d5 v5 He pe' ee we ie => ?_⟩
    refine ⟨(((enb.mono (B := NoA) (Ex.new nq) fun _ z => z).mono ec fun _ z => z).mono ed fun _ z => z).mono ee fun _ z => z, we, fun d6 v6 Hf pf ef wf jf => ?_⟩
    subst pc pd' pe' pf
    cases ic
    cases id
    cases ie
    cases jf
    have ne : p ≠ q2 := fun z => by
      have := (ea.trans eb).old p _ upd_same fun z => z
      rw [z, nq] at this
      cases this
    have toEnd : Ex NoA (upd Hb q2 (.lst xs.reverse)) Hf := ((ec.trans ed).trans ee).trans ef
    have fp : Hf p = some (.dK []) := toEnd.old p _ (by rw [upd_ne ne]; exact (ea.trans eb).old p _ upd_same fun z => z) fun z => z
    have fq : Hf q2 = some (.lst xs.reverse) := toEnd.old q2 _ upd_same fun z => z
    have ex : xs = zs.map V.int := gi.ints
    refine ⟨fp, [(.inr "left", .ref q2), (.inr "mixed", .int mx), (.inr "draws", .int dr)], rfl, by show 3 ≤ 15; decide, ?_⟩
    rw [merge_nd _ [] (by simp only [List.nil_append, List.map_cons, List.map_nil]; decide), List.nil_append]
    have we2 : Ex NoA H0 Hf := wf.2
    have last : Ex (fun a => NoA a ∨ a = p) Hf (upd Hf p (deckO q2 mx dr)) := (Ex.put (B := fun a => a = p) fp rfl (fun _ z => nomatch z) fun _ _ z => nomatch z).wide fun a z => .inr z
    refine k p q2 _ n0 n2 (we2.opened last n0) ⟨mx, dr, zs.reverse, upd_same, ?_, by rw [List.length_reverse]; exact hz⟩
    rw [upd_ne ne.symm, fq, ex, List.map_reverse]
end
end K23

-- text D13
set_option Elab.async false
set_option linter.all false
set_option maxRecDepth 100000
set_option maxHeartbeats 2000000
namespace K23
open PySem PySem.Spec PyProof.Rows L2
/-- how the integers of the script are mixed -/
def mixN (ns : List Int) (i : Nat) : Int := (ns.take i).foldl (fun m c => (m * 40692 + c % 2147483647 + 31) % 2147483563) 13748023
theorem mixN_next {ns : List Int} {i : Nat} {c : Int} (h : ns[i]? = some c) : mixN ns (i + 1) = (mixN ns i * 40692 + c % 2147483647 + 31) % 2147483563 := by
  unfold mixN
  rw [List.take_succ, h, List.foldl_append]
  rfl
theorem cut63 {ns : List Int} (h : ns.length ≤ 63) : cutD (ns.map D.int) none (some ((63 : Nat) : Int)) = ns.map D.int := by
  rw [cutD_lo, List.take_of_length_le]
  rw [List.length_map]
  exact h
section
variable {P : Program} {w : World} {K : PySem.W.Frag} {mg : Str → Option Value} {base : Heap}
-- names: _law_script, _law_mixed, _law_cell
theorem w__law_deck (T : Top K mg) : FnDeck P w K mg base 1 "_law_deck" "_law_script" := by
  obtain ⟨f, fd, hm, F⟩ := T.e83
  have S : FnScope ["_law_script", "_law_mixed", "_law_cell"] ["_law_script"] (defScope s83) := ⟨rfl, rfl, rfl, by decide +kernel, rfl, by decide +kernel, by decide +kernel⟩
  refine ⟨f, fd, hm, F.kp, F.bindsN (ps := ["_law_script"]) fun _ _ _ _ _ _ us hl => match us, hl with | [_], _ => rfl, fng_mk F S (fun vs H Q z => by obtain ⟨a, ns, e, _⟩ := z; rw [e]; rfl) fun cdv A fr s H0 vs Q hg hr z => ?_⟩
  obtain ⟨a, ns, rfl, few, scr, go⟩ := z
  have su : Sur (XX P w K mg base ["_law_script", "_law_mixed", "_law_cell"] "_law_deck" (defScope s83) f cdv A fr s H0) 0 := ⟨hr, hg⟩
  have nd := S.nd
  have rd : ∀ H, (Md.void.at H0).W H → SqL K H a (ns.map V.int) := fun H w => Ex.scr scr w.2
  suffices g : ST (XX P w K mg base ["_law_script", "_law_mixed", "_law_cell"] "_law_deck" (defScope s83) f cdv A fr s H0) (Md.void.at H0) [some (.adr a), none, none] (defBody s83) { nx := fun _ H' => Q .non H', rt := Q } from
    g.go _ _ (En.start (.cons (.adr a) .nil) ["_law_script", "_law_mixed", "_law_cell"] 2 rfl) ⟨trivial, Ex.refl _⟩
  refine st_set (i := 1) (hN := nd) (d := .int (mixN ns 0)) be_int ?_
  refine ST.norm (ds' := [_, _, _]) rfl ?_
  refine st_forD (φ := D.int) (ys := ns) (bie_lst (BP.is (d' := .lst (ns.map D.int)) (be_slA rd (be_var 0) bo_none (bo_some (be_int (i := ((63 : Nat) : Int))))) (congrArg D.lst (cut63 few)))) (fun _ => Md.void.at H0) (fun i => [some (.adr a), some (.int (mixN ns i)), none]) rfl rfl (fun _ => rfl) ?_ ?_
  · rintro H1 i c hc
    refine ⟨_, _, (bg_name (i := 2) nd), ?_⟩
    refine ST.norm (ds' := [_, _, _]) rfl ?_
    refine st_set (i := 1) (hN := nd) (d := .int (mixN ns (i + 1))) (BP.is (be_mod (by decide) (be_int1 T.f_int (be_add (be_add (be_mul (.inr ⟨by decide, by decide⟩) (be_var 1) be_int) (be_mod (by decide) (be_int1 T.f_int (be_var 2)) be_int)) be_int)) be_int) (by rw [mixN_next hc])) ?_
    refine ST.norm (ds' := [_, _, _]) rfl ?_
    exact st_rch rfl (by repeat first | exact Wk.nil | apply Wk.keep | apply Wk.drop)
  · intro H1
    refine ST.imp (M' := Md.void.at H0) (ds' := [some (.adr a), some (.int (mixN ns ns.length)), none]) ?_ fun σ H en w => ⟨en, w.1⟩
    exact st_retDeck (be_listOf T.f_list (BP.is (d' := .lst (ns.map D.int)) (be_slA rd (be_var 0) bo_none (bo_some (be_int (i := ((63 : Nat) : Int))))) (congrArg D.lst (cut63 few)))) (be_var 1) be_int few fun q q2 H' n1 n2 e d => go q q2 H' n1 n2 e d
end
end K23


-- text D14
set_option Elab.async false
set_option linter.all false
set_option maxRecDepth 100000
set_option maxHeartbeats 2000000
namespace K23
open PySem PySem.Spec PyProof.Rows L2
def sgLaw (K : PySem.W.Frag) : Sg := fun vs H Q => ∃ (a : Addr) (ns : List Int), vs = [.ref a] ∧ ns.length ≤ 63 ∧ SqL K H a (ns.map V.int) ∧ ∀ H', Q (.bl true) H'
def D.sub (d : D) (i : Nat) : D := match d with
  | .tup l => (l[i]?).getD .non
  | _ => .non
section
variable {P : Program} {w : World} {K : PySem.W.Frag} {mg : Str → Option Value} {base : Heap}
-- names: _law_script, _law_deck_here, _law_protocol, _law_n, _law_row, _law_some, _law_turn
theorem law_ok (T : Top K mg) : ∃ f fd, mg "law" = some (.ref f) ∧ FunD K "law" "law" (defArgs s104) (defBody s104) (defScope s104) [] [] f fd ∧ FnG P w K mg base 13 f fd ["_law_script"] (sgLaw K) := by
  obtain ⟨f, fd, hm, F⟩ := T.e104
  have S : FnScope ["_law_script", "_law_deck_here", "_law_protocol", "_law_n", "_law_row", "_law_some", "_law_turn"] ["_law_script"] (defScope s104) := ⟨rfl, rfl, rfl, by decide +kernel, rfl, by decide +kernel, by decide +kernel⟩
  refine ⟨f, fd, hm, F, fng_mk F S (fun vs H Q z => by obtain ⟨a, ns, e, _⟩ := z; rw [e]; rfl) fun cdv A fr s H0 vs Q hg hr z => ?_⟩
  obtain ⟨a, ns, rfl, few, scr, go⟩ := z
  have su : Sur (XX P w K mg base ["_law_script", "_law_deck_here", "_law_protocol", "_law_n", "_law_row", "_law_some", "_law_turn"] "law" (defScope s104) f cdv A fr s H0) 12 := ⟨hr, hg⟩
  have nd := S.nd
  have rd : ∀ H, (Md.void.at H0).W H → SqL K H a (ns.map V.int) := fun H w => Ex.scr scr w.2
  suffices g : ST (XX P w K mg base ["_law_script", "_law_deck_here", "_law_protocol", "_law_n", "_law_row", "_law_some", "_law_turn"] "law" (defScope s104) f cdv A fr s H0) (Md.void.at H0) [some (.adr a), none, none, none, none, none, none] (defBody s104) { nx := fun _ H' => Q .non H', rt := Q } from
    g.go _ _ (En.start (.cons (.adr a) .nil) ["_law_script", "_law_deck_here", "_law_protocol", "_law_n", "_law_row", "_law_some", "_law_turn"] 6 rfl) ⟨trivial, Ex.refl _⟩
  refine st_deck (i := 1) (w__law_deck T) (su.mono (by decide)) (be_var 0) rd few (fun q q2 n1 n2 => ?_)
  refine ST.norm (ds' := [_, _, _, _, _, _, _]) rfl ?_
  have kd : Deck ((Md.void.at H0).deck q q2) q q2 := Deck.new n1 n2
  generalize (Md.void.at H0).deck q q2 = M at kd ⊢
  have rt : Ret K M { nx := fun _ H' => Q .non H', rt := Q } (.bl true) := fun v H _ i => by
    cases i
    exact go H
  refine st_parP (i := 2) (j := 3) rfl (bp_call (w__law_drawn_protocol T) (su.mono (by decide)) (bae (be_var 1) ba_nil) ⟨q, q2, kd, rfl, rfl⟩) (bp_addN (m := 2) (be_int (i := ((2 : Nat) : Int))) (bp_draw T (su.mono (by decide)) kd (be_var 1) (be_int (i := ((3 : Nat) : Int))) (by first | decide | omega | (simp only [List.length_map, List.length_cons, List.length_append, List.length_nil]; omega) | (simp; omega)) (by first | decide | omega | (simp only [List.length_map, List.length_cons, List.length_append, List.length_nil]; omega) | (simp; omega)))) (fun d1 d2 z1 z2 => ?_) nd
  obtain ⟨p, rfl, hp, hsl⟩ := z1
  obtain ⟨n0, hn0, rfl⟩ := z2
  generalize en : 2 + n0 = n
  have h1 : 1 ≤ n := by omega
  have hn : n ≤ 4 := by omega
  refine ST.norm (ds' := [_, _, _, _, _, _, _]) rfl ?_
  refine st_unpackP (ds2 := fun d => [some (.adr a), some (.adr q), some p.d, some (.int n), some (d.sub 0), some (d.sub 1), none]) (is := [4] ++ ([5] ++ [])) (bp_call (w__law_drawn_row T) (su.mono (by decide)) (bae (be_var 1) (bae (be_var 2) (bae (be_var 3) (bae (be_int (i := ((18 : Nat) : Int))) ba_nil)))) ⟨q, q2, p, n, 18, kd, rfl, hp, hsl, h1, hn, by decide, rfl⟩) (fun d z => ?_) (fun d z => ?_)
  · obtain ⟨r, _, _, rfl⟩ := z
    exact (bg_tup rfl (bgs_cons (bg_name (i := 4) nd) (bgs_cons (bg_name (i := 5) nd) (bgs_nil))) 2)
  obtain ⟨r, hr, hc, rfl⟩ := z
  refine ST.norm (ds' := [some (.adr a), some (.adr q), some p.d, some (.int n), some (.tup (r.map Step.d)), some (.lst ((trail p n (firstOf p n) r).map Standing.d)), none]) rfl ?_
  have okE := (can_good hp r _ (firstOf_good hp n) hc).ok
  have steps := can_STEPS hp hn r _ (firstOf_ok hp n) hc
  have run := run_can _ _ hc
  have se := Sh.standing okE hp hn
  have sh : Shown (endOf p n (firstOf p n) r).d := shown_of se (by decide)
  refine st_skip (tq_neR ⟨se.tx⟩ su.u64 (be_repr su T.f_repr (be_call (w_standing_behind T) (su.mono (by decide)) (bae (be_var 2) (bae (be_var 3) (bae (be_var 4) ba_nil))) (⟨_, _, _, _, rfl, h1, hn, hp, steps, run, rfl⟩)) sh) (be_repr su T.f_repr (be_ixL (be_var 5) (be_neg be_int) (at_last (f := Standing.d) (trail_last r _))) sh)) ?_
  have tg := trail_good hp (firstOf_good hp n) hc
  have tl : 1 ≤ ((trail p n (firstOf p n) r).map Standing.d).length ∧ ((trail p n (firstOf p n) r).map Standing.d).length ≤ 1000 := by
    rw [List.length_map, trail_len]
    omega
  refine st_forP (φ := natD) (Yp := fun z => z = List.range 2) (bi_known (bie_rng1 T.f_range (be_int (i := ((2 : Nat) : Int))))) (fun _ : Unit => M) (fun ys i _ => True) () rfl (fun _ _ => trivial) (fun _ => rfl) ?_ ?_
  · rintro H1 ys i turn b rfl hy _
    have kd2 : Deck (M.at H1) q q2 := kd.at
    refine ⟨_, _, (bg_name (i := 6) nd), ?_⟩
    refine ST.norm (ds' := [_, _, _, _, _, _, _]) rfl ?_
    refine st_skip (BT.is (bt_not (bte_val (c := true) (pe_fnI (w__law_are_pairs_free T) (su.mono (by decide)) ?_ (ba_k (be_var 1) (ba_k (be_var 2) (ba_k (be_var 3) (ba_p (bp_pickE T (su.mono (by decide)) kd2 (be_var 1) (be_var 5) tl.1 tl.2) ba_nil)))) ?_))) rfl) ?_
    · rintro l ⟨_, ⟨_, ⟨_, ⟨_, _, _, rfl, rfl⟩, rfl⟩, rfl⟩, rfl⟩
      rfl
    · rintro l ⟨_, ⟨_, ⟨_, ⟨d, _, hd, rfl, rfl⟩, rfl⟩, rfl⟩, rfl⟩
      obtain ⟨S0, hS, rfl⟩ := List.mem_map.mp hd
      exact ⟨_, ⟨q, q2, p, n, S0, kd2, rfl, hp, hsl, h1, hn, tg S0 hS, rfl⟩, fun _ h => h⟩
    refine st_skip (BT.is (bt_not (bte_val (c := true) (bp_call (w__law_are_neighbours_free T) (su.mono (by decide)) (bae (be_var 1) (bae (be_var 2) (bae (be_var 3) (bae (be_var 4) (bae (be_var 5) ba_nil))))) ⟨q, q2, p, n, r, kd2, rfl, hp, hsl, h1, hn, by omega, hc, rfl⟩))) rfl) ?_
    exact st_rchP (St := fun _ : Unit => M) (Pv := fun _ => True) () trivial rfl (by repeat first | exact Wk.nil | apply Wk.keep | apply Wk.drop)
  · rintro H1 ys b rfl _
    have kd2 : Deck (M.at H1) q q2 := kd.at
    refine st_ret (pe_fnI (P := fun d => d = .bl true) (w__law_is_last T) (su.mono (by decide)) ?_ (ba_k (be_var 2) (ba_k (be_var 3) (ba_k (be_var 4) (ba_k (be_var 5) (ba_p (bp_draw T (su.mono (by decide)) kd2 (be_var 1) (be_var 3) (by first | decide | omega | (simp only [List.length_map, List.length_cons, List.length_append, List.length_nil]; omega) | (simp; omega)) (by first | decide | omega | (simp only [List.length_map, List.length_cons, List.length_append, List.length_nil]; omega) | (simp; omega))) ba_nil))))) ?_) (fun d e => ?_)
    · rintro l ⟨_, ⟨_, ⟨_, ⟨_, ⟨_, _, _, rfl, rfl⟩, rfl⟩, rfl⟩, rfl⟩, rfl⟩
      rfl
    · rintro l ⟨_, ⟨_, ⟨_, ⟨_, ⟨d, _, ⟨k, _, rfl⟩, rfl, rfl⟩, rfl⟩, rfl⟩, rfl⟩, rfl⟩
      exact ⟨_, ⟨_, ⟨p, n, k, r, rfl, hp, hsl, h1, hn, by omega, hc, rfl⟩, rfl⟩, fun _ h => h⟩
    · rw [e]
      exact Ret.at rt
end
end K23


-- text Z1
set_option Elab.async false
set_option linter.all false
set_option maxRecDepth 100000
set_option maxHeartbeats 0
namespace K23
open PySem PySem.Spec PyProof.Rows L2
theorem walk_law : PySem.W.WalkO (PySem.W.view R.prog [104]) nms (PySem.W.XL (PySem.W.view R.prog [104]) []) hk.says R.toRowW (HandSHeadRun.topDef R.prog 104) [] fun f vs => PySem.call f vs := by
  refine Att.attach_call (l := PySem.Challenge.rw_allshelves_k23_whole_steps_exchanged) (n := 63) rfl rfl fun w s₀ s₁ mg mb fa o pm cd doc a vs ns G Y ho hd hcd hmg hobj hints hlen hg => ?_
  obtain ⟨K, KX, c⟩ := Y
  have T : Top K mg := top_of KX G.T.g c
  obtain ⟨f0, fd0, hm0, F0⟩ := T.e104
  have hmg' : mg "law" = some (.ref fa) := hmg
  have e0 : f0 = fa := by
    rw [hm0] at hmg'
    cases hmg'
    rfl
  subst e0
  refine script_call (k := 13) (x := "_law_script") (fd := fd0) (sg := sgLaw K) KX G.T.g G.T.b G.T.builtins G.T.nolimit hg hobj hints (Nat.le_trans hlen (by decide)) ⟨rfl, by decide, by decide⟩ (fun base hK hN => ?_) (fun s u => F0.bindsA (ps := ["_law_script"]) (fun _ _ _ _ _ _ us hl => match us, hl with | [_], _ => rfl) s [u] rfl) fun H hS => ⟨a, ns, rfl, hlen, hS, fun _ => rfl⟩
  obtain ⟨f1, fd1, hm1, F1, FG⟩ := law_ok (P := R.prog) (w := w) (base := base) T
  rw [hm0] at hm1
  cases hm1
  rw [fund_same F0 F1]
  exact FG
end K23
open PySem PySem.W PySem.Calls PyProof.Rows
theorem PySem.Challenge.cw_allshelves_k23_whole_steps_exchanged_holds : PySem.Challenge.rw_allshelves_k23_whole_steps_exchanged.Holds := by
  w_on; o_law
  refine HandSHeadRun.head_any (r := K23.R) (q := PySem.W.view K23.R.prog [104]) (H := K23.hk) (ob := K23.ob) (M := 20000) (loose := K23.nms) (d := HandSHeadRun.topDef K23.R.prog 104) (kwd := []) K23.ob_eq (by kernel_rfl) (fun s => by kernel_rfl) K23.run (by rfl) (by rfl) (by rfl) (by rfl) (by first | assumption | decide +kernel) (by decide +kernel) ⟨rfl, rfl, rfl, rfl, rfl, by decide +kernel⟩ ?hw K23.walk_law
  case hw => w_witness2

