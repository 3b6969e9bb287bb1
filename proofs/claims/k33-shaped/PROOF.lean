import PyProof.Rows.All
import HandS.ForMost
import HandS.EndBits
import HandS.Style
import HandS.Wide
import HandS.TupMul
import HandS.Gcd
import HandS.IsInst
import HandS.Walk
import HandS.Small
import HandS.TupAny
import KE.GoesZip
import KE.GoesMore
import KE.GoesEnum
import PyProof.WalksMore
import KE.DataMinMax
import HandS.Conv
import HandS.TupSets
import HandS.Flt
import PySem.Challenge.RW_fairqueue_k33_whole_shaped_arrivals
set_option Elab.async false
set_option linter.all false
set_option maxRecDepth 100000
/-! G0: a def's promise where no repr is under way (the guards are known to be none). -/
namespace G
open PySem PySem.Spec PyProof.Rows L2

/-- what stands around a call, without a repr under way -/
abbrev Quiet (A : Around) : Prop := A.guards = some []

structure FnG (P : Program) (w : World) (K : PySem.W.Frag) (mg : Str → Option Value) (base : Heap)
    (CX : CXT) (k : Nat) (f : Addr) (fd : FuncData) (ps : List Str) (sp : Sp) : Prop where
  len : ∀ vs H Q E, sp vs H Q E → vs.length = ps.length
  run : ∀ (A : Around) (outer : List Env) (s : Shared) (H : Hp) (args : Args) (us : List Value) (vs : List V)
      (Q : VK) (E : XK), Room k A → Quiet A → Env0 P w K mg base A outer s H → BindsTo s fd args (ps.zip us) →
      Vals vs us → sp vs H Q E → codeAny (model P w) A (.call (.ref f) args) (CR CX outer P w H s Q E) s

theorem quiet_deeper {A : Around} (q : Quiet A) (env : Env) : Quiet (A.deeper env) := by
  obtain ⟨a, b, c, d, e⟩ := A
  exact q

section
variable {P : Program} {w : World} {K : PySem.W.Frag} {mg : Str → Option Value} {base : Heap} {CX : CXT}

/-- the rule of a def: its body run from every entry -/
theorem fnG_of {k : Nat} {f : Addr} {name qual : Str} {params : Arguments} {body : List Stmt} {scope : Scope}
    {dV kV doc pm cdv ct oc : Value} {an od : Option Addr} {osl : Array (Option Value)} {N ps : List Str} {sp : Sp}
    (lk : K.lookup f = some ⟨oc, od, .func (PySem.W.fnOf name qual params body scope dV kV doc pm an cdv ct), osl⟩)
    (hcd : PySem.W.codeIn K cdv qual = true) (S : FnScope N ps scope)
    (len : ∀ vs H Q E, sp vs H Q E → vs.length = ps.length)
    (hbody : ∀ (A : Around) (outer : List Env) (s : Shared) (H : Hp) (vs : List V) (Q : VK) (E : XK) (s1 : Shared),
      Room k (A.deeper (envOfC qual scope s.heap.objs.size f cdv)) → Quiet A → sp vs H Q E →
      Inv (cxOf CX P w K mg base N qual scope f cdv A outer s H E) [] (L2.start N vs) H s1 →
      wpAny (model P w) (A.deeper (envOfC qual scope s.heap.objs.size f cdv))
        (execs body (envOfC qual scope s.heap.objs.size f cdv))
        (SP (cxOf CX P w K mg base N qual scope f cdv A outer s H E) [] { nx := fun _ H' => Q .non H', rt := Q })
        (cxOf CX P w K mg base N qual scope f cdv A outer s H E).xe s1) :
    FnG P w K mg base CX (k + 1) f (PySem.W.fnOf name qual params body scope dV kV doc pm an cdv ct) ps sp := by
  constructor
  · exact len
  · intro A outer s H args us vs Q E room quiet e0 hb rv hs
    have hlen := len vs H Q E hs
    have inK : K.In s.heap := e0.mod.kin.keeps (fun b o g => (e0.bs b o g).1)
    have noLim : s.heap.NoLimit := e0.mod.nolimit.keeps (fun b o g => (e0.bs b o g).1)
    refine codeAny_call_function room.depth (inK f _ lk) rfl S.co S.gen rfl (PySem.W.codeRec_of inK hcd) (hb _ _ _ _ ?_)
    refine wpAny_newFunctionEnv_cells S.kind ?_ ?_
    · rintro ⟨n, v⟩ hm
      cases S.par n (List.of_mem_zip hm).1 with
      | inl q => exact .inl q
      | inr q => exact .inr ⟨q, PySem.W.cellsFrom_some _ _ _ (.inl q)⟩
    · intro env he s1 x
      subst he
      refine ⟨noLim.keeps x.toInCall.keep, codeAny_func ?_⟩
      have inv := inv_start (CX := CX) (E := E) (f := f) (cd := cdv) (qual := qual) S room.hd e0 hlen rv x
      refine wpAny_mono (hbody A outer s H vs Q E s1 (room.deeper _) quiet hs inv) ?_ (fun _ _ q => q)
      intro fl s2 hfl
      match fl, hfl with
      | .ret u, ⟨v, _, H2, J, r2, q2⟩ => exact ⟨v, H2, J.os, J.bare, J.base, J.hok, r2, q2⟩
      | .next, ⟨_, H2, J, q2⟩ => exact ⟨.non, H2, J.os, J.bare, J.base, J.hok, rfl, q2⟩
      | .brk, ⟨_, _, _, q2⟩ => exact q2.elim
      | .cont, ⟨_, _, _, q2⟩ => exact q2.elim
end

/-- a call of such a def from within a body -/
theorem run_g {X : Cx} {CX : CXT} {k : Nat} {f : Addr} {fd : FuncData} {ps : List Str} {sp : Sp} {E : XK}
    {pins : List (Addr × Obj)} {σ : L2.St} {H : Hp} {s : Shared} {Q : VK} {args : Args} {us : List Value} {vs : List V}
    (F : FnG X.prog X.w X.K X.mg X.base CX k f fd ps sp) (room : Room k X.A) (quiet : Quiet X.A)
    (hx : Passes CX X E) (I : Inv X pins σ H s) (hb : BindsTo s fd args (ps.zip us)) (r : Vals vs us) (h : sp vs H Q E) :
    codeAny (model X.prog X.w) X.A (.call (.ref f) args)
      (fun res s' => match res with | .ok (.ret u) => EP X pins σ Q u s' | .ok _ => False | .error e => X.xe e s') s := by
  refine codeAny_mono (F.run X.A X.stack s H args us vs Q E room quiet I.env0 hb r h) ?_
  intro res s' q
  match res, q with
  | .ok (.ret u), q => exact I.after q
  | .error e, q => exact hx pins σ H s e s' I q
  | .ok .next, q => exact q.elim
  | .ok .brk, q => exact q.elim
  | .ok .cont, q => exact q.elim

/-- the law's def, called from the claim with the script -/
theorem walkG {l : PySem.W.OpenLaw} {n k : Nat} {q : Program} {loose : List Str} {XP : (Str → Option Value) → Heap → Prop}
    {YP : World → Heap → Prop} {d : DefRec} {K : Params → PySem.W.Frag} {CX : World → CXT} {sp : World → Sp} {x : Str}
    (hn : l.most = some n) (hn2 : n ≤ sizeLine) (hdf : d.params.defaults = []) (hr : Room k callerA)
    (hY : ∀ (w : World) (h : Heap), YP w h → (K w.params).In h)
    (F : ∀ (w : World) (mg : Str → Option Value) (fa : Addr) (h : Heap), (K w.params).In h → h.Ns mainGlobals mg →
      mg d.name = some (.ref fa) →
      ∃ fd : FuncData, (∀ (s : Shared) (u : Value), BindsTo s fd ⟨[u], []⟩ [(x, u)]) ∧
        ∀ base : Heap, (K w.params).In base → base.Ns mainGlobals mg →
          FnG l.prog w (K w.params) mg base (CX w) k fa fd [x] (sp w))
    (hsp : ∀ (w : World) (H : Hp) (a : Addr) (ns : List Int), ns.length ≤ n →
      (∀ z ∈ ns, Builtin.Int.intBits z ≤ 1048576) → Only H →
      ((∃ o, H a = some (.frz o (.lst (ns.map V.int)))) ∨ (H = (fun _ => none) ∧ SqL (K w.params) H a (ns.map V.int))) →
      sp w [.ref a] H (fun v _ => v = .bl true) fun _ _ _ => False)
    (hCX : ∀ (w : World) (H : Hp) (s : Shared) (e : Value) (s' : Shared), CX w [] H s (fun _ _ _ => False) e s' → False) :
    PySem.W.WalkO q loose XP YP l.row.toRowW d [] (fun f vs => PySem.call f vs) := by
  refine Att.attach_callB hn hdf ?_
  intro w s₀ s₁ mg mb fa o pm cd doc a vs ns Gd Y ho hd hcd hmg hobj hints hlen hbits hgens
  have inK := hY w _ Y
  obtain ⟨fd, hb, hF⟩ := F w mg fa _ inK Gd.T.g hmg
  have rv := vals_ints hints
  have lenV := hints.length
  have sz : ns.length ≤ sizeLine := Nat.le_trans hlen hn2
  -- an abstract heap that tracks at most the script
  have main : ∀ H : Hp, Only H → HOk l.prog w H s₁.heap → (∀ b, H b ≠ none → b = a ∧ (K w.params).lookup a = none) →
      sp w [.ref a] H (fun v _ => v = .bl true) (fun _ _ _ => False) →
      codeAny (model l.prog w) callerA (.call (.ref fa) ⟨[.ref a], []⟩)
        (fun r s' => r = .ok (.ret (.bool true)) ∧ OldK s₁.heap s'.heap ∧ s'.os = s₁.os ∧ AllBare s'.gens) s₁ := by
    intro H only hok at_a hspH
    have keep : ∀ {b : Addr} {ob : Obj}, s₁.heap.get? b = some ob → H b = none → (hidT s₁.heap H).get? b = some ob :=
      fun g n0 => hidT_get g n0
    have dicts : ∀ {b : Addr} {m : Str → Option Value}, s₁.heap.Ns b m → (hidT s₁.heap H).Ns b m := by
      rintro b m ⟨ob, es, ep, g, dt, rr⟩
      refine ⟨ob, es, ep, keep g ?_, dt, rr⟩
      cases hb0 : H b with
      | none => rfl
      | some u =>
        obtain ⟨e1, _⟩ := at_a b (by rw [hb0]; simp)
        subst e1
        rw [hobj] at g
        cases g
        cases dt
    have kin : (K w.params).In (hidT s₁.heap H) := by
      intro b ob g
      refine keep (inK b ob g) ?_
      cases hb0 : H b with
      | none => rfl
      | some u =>
        obtain ⟨e1, e2⟩ := at_a b (by rw [hb0]; simp)
        subst e1
        rw [e2] at g
        cases g
    have md : Mod (K w.params) mg (hidT s₁.heap H) := by
      obtain ⟨mc, c1, c2⟩ := Gd.T.nolimit
      exact ⟨kin, dicts Gd.T.g, ⟨mb, dicts Gd.T.b, Gd.T.builtins⟩, ⟨mc, dicts c1, c2⟩⟩
    have e0 : Env0 l.prog w (K w.params) mg (hidT s₁.heap H) callerA [] s₁ H := by
      refine ⟨rfl, md, fun b ob g => of_hidT g, Nat.le_of_eq (hidT_size _ _), trivial, ?_, hok, .of_eq hgens⟩
      intro b hm
      exact absurd (show b ∈ ([] : List Addr) from hm) (by simp)
    have go := (hF _ kin (dicts Gd.T.g)).run callerA [] s₁ H ⟨[.ref a], []⟩ [.ref a] [.ref a] _ _ hr rfl e0
      (hb s₁ (.ref a)) (.cons rfl .nil) hspH
    refine codeAny_mono go ?_
    intro res s' hres
    match res, hres with
    | .error e, z => exact (hCX w H s₁ e s' z).elim
    | .ok .next, z => exact z.elim
    | .ok .brk, z => exact z.elim
    | .ok .cont, z => exact z.elim
    | .ok (.ret u), ⟨v, H', os', bare', un, hok', r', q'⟩ =>
      have ev : v = .bl true := q'
      subst ev
      have eu : u = Value.bool true := r'
      subst eu
      refine ⟨rfl, OldK.of_keep ?_, os', bare'⟩
      intro b ob g
      cases hb0 : H b with
      | none =>
        exact un.keep b ob g hb0 (fun z => absurd (show b ∈ ([] : List Addr) from z) (by simp)) (by simp)
      | some u0 =>
        cases only b with
        | inl z => rw [hb0] at z; cases z
        | inr z =>
          obtain ⟨ob2, xs2, z⟩ := z
          have z3 := un.frzs b ob2 _ z
          have k1 := (hok b _ z).1
          have k2 := (hok' b _ z3).1
          rw [g] at k1
          cases k1
          exact k2
  cases hk : (K w.params).lookup a with
  | some ob =>
    have g := inK a ob hk
    rw [hobj] at g
    cases g
    refine main (fun _ => none) (fun _ => .inl rfl) (fun b u z => nomatch z) (fun b z => absurd rfl z) ?_
    refine hsp w _ a ns hlen hbits (fun _ => .inl rfl) (.inr ⟨rfl, .inr ?_⟩)
    exact ⟨_, vs.toArray, _, hk, rfl, rfl, rfl, by rw [List.size_toArray, lenV]; exact sz, by simpa using rv⟩
  | none =>
    let H1 : Hp := fun b => if b = a then some (.frz { cls := .type "list", data := .seq vs.toArray } (.lst (ns.map V.int))) else none
    have at1 : H1 a = some (.frz { cls := .type "list", data := .seq vs.toArray } (.lst (ns.map V.int))) := if_pos rfl
    have off1 : ∀ b, b ≠ a → H1 b = none := fun b hb => if_neg hb
    have only1 : Only H1 := by
      intro b
      by_cases hb : b = a
      · subst hb; exact .inr ⟨_, _, at1⟩
      · exact .inl (off1 b hb)
    refine main H1 only1 ?_ ?_ (hsp w H1 a ns hlen hbits only1 (.inl ⟨_, at1⟩))
    · intro b u z
      by_cases hb : b = a
      · subst hb
        rw [at1] at z
        cases z
        exact ⟨hobj, by rw [List.length_map]; exact sz, vs, _, rv, hobj⟩
      · rw [off1 b hb] at z; cases z
    · intro b z
      by_cases hb : b = a
      · exact ⟨hb, hk⟩
      · exact absurd (off1 b hb) z
end G
/-! G1: data as trees. D: what a value is, tuples written out; HpD: lists, dicts and instances by address. -/
namespace G
open PySem PySem.Spec PyProof.Rows L2

inductive D where
  | non | bl (b : Bool) | int (i : Int) | str (x : Str) | tup (xs : List D) | rl (xs : List D) | ref (a : Addr) | ty (n : String)

/-- a list that is only read: the script -/
def RdL (K : PySem.W.Frag) (H : Hp) (a : Addr) (xs : List V) : Prop :=
  (∃ o, H a = some (.frz o (.lst xs))) ∨ SqL K (fun _ => none) a xs
theorem RdL.sq {K : PySem.W.Frag} {H : Hp} {a : Addr} {xs : List V} (h : RdL K H a xs) : SqL K H a xs := by
  rcases h with ⟨o, h⟩ | ((h | ⟨o, h⟩) | h)
  · exact .inl (.inr ⟨o, h⟩)
  · cases h
  · cases h
  · exact .inr h

/-- tuples and what is locked stay as they are -/
structure Tx (H H' : Hp) : Prop where
  tup : ∀ a xs, H a = some (.tup xs) → H' a = some (.tup xs)
  frz : ∀ a o u, H a = some (.frz o u) → H' a = some (.frz o u)
theorem Tx.refl {H : Hp} : Tx H H := ⟨fun _ _ h => h, fun _ _ _ h => h⟩
theorem Tx.trans {H H1 H2 : Hp} (a : Tx H H1) (b : Tx H1 H2) : Tx H H2 :=
  ⟨fun c xs h => b.tup c xs (a.tup c xs h), fun c o u h => b.frz c o u (a.frz c o u h)⟩
theorem Tx.new {H : Hp} {p : Addr} {o : HO} (h : H p = none) : Tx H (upd H p o) :=
  ⟨fun c xs e => by rw [upd_ne (ne_of_none e h)]; exact e, fun c o u e => by rw [upd_ne (ne_of_none e h)]; exact e⟩
/-- what may be overwritten -/
def Soft : HO → Prop
  | .tup _ => False
  | .frz _ _ => False
  | _ => True
theorem Tx.write {H : Hp} {p : Addr} {u o : HO} (h : H p = some u) (hs : Soft u) : Tx H (upd H p o) := by
  constructor
  · intro c xs e
    have hc : c ≠ p := by
      rintro rfl
      rw [h] at e
      cases e
      exact hs
    rw [upd_ne hc]; exact e
  · intro c o u e
    have hc : c ≠ p := by
      rintro rfl
      rw [h] at e
      cases e
      exact hs
    rw [upd_ne hc]; exact e
theorem Tx.of_un {fs ex : List Addr} {H H' : Hp} {h h' : Heap} (u : Un fs ex H H' h h') : Tx H H' := ⟨u.tups, u.frzs⟩
theorem Tx.sqT {K : PySem.W.Frag} {H H' : Hp} {a : Addr} {xs : List V} (t : Tx H H') (h : SqT K H a xs) : SqT K H' a xs := by
  rcases h with (h | ⟨o, h⟩) | h
  · exact .inl (.inl (t.tup _ _ h))
  · exact .inl (.inr ⟨o, t.frz _ _ _ h⟩)
  · exact .inr h
theorem Tx.rdL {K : PySem.W.Frag} {H H' : Hp} {a : Addr} {xs : List V} (t : Tx H H') (h : RdL K H a xs) : RdL K H' a xs := by
  rcases h with ⟨o, h⟩ | h
  · exact .inl ⟨o, t.frz _ _ _ h⟩
  · exact .inr h

mutual
/-- the value v is the data d -/
def Rv (K : PySem.W.Frag) (H : Hp) : D → V → Prop
  | .non, v => v = .non
  | .bl b, v => v = .bl b
  | .int i, v => v = .int i
  | .str x, v => v = .str x
  | .ref a, v => v = .ref a
  | .ty n, v => v = .ty n
  | .tup ds, v => ∃ a xs, v = .ref a ∧ SqT K H a xs ∧ Rvs K H ds xs
  | .rl ds, v => ∃ a xs, v = .ref a ∧ RdL K H a xs ∧ Rvs K H ds xs
def Rvs (K : PySem.W.Frag) (H : Hp) : List D → List V → Prop
  | [], xs => xs = []
  | d :: ds, xs => ∃ v vs, xs = v :: vs ∧ Rv K H d v ∧ Rvs K H ds vs
end
section
variable {K : PySem.W.Frag} {H H' : Hp}
mutual
theorem Rv.mono (t : Tx H H') : ∀ {d : D} {v : V}, Rv K H d v → Rv K H' d v
  | .non, _, h => by simp only [Rv] at h ⊢; exact h
  | .bl _, _, h => by simp only [Rv] at h ⊢; exact h
  | .int _, _, h => by simp only [Rv] at h ⊢; exact h
  | .str _, _, h => by simp only [Rv] at h ⊢; exact h
  | .ref _, _, h => by simp only [Rv] at h ⊢; exact h
  | .ty _, _, h => by simp only [Rv] at h ⊢; exact h
  | .tup ds, _, h => by
    simp only [Rv] at h ⊢
    obtain ⟨a, xs, e, s, r⟩ := h
    exact ⟨a, xs, e, t.sqT s, Rvs.mono t r⟩
  | .rl ds, _, h => by
    simp only [Rv] at h ⊢
    obtain ⟨a, xs, e, s, r⟩ := h
    exact ⟨a, xs, e, t.rdL s, Rvs.mono t r⟩
theorem Rvs.mono (t : Tx H H') : ∀ {ds : List D} {vs : List V}, Rvs K H ds vs → Rvs K H' ds vs
  | [], _, h => by simp only [Rvs] at h ⊢; exact h
  | d :: ds, _, h => by
    simp only [Rvs] at h ⊢
    obtain ⟨v, vs, e, r, rs⟩ := h
    exact ⟨v, vs, e, Rv.mono t r, Rvs.mono t rs⟩
end
theorem rvs_nil : Rvs K H [] [] := by simp only [Rvs]
theorem rvs_cons {d : D} {ds : List D} {v : V} {vs : List V} (r : Rv K H d v) (rs : Rvs K H ds vs) : Rvs K H (d :: ds) (v :: vs) := by
  simp only [Rvs]
  exact ⟨v, vs, rfl, r, rs⟩
theorem Rvs.paired : ∀ {ds : List D} {vs : List V}, Rvs K H ds vs → Paired (Rv K H) ds vs
  | [], _, h => by simp only [Rvs] at h; subst h; exact .nil
  | d :: ds, _, h => by
    simp only [Rvs] at h
    obtain ⟨v, vs, rfl, r, rs⟩ := h
    exact .cons r (Rvs.paired rs)
theorem Rvs.of : ∀ {ds : List D} {vs : List V}, Paired (Rv K H) ds vs → Rvs K H ds vs
  | _, _, .nil => rvs_nil
  | _, _, .cons r rs => rvs_cons r (Rvs.of rs)
theorem Rvs.len {ds : List D} {vs : List V} (h : Rvs K H ds vs) : ds.length = vs.length := Paired.length h.paired
theorem Rvs.get : ∀ {ds : List D} {vs : List V} {i : Nat} {d : D}, Rvs K H ds vs → ds[i]? = some d → ∃ v, vs[i]? = some v ∧ Rv K H d v
  | [], _, _, _, _, e => by simp at e
  | d :: ds, _, 0, _, h, e => by
    simp only [Rvs] at h
    obtain ⟨v, vs, rfl, r, rs⟩ := h
    simp at e
    subst e
    exact ⟨v, rfl, r⟩
  | d :: ds, _, i + 1, _, h, e => by
    simp only [Rvs] at h
    obtain ⟨v, vs, rfl, r, rs⟩ := h
    simp at e
    obtain ⟨v', e', r'⟩ := Rvs.get rs e
    exact ⟨v', by simpa using e', r'⟩
theorem Rvs.got : ∀ {ds : List D} {vs : List V} {i : Nat} {v : V}, Rvs K H ds vs → vs[i]? = some v → ∃ d, ds[i]? = some d ∧ Rv K H d v
  | [], _, _, _, h, e => by simp only [Rvs] at h; subst h; simp at e
  | d :: ds, _, 0, _, h, e => by
    simp only [Rvs] at h
    obtain ⟨v, vs, rfl, r, rs⟩ := h
    simp at e
    subst e
    exact ⟨d, rfl, r⟩
  | d :: ds, _, i + 1, _, h, e => by
    simp only [Rvs] at h
    obtain ⟨v, vs, rfl, r, rs⟩ := h
    simp at e
    obtain ⟨v', e', r'⟩ := Rvs.got rs e
    exact ⟨v', by simpa using e', r'⟩
theorem Rvs.append : ∀ {ds es : List D} {vs us : List V}, Rvs K H ds vs → Rvs K H es us → Rvs K H (ds ++ es) (vs ++ us)
  | [], _, _, _, h, h' => by simp only [Rvs] at h; subst h; exact h'
  | d :: ds, _, _, _, h, h' => by
    simp only [Rvs] at h
    obtain ⟨v, vs, rfl, r, rs⟩ := h
    exact rvs_cons r (Rvs.append rs h')
theorem Rvs.drop : ∀ {ds : List D} {vs : List V} (n : Nat), Rvs K H ds vs → Rvs K H (ds.drop n) (vs.drop n)
  | _, _, 0, h => h
  | [], _, n + 1, h => by simp only [Rvs] at h; subst h; exact rvs_nil
  | d :: ds, _, n + 1, h => by
    simp only [Rvs] at h
    obtain ⟨v, vs, rfl, r, rs⟩ := h
    exact Rvs.drop n rs
theorem Rvs.take : ∀ {ds : List D} {vs : List V} (n : Nat), Rvs K H ds vs → Rvs K H (ds.take n) (vs.take n)
  | _, _, 0, _ => rvs_nil
  | [], _, n + 1, h => by simp only [Rvs] at h; subst h; exact rvs_nil
  | d :: ds, _, n + 1, h => by
    simp only [Rvs] at h
    obtain ⟨v, vs, rfl, r, rs⟩ := h
    exact rvs_cons r (Rvs.take n rs)
theorem Rvs.set {d : D} {v : V} (r : Rv K H d v) : ∀ {ds : List D} {vs : List V} (i : Nat), Rvs K H ds vs → Rvs K H (ds.set i d) (vs.set i v)
  | [], _, _, h => by simp only [Rvs] at h; subst h; exact rvs_nil
  | e :: ds, _, 0, h => by
    simp only [Rvs] at h
    obtain ⟨v', vs, rfl, r', rs⟩ := h
    exact rvs_cons r rs
  | e :: ds, _, i + 1, h => by
    simp only [Rvs] at h
    obtain ⟨v', vs, rfl, r', rs⟩ := h
    exact rvs_cons r' (Rvs.set r i rs)
theorem Rvs.reverse {ds : List D} {vs : List V} (h : Rvs K H ds vs) : Rvs K H ds.reverse vs.reverse := by
  have go : ∀ {ds : List D} {vs : List V}, Rvs K H ds vs → ∀ {es us}, Rvs K H es us → Rvs K H (ds.reverseAux es) (vs.reverseAux us) := by
    intro ds
    induction ds with
    | nil => intro vs h es us h'; simp only [Rvs] at h; subst h; exact h'
    | cons d ds ih =>
      intro vs h es us h'
      simp only [Rvs] at h
      obtain ⟨v, vs, rfl, r, rs⟩ := h
      exact ih rs (rvs_cons r h')
  have := go h (rvs_nil (K := K) (H := H))
  rw [List.reverseAux_eq, List.reverseAux_eq, List.append_nil, List.append_nil] at this
  exact this
theorem rvs_ints : ∀ ns : List Int, Rvs K H (ns.map D.int) (ns.map V.int)
  | [] => rvs_nil
  | n :: ns => rvs_cons (by simp only [Rv]) (rvs_ints ns)
end

/-! ### what stands in the heap -/
inductive OD where
  | lst (xs : List D)
  | dct (kvs : List (Key × D))
  | ins (C : Addr) (fs : List (Str × D))
abbrev HpD := Addr → Option OD
def put (hd : HpD) (a : Addr) (o : OD) : HpD := fun b => if b = a then some o else hd b
theorem put_same {hd : HpD} {a : Addr} {o : OD} : put hd a o a = some o := if_pos rfl
theorem put_ne {hd : HpD} {a b : Addr} {o : OD} (h : b ≠ a) : put hd a o b = hd b := if_neg h
theorem put_put {hd : HpD} {a : Addr} {o u : OD} : put (put hd a o) a u = put hd a u := by
  funext b
  unfold put
  split <;> rfl
def RF {κ : Type} (K : PySem.W.Frag) (H : Hp) : List (κ × D) → List (κ × V) → Prop := Paired fun p q => p.1 = q.1 ∧ Rv K H p.2 q.2
def Ro (K : PySem.W.Frag) (H : Hp) (a : Addr) : OD → Prop
  | .lst ds => ∃ vs, H a = some (.lst vs) ∧ Rvs K H ds vs
  | .dct kvs => ∃ ks, H a = some (.dK ks) ∧ RF K H kvs ks
  | .ins C fs => ∃ dx gs, H a = some (.ins C dx gs) ∧ RF K H fs gs
def RH (K : PySem.W.Frag) (H : Hp) (hd : HpD) : Prop := ∀ a o, hd a = some o → Ro K H a o
section
variable {K : PySem.W.Frag} {H H' : Hp} {hd hd' : HpD} {a p : Addr} {o : OD} {u ho : HO}
theorem RF.mono {κ : Type} (t : Tx H H') {l : List (κ × D)} {m : List (κ × V)} (h : RF K H l m) : RF K H' l m := by
  induction h with
  | nil => exact .nil
  | cons r _ ih => exact .cons ⟨r.1, r.2.mono t⟩ ih
theorem Ro.there (h : Ro K H a o) : ∃ u, H a = some u ∧ Soft u := by
  cases o with
  | lst ds => obtain ⟨vs, e, _⟩ := h; exact ⟨_, e, trivial⟩
  | dct ds => obtain ⟨vs, e, _⟩ := h; exact ⟨_, e, trivial⟩
  | ins C ds => obtain ⟨dx, vs, e, _⟩ := h; exact ⟨_, e, trivial⟩
theorem Ro.mono (t : Tx H H') (e : H' a = H a) (h : Ro K H a o) : Ro K H' a o := by
  cases o with
  | lst ds => obtain ⟨vs, e1, r⟩ := h; exact ⟨vs, e.trans e1, r.mono t⟩
  | dct ds => obtain ⟨vs, e1, r⟩ := h; exact ⟨vs, e.trans e1, r.mono t⟩
  | ins C ds => obtain ⟨dx, vs, e1, r⟩ := h; exact ⟨dx, vs, e.trans e1, r.mono t⟩
theorem RH.none (h : RH K H hd) (e : H p = Option.none) : hd p = Option.none := by
  cases q : hd p with
  | none => rfl
  | some o =>
    obtain ⟨u, e', _⟩ := (h p o q).there
    rw [e] at e'
    cases e'
theorem RH.keep (h : RH K H hd) (t : Tx H H') (k : ∀ a o, hd a = some o → H' a = H a) : RH K H' hd := fun a o q => (h a o q).mono t (k a o q)
/-- something new that is not listed -/
theorem RH.more (h : RH K H hd) (e : H p = Option.none) : RH K (upd H p ho) hd :=
  h.keep (.new e) fun a o q => upd_ne (by rintro rfl; rw [h.none e] at q; cases q)
theorem RH.new (h : RH K H hd) (e : H p = Option.none) (r : Ro K (upd H p ho) p o) : RH K (upd H p ho) (put hd p o) := fun b q hb => by
  by_cases hbp : b = p
  · subst hbp
    rw [put_same] at hb
    cases hb
    exact r
  · rw [put_ne hbp] at hb
    exact (h.more e) b q hb
theorem RH.write (h : RH K H hd) (e : H p = some u) (hs : Soft u) (r : Ro K (upd H p ho) p o) : RH K (upd H p ho) (put hd p o) := fun b q hb => by
  by_cases hbp : b = p
  · subst hbp
    rw [put_same] at hb
    cases hb
    exact r
  · rw [put_ne hbp] at hb
    exact (h b q hb).mono (.write e hs) (upd_ne hbp)
/-- nothing was lost -/
def Sub (hd hd' : HpD) : Prop := ∀ a o, hd a = some o → hd' a = some o
theorem Sub.refl : Sub hd hd := fun _ _ h => h
theorem Sub.trans {h1 h2 h3 : HpD} (a : Sub h1 h2) (b : Sub h2 h3) : Sub h1 h3 := fun c o h => b c o (a c o h)
theorem Sub.new (e : hd p = Option.none) : Sub hd (put hd p o) := fun b q hb => by
  rw [put_ne (by rintro rfl; rw [e] at hb; cases hb)]
  exact hb
theorem RH.forget (h : RH K H hd') (s : Sub hd hd') : RH K H hd := fun a o q => h a o (s a o q)
end

/-! ### slots -/
abbrev EnvD := List (Option D)
structure RS (K : PySem.W.Frag) (σ : L2.St) (H : Hp) (env : EnvD) : Prop where
  len : env.length = σ.length
  at_ : ∀ (i : Nat) (d : D), env[i]? = some (some d) → ∃ v : V, σ[i]? = some (some v) ∧ Rv K H d v
theorem RS.mono {K : PySem.W.Frag} {σ : L2.St} {H H' : Hp} {env : EnvD} (h : RS K σ H env) (t : Tx H H') : RS K σ H' env :=
  ⟨h.len, fun i d e => let ⟨v, e', r⟩ := h.at_ i d e; ⟨v, e', r.mono t⟩⟩
theorem RS.set {K : PySem.W.Frag} {σ : L2.St} {H : Hp} {env : EnvD} (h : RS K σ H env) (i : Nat) {d : D} {v : V} (r : Rv K H d v) : RS K (σ.set i (some v)) H (env.set i (some d)) := by
  refine ⟨by rw [List.length_set, List.length_set]; exact h.len, fun j e q => ?_⟩
  by_cases hj : i = j
  · subst hj
    rw [List.getElem?_set] at q
    rw [List.getElem?_set]
    simp only [if_true] at q ⊢
    by_cases hl : i < env.length
    · rw [if_pos hl] at q
      rw [if_pos (by rw [← h.len]; exact hl)]
      cases q
      exact ⟨v, rfl, r⟩
    · rw [if_neg hl] at q; cases q
  · rw [List.getElem?_set_ne hj] at q
    rw [List.getElem?_set_ne hj]
    exact h.at_ j e q
theorem RS.wipe {K : PySem.W.Frag} {σ : L2.St} {H : Hp} {env : EnvD} (h : RS K σ H env) (i : Nat) : RS K (σ.set i none) H (env.set i none) := by
  refine ⟨by rw [List.length_set, List.length_set]; exact h.len, fun j e q => ?_⟩
  by_cases hj : i = j
  · subst hj
    rw [List.getElem?_set] at q
    simp only [if_true] at q
    split at q <;> cases q
  · rw [List.getElem?_set_ne hj] at q
    rw [List.getElem?_set_ne hj]
    exact h.at_ j e q
theorem rs_start {K : PySem.W.Frag} {H : Hp} {N : List Str} {ds : List D} {vs : List V} (r : Rvs K H ds vs) : RS K (L2.start N vs) H (ds.map some ++ List.replicate (N.length - ds.length) none) := by
  have hl := r.len
  refine ⟨by unfold L2.start; simp [hl], fun i d e => ?_⟩
  by_cases hi : i < ds.length
  · rw [List.getElem?_append_left (by simpa using hi), List.getElem?_map] at e
    have : ∃ d', ds[i]? = some d' := ⟨ds[i], List.getElem?_eq_getElem hi⟩
    obtain ⟨d', hd'⟩ := this
    rw [hd'] at e
    cases e
    obtain ⟨v, hv, rv⟩ := r.get hd'
    refine ⟨v, ?_, rv⟩
    unfold L2.start
    rw [List.getElem?_append_left (by simpa [← hl] using hi), List.getElem?_map, hv]
    rfl
  · rw [List.getElem?_append_right (by simpa using hi), List.getElem?_replicate] at e
    split at e <;> cases e
end G
/-! G2: judgements over data, and how the layer's rules are lifted to them. -/
namespace G
open PySem PySem.Spec PyProof.Rows L2

abbrev QD := D → HpD → Prop
abbrev QDs := List D → HpD → Prop
abbrev QB := Bool → HpD → Prop
abbrev TED := EnvD → HpD → QD → Prop
abbrev TTD := EnvD → HpD → QB → Prop
abbrev TAD := EnvD → HpD → QDs → Prop
/-- an exception of the package: its class, its attribute's name, the thing -/
abbrev XD := Addr → Str → D → HpD → Prop
structure EndsD where
  nx : EnvD → HpD → Prop
  rt : QD
  bk : EnvD → HpD → Prop := fun _ _ => False
  ct : EnvD → HpD → Prop := fun _ _ => False
abbrev TSD := EndsD → EnvD → HpD → Prop

section
variable (K : PySem.W.Frag) (H : Hp)
def post (Q : QD) : VK := fun v H' => ∃ d hd, Tx H H' ∧ Rv K H' d v ∧ RH K H' hd ∧ Q d hd
def postB (Q : QB) : Bool → Hp → Prop := fun b H' => ∃ hd, Tx H H' ∧ RH K H' hd ∧ Q b hd
def postA (Q : QDs) : List V → Hp → Prop := fun vs H' => ∃ ds hd, Tx H H' ∧ Rvs K H' ds vs ∧ RH K H' hd ∧ Q ds hd
def postS (Q : EnvD → HpD → Prop) : L2.St → Hp → Prop := fun σ H' => ∃ env hd, Tx H H' ∧ RS K σ H' env ∧ RH K H' hd ∧ Q env hd
def ends (D : EndsD) : Ends := { nx := postS K H D.nx, rt := post K H D.rt, bk := postS K H D.bk, ct := postS K H D.ct }
end
section
variable {K : PySem.W.Frag} {H H1 H' : Hp}
theorem post.tr (t : Tx H H1) {Q : QD} {v : V} (h : post K H1 Q v H') : post K H Q v H' :=
  let ⟨d, hd, t', r, rh, q⟩ := h
  ⟨d, hd, t.trans t', r, rh, q⟩
theorem postB.tr (t : Tx H H1) {Q : QB} {b : Bool} (h : postB K H1 Q b H') : postB K H Q b H' :=
  let ⟨hd, t', rh, q⟩ := h
  ⟨hd, t.trans t', rh, q⟩
theorem postA.tr (t : Tx H H1) {Q : QDs} {vs : List V} (h : postA K H1 Q vs H') : postA K H Q vs H' :=
  let ⟨d, hd, t', r, rh, q⟩ := h
  ⟨d, hd, t.trans t', r, rh, q⟩
theorem postS.tr (t : Tx H H1) {Q : EnvD → HpD → Prop} {σ : L2.St} (h : postS K H1 Q σ H') : postS K H Q σ H' :=
  let ⟨d, hd, t', r, rh, q⟩ := h
  ⟨d, hd, t.trans t', r, rh, q⟩
end

/-! ### the weakest readings -/
section
variable (X : Cx)
def wE (e : Expr) : TE := fun σ H Q => ∀ pins s, Inv X pins σ H s → wpAny (model X.prog X.w) X.A (eval e X.env) (EP X pins σ Q) X.xe s
def wT (e : Expr) : TT := fun σ H Q => ∀ pins s, Inv X pins σ H s → wpAny (model X.prog X.w) X.A (isTrue e X.env (eval e X.env)) (TP X pins σ Q) X.xe s
def wW (e : Expr) : TT := fun σ H Q => ∀ whole pins s, Inv X pins σ H s → wpAny (model X.prog X.w) X.A (isTrue e X.env whole) (TP X pins σ Q) X.xe s
def wA (es : List Expr) : TA := fun σ H Q => ∀ pos pins s, Inv X pins σ H s → wpAny (model X.prog X.w) X.A (spliced (backTo pos (starEach es X.env))) (AP X pins σ Q) X.xe s
def wS (st : Stmt) : TS := fun D σ H => ∀ pins s, Inv X pins σ H s → wpAny (model X.prog X.w) X.A (exec st X.env) (SP X pins D) X.xe s
def wSs (st : List Stmt) : TS := fun D σ H => ∀ pins s, Inv X pins σ H s → wpAny (model X.prog X.w) X.A (execs st X.env) (SP X pins D) X.xe s
end
section
variable {X : Cx} {e : Expr} {es : List Expr} {st : Stmt} {sts : List Stmt}
theorem pe_w : PE X e (wE X e) := ⟨fun pins s _ _ _ I h => h pins s I⟩
theorem pt_w : PT X e (wT X e) := ⟨fun pins s _ _ _ I h => h pins s I⟩
theorem pw_w : PW X e (wW X e) := ⟨fun wh pins s _ _ _ I h => h wh pins s I⟩
theorem pa_w : PA X es (wA X es) := ⟨fun pos pins s _ _ _ I h => h pos pins s I⟩
theorem ps_w : PS X st (wS X st) := ⟨fun pins s _ _ _ I h => h pins s I⟩
theorem pss_w : PSs X sts (wSs X sts) := ⟨fun pins s _ _ _ I h => h pins s I⟩
theorem wE.mono {σ : L2.St} {H : Hp} {Q Q' : VK} (h : wE X e σ H Q) (k : ∀ v H', Q v H' → Q' v H') : wE X e σ H Q' :=
  fun pins s I => thn (h pins s I) fun _ _ ⟨v, H', I', r, q⟩ => ⟨v, H', I', r, k v H' q⟩
theorem wT.mono {σ : L2.St} {H : Hp} {Q Q' : Bool → Hp → Prop} (h : wT X e σ H Q) (k : ∀ v H', Q v H' → Q' v H') : wT X e σ H Q' :=
  fun pins s I => thn (h pins s I) fun _ _ ⟨H', I', q⟩ => ⟨H', I', k _ H' q⟩
theorem wW.mono {σ : L2.St} {H : Hp} {Q Q' : Bool → Hp → Prop} (h : wW X e σ H Q) (k : ∀ v H', Q v H' → Q' v H') : wW X e σ H Q' :=
  fun wh pins s I => thn (h wh pins s I) fun _ _ ⟨H', I', q⟩ => ⟨H', I', k _ H' q⟩
theorem wA.mono {σ : L2.St} {H : Hp} {Q Q' : List V → Hp → Prop} (h : wA X es σ H Q) (k : ∀ v H', Q v H' → Q' v H') : wA X es σ H Q' :=
  fun pos pins s I => thn (h pos pins s I) fun _ _ ⟨v, H', I', r, q⟩ => ⟨v, H', I', r, k v H' q⟩
theorem sp_mono {pins : List (Addr × Obj)} {D D' : Ends} {f : Flow} {s : Shared} (h : SP X pins D f s) (h1 : ∀ σ H, D.nx σ H → D'.nx σ H) (h2 : ∀ v H, D.rt v H → D'.rt v H)
    (h3 : ∀ σ H, D.bk σ H → D'.bk σ H) (h4 : ∀ σ H, D.ct σ H → D'.ct σ H) : SP X pins D' f s := by
  cases f with
  | next => obtain ⟨σ, H, I, q⟩ := h; exact ⟨σ, H, I, h1 _ _ q⟩
  | brk => obtain ⟨σ, H, I, q⟩ := h; exact ⟨σ, H, I, h3 _ _ q⟩
  | cont => obtain ⟨σ, H, I, q⟩ := h; exact ⟨σ, H, I, h4 _ _ q⟩
  | ret u => obtain ⟨v, σ, H, I, r, q⟩ := h; exact ⟨v, σ, H, I, r, h2 _ _ q⟩
theorem wS.mono {σ : L2.St} {H : Hp} {D D' : Ends} (h : wS X st D σ H) (h1 : ∀ σ H, D.nx σ H → D'.nx σ H) (h2 : ∀ v H, D.rt v H → D'.rt v H)
    (h3 : ∀ σ H, D.bk σ H → D'.bk σ H) (h4 : ∀ σ H, D.ct σ H → D'.ct σ H) : wS X st D' σ H :=
  fun pins s I => thn (h pins s I) fun _ _ q => sp_mono q h1 h2 h3 h4
theorem wSs.mono {σ : L2.St} {H : Hp} {D D' : Ends} (h : wSs X sts D σ H) (h1 : ∀ σ H, D.nx σ H → D'.nx σ H) (h2 : ∀ v H, D.rt v H → D'.rt v H)
    (h3 : ∀ σ H, D.bk σ H → D'.bk σ H) (h4 : ∀ σ H, D.ct σ H → D'.ct σ H) : wSs X sts D' σ H :=
  fun pins s I => thn (h pins s I) fun _ _ q => sp_mono q h1 h2 h3 h4
end

/-! ### the judgements over data -/
structure PD (X : Cx) (e : Expr) (t : TED) : Prop where
  w : ∀ (σ : L2.St) (H : Hp) (env : EnvD) (hd : HpD) (Q : QD), RS X.K σ H env → RH X.K H hd → t env hd Q → wE X e σ H (post X.K H Q)
structure PTD (X : Cx) (e : Expr) (t : TTD) : Prop where
  w : ∀ (σ : L2.St) (H : Hp) (env : EnvD) (hd : HpD) (Q : QB), RS X.K σ H env → RH X.K H hd → t env hd Q → wT X e σ H (postB X.K H Q)
structure PWD (X : Cx) (e : Expr) (t : TTD) : Prop where
  w : ∀ (σ : L2.St) (H : Hp) (env : EnvD) (hd : HpD) (Q : QB), RS X.K σ H env → RH X.K H hd → t env hd Q → wW X e σ H (postB X.K H Q)
structure PAD (X : Cx) (es : List Expr) (t : TAD) : Prop where
  w : ∀ (σ : L2.St) (H : Hp) (env : EnvD) (hd : HpD) (Q : QDs), RS X.K σ H env → RH X.K H hd → t env hd Q → wA X es σ H (postA X.K H Q)
structure PSD (X : Cx) (st : Stmt) (t : TSD) : Prop where
  w : ∀ (σ : L2.St) (H : Hp) (env : EnvD) (hd : HpD) (D : EndsD), RS X.K σ H env → RH X.K H hd → t D env hd → wS X st (ends X.K H D) σ H
structure PSsD (X : Cx) (st : List Stmt) (t : TSD) : Prop where
  w : ∀ (σ : L2.St) (H : Hp) (env : EnvD) (hd : HpD) (D : EndsD), RS X.K σ H env → RH X.K H hd → t D env hd → wSs X st (ends X.K H D) σ H

section
variable {X : Cx} {e : Expr} {es : List Expr} {st : Stmt} {sts : List Stmt}
/-- from a rule of the layer below -/
theorem PD.of {t : TED} {t0 : TE} (h0 : PE X e t0) (h : ∀ (σ : L2.St) (H : Hp) (env : EnvD) (hd : HpD) (Q : QD), RS X.K σ H env → RH X.K H hd → t env hd Q → t0 σ H (post X.K H Q)) : PD X e t :=
  ⟨fun σ H env hd Q rs rh q pins s I => h0.run pins s σ H _ I (h σ H env hd Q rs rh q)⟩
theorem PTD.of {t : TTD} {t0 : TT} (h0 : PT X e t0) (h : ∀ (σ : L2.St) (H : Hp) (env : EnvD) (hd : HpD) (Q : QB), RS X.K σ H env → RH X.K H hd → t env hd Q → t0 σ H (postB X.K H Q)) : PTD X e t :=
  ⟨fun σ H env hd Q rs rh q pins s I => h0.run pins s σ H _ I (h σ H env hd Q rs rh q)⟩
theorem PWD.of {t : TTD} {t0 : TT} (h0 : PW X e t0) (h : ∀ (σ : L2.St) (H : Hp) (env : EnvD) (hd : HpD) (Q : QB), RS X.K σ H env → RH X.K H hd → t env hd Q → t0 σ H (postB X.K H Q)) : PWD X e t :=
  ⟨fun σ H env hd Q rs rh q wh pins s I => h0.run wh pins s σ H _ I (h σ H env hd Q rs rh q)⟩
theorem PAD.of {t : TAD} {t0 : TA} (h0 : PA X es t0) (h : ∀ (σ : L2.St) (H : Hp) (env : EnvD) (hd : HpD) (Q : QDs), RS X.K σ H env → RH X.K H hd → t env hd Q → t0 σ H (postA X.K H Q)) : PAD X es t :=
  ⟨fun σ H env hd Q rs rh q pos pins s I => h0.run pos pins s σ H _ I (h σ H env hd Q rs rh q)⟩
theorem PSD.of {t : TSD} {t0 : TS} (h0 : PS X st t0) (h : ∀ (σ : L2.St) (H : Hp) (env : EnvD) (hd : HpD) (D : EndsD), RS X.K σ H env → RH X.K H hd → t D env hd → t0 (ends X.K H D) σ H) : PSD X st t :=
  ⟨fun σ H env hd D rs rh q pins s I => h0.run pins s σ H _ I (h σ H env hd D rs rh q)⟩
theorem PSsD.of {t : TSD} {t0 : TS} (h0 : PSs X sts t0) (h : ∀ (σ : L2.St) (H : Hp) (env : EnvD) (hd : HpD) (D : EndsD), RS X.K σ H env → RH X.K H hd → t D env hd → t0 (ends X.K H D) σ H) : PSsD X sts t :=
  ⟨fun σ H env hd D rs rh q pins s I => h0.run pins s σ H _ I (h σ H env hd D rs rh q)⟩
theorem PWD.pt {t : TTD} (h : PWD X e t) : PTD X e t := ⟨fun σ H env hd Q rs rh q pins s I => h.w σ H env hd Q rs rh q _ pins s I⟩
end

/-! ### operations by values -/
abbrev R2D := D → D → HpD → QD → Prop
def OpD (X : Cx) (f : Value → Value → Sem Value) (r : R2D) : Prop :=
  ∀ (pins : List (Addr × Obj)) (s : Shared) (σ : L2.St) (H : Hp) (x y : V) (v u : Value) (d d2 : D) (hd : HpD) (Q : QD), Inv X pins σ H s → RelV x v → RelV y u → Rv X.K H d x → Rv X.K H d2 y → RH X.K H hd → r d d2 hd Q →
    wpAny (model X.prog X.w) X.A (f v u) (EP X pins σ (post X.K H Q)) X.xe s
def CallD (X : Cx) (f : Value) (r : List D → HpD → QD → Prop) : Prop :=
  ∀ (pins : List (Addr × Obj)) (s : Shared) (σ : L2.St) (H : Hp) (xs : List V) (us : List Value) (ds : List D) (hd : HpD) (Q : QD), Inv X pins σ H s → Vals xs us → Rvs X.K H ds xs → RH X.K H hd → r ds hd Q →
    wpAny (model X.prog X.w) X.A (call f us) (EP X pins σ (post X.K H Q)) X.xe s
section
variable {X : Cx}
theorem OpD.of {f : Value → Value → Sem Value} {r : R2D} {r0 : R2} (h0 : OpR X f r0)
    (h : ∀ (H : Hp) (x y : V) (d d2 : D) (hd : HpD) (Q : QD), Rv X.K H d x → Rv X.K H d2 y → RH X.K H hd → r d d2 hd Q → r0 x y H (post X.K H Q)) : OpD X f r :=
  fun pins s σ H x y v u d d2 hd Q I rx ry rd rd2 rh q => h0 pins s σ H x y v u _ I rx ry (h H x y d d2 hd Q rd rd2 rh q)
theorem CallD.of {f : Value} {r : List D → HpD → QD → Prop} {r0 : List V → Hp → VK → Prop} (h0 : CallR X f r0)
    (h : ∀ (H : Hp) (xs : List V) (ds : List D) (hd : HpD) (Q : QD), Rvs X.K H ds xs → RH X.K H hd → r ds hd Q → r0 xs H (post X.K H Q)) : CallD X f r :=
  fun pins s σ H xs us ds hd Q I rx rd rh q => h0 pins s σ H xs us _ I rx (h H xs ds hd Q rd rh q)
/-- by cases of the reading -/
theorem OpD.or {f : Value → Value → Sem Value} {r r' r2 : R2D} (h : OpD X f r) (h' : OpD X f r') (k : ∀ d d2 hd Q, r2 d d2 hd Q → r d d2 hd Q ∨ r' d d2 hd Q) : OpD X f r2 :=
  fun pins s σ H x y v u d d2 hd Q I rx ry rd rd2 rh q => (k d d2 hd Q q).elim
    (fun q => h pins s σ H x y v u d d2 hd Q I rx ry rd rd2 rh q) fun q => h' pins s σ H x y v u d d2 hd Q I rx ry rd rd2 rh q
theorem CallD.or {f : Value} {r r' r2 : List D → HpD → QD → Prop} (h : CallD X f r) (h' : CallD X f r') (k : ∀ ds hd Q, r2 ds hd Q → r ds hd Q ∨ r' ds hd Q) : CallD X f r2 :=
  fun pins s σ H xs us ds hd Q I rx rd rh q => (k ds hd Q q).elim (fun q => h pins s σ H xs us ds hd Q I rx rd rh q) fun q => h' pins s σ H xs us ds hd Q I rx rd rh q
theorem post_mk {K : PySem.W.Frag} {H : Hp} {hd : HpD} {Q : QD} {d : D} {v : V} (r : Rv K H d v) (rh : RH K H hd) (q : Q d hd) : post K H Q v H := ⟨d, hd, .refl, r, rh, q⟩

/-! ### names, constants -/
variable {e a b c : Expr} {es : List Expr} {pos : Pos}
def dVar (i : Nat) : TED := fun env hd Q => match env[i]? with
  | some (some d) => Q d hd
  | _ => False
def dC (d : D) : TED := fun _ hd Q => Q d hd
theorem pd_var {i : Nat} (h : PE X e (tVar i)) : PD X e (dVar i) := .of h fun σ H env hd Q rs rh q => by
  unfold dVar at q
  split at q
  · rename_i d he
    obtain ⟨v, hv, r⟩ := rs.at_ _ _ he
    exact ⟨v, hv, post_mk r rh q⟩
  · exact q.elim
theorem pd_int {i : Int} {j : Nat} : PD X (.Constant (.int i) j pos) (dC (.int i)) := .of pe_int fun σ H env hd Q rs rh q => post_mk (by simp only [Rv]) rh q
theorem pd_bl {i : Bool} {j : Nat} : PD X (.Constant (.bool i) j pos) (dC (.bl i)) := .of pe_bl fun σ H env hd Q rs rh q => post_mk (by simp only [Rv]) rh q
theorem pd_non {j : Nat} : PD X (.Constant .none j pos) (dC .non) := .of pe_non fun σ H env hd Q rs rh q => post_mk (by simp only [Rv]) rh q
theorem pd_str {i : Str} {j : Nat} : PD X (.Constant (.str i) j pos) (dC (.str i)) := .of pe_str fun σ H env hd Q rs rh q => post_mk (by simp only [Rv]) rh q
/-- a name of the module that holds plain data -/
theorem pd_glob {v : V} {d : D} (h : PE X e (tC v)) (r : ∀ H, Rv X.K H d v) : PD X e (dC d) := .of h fun σ H env hd Q rs rh q => post_mk (r H) rh q

/-! ### two places -/
def dOp (r : R2D) (ta tb : TED) : TED := fun env hd Q => ta env hd fun x h1 => tb env h1 fun y h2 => r x y h2 Q
theorem bin_d {ta tb : TED} (ha : PD X a ta) (hb : PD X b tb) {σ : L2.St} {H : Hp} {env : EnvD} {hd : HpD} {R : D → D → HpD → Prop} (rs : RS X.K σ H env) (rh : RH X.K H hd)
    (h : ta env hd fun x h1 => tb env h1 fun y h2 => R x y h2) :
    wE X a σ H fun x H1 => wE X b σ H1 fun y H2 => ∃ d d2 hd2, Tx H H2 ∧ Rv X.K H2 d x ∧ Rv X.K H2 d2 y ∧ RH X.K H2 hd2 ∧ R d d2 hd2 := by
  refine (ha.w σ H env hd _ rs rh h).mono fun x H1 ⟨d, h1, t1, r1, rh1, q1⟩ => ?_
  refine (hb.w σ H1 env h1 _ (rs.mono t1) rh1 q1).mono fun y H2 ⟨d2, h2, t2, r2, rh2, q2⟩ => ?_
  exact ⟨d, d2, h2, t1.trans t2, r1.mono t2, r2, rh2, q2⟩
/-- what a two-place operation by values gives behind both -/
def opU (X : Cx) (f : Value → Value → Sem Value) : R2 := fun x y H Q => ∀ pins s σ v u, Inv X pins σ H s → RelV x v → RelV y u → wpAny (model X.prog X.w) X.A (f v u) (EP X pins σ Q) X.xe s
theorem op_u {f : Value → Value → Sem Value} : OpR X f (opU X f) := fun pins s σ H x y v u Q I rx ry h => h pins s σ v u I rx ry
theorem opU_of {f : Value → Value → Sem Value} {r : R2D} (ho : OpD X f r) {H H2 : Hp} {x y : V} {d d2 : D} {hd : HpD} {Q : QD} (t : Tx H H2) (r1 : Rv X.K H2 d x) (r2 : Rv X.K H2 d2 y) (rh : RH X.K H2 hd) (q : r d d2 hd Q) : opU X f x y H2 (post X.K H Q) :=
  fun pins s σ v u I rx ry => thn (ho pins s σ H2 x y v u d d2 hd Q I rx ry r1 r2 rh q) fun _ _ ⟨v', H', I', r', q'⟩ => ⟨v', H', I', r', q'.tr t⟩
theorem pd_op {op : Operator} {r : R2D} {ta tb : TED} (ho : OpD X (binaryOp op) r) (ha : PD X a ta) (hb : PD X b tb) : PD X (.BinOp a op b pos) (dOp r ta tb) :=
  .of (pe_op op_u pe_w pe_w) fun σ H env hd Q rs rh q => (bin_d ha hb rs rh q).mono fun x H1 q1 => q1.mono fun y H2 ⟨d, d2, hd2, t, r1, r2, rh2, q2⟩ => opU_of ho t r1 r2 rh2 q2
theorem pd_cmp {op : CmpOp} {r : R2D} {ta tb : TED} (ho : OpD X (compareOp op) r) (hm : behindInMarks op b = false) (ha : PD X a ta) (hb : PD X b tb) : PD X (.Compare a [op] [b] pos) (dOp r ta tb) :=
  .of (pe_cmpR op_u pe_w pe_w hm) fun σ H env hd Q rs rh q => (bin_d ha hb rs rh q).mono fun x H1 q1 => q1.mono fun y H2 ⟨d, d2, hd2, t, r1, r2, rh2, q2⟩ => opU_of ho t r1 r2 rh2 q2
/-- .. as a test: a bool comes -/
def onB (Q : QB) : QD := fun d hd => match d with
  | .bl k => Q k hd
  | _ => False
theorem post_onB {K : PySem.W.Frag} {H H' : Hp} {Q : QB} {x : V} (h : post K H (onB Q) x H') : ∃ k, x = .bl k ∧ postB K H Q k H' := by
  obtain ⟨d, hd, t, r, rh, q⟩ := h
  cases d <;> simp only [onB] at q
  simp only [Rv] at r
  exact ⟨_, r, hd, t, rh, q⟩
def dTest (r : R2D) (ta tb : TED) : TTD := fun env hd Q => ta env hd fun x h1 => tb env h1 fun y h2 => r x y h2 (onB Q)
theorem ptd_cmp {op : CmpOp} {r : R2D} {ta tb : TED} (ho : OpD X (compareOp op) r) (hm : behindInMarks op b = false) (ha : PD X a ta) (hb : PD X b tb) : PTD X (.Compare a [op] [b] pos) (dTest r ta tb) :=
  .of (pt_cmpR op_u pe_w pe_w hm) fun σ H env hd Q rs rh q => (bin_d ha hb rs rh q).mono fun x H1 q1 => q1.mono fun y H2 ⟨d, d2, hd2, t, r1, r2, rh2, q2⟩ =>
    fun pins s σ' v u I rx ry => thn (opU_of ho t r1 r2 rh2 q2 pins s σ' v u I rx ry) fun _ _ ⟨v', H', I', r', q'⟩ => ⟨v', H', I', r', post_onB q'⟩

/-! ### truth -/
def truD : D → HpD → QB → Prop
  | .non, hd, Q => Q false hd
  | .bl k, hd, Q => Q k hd
  | .int i, hd, Q => Q (i != 0) hd
  | .tup xs, hd, Q => xs.length ≤ sizeLine ∧ Q (!xs.isEmpty) hd
  | .ref a, hd, Q => ∃ xs, hd a = some (.lst xs) ∧ Q (!xs.isEmpty) hd
  | .str x, hd, Q => x.length ≤ sizeLine ∧ Q ((x.length : Int) != 0) hd
  | _, _, _ => False
theorem Rvs.empty {K : PySem.W.Frag} {H : Hp} {ds : List D} {vs : List V} (h : Rvs K H ds vs) : ds.isEmpty = vs.isEmpty := by
  cases ds with
  | nil => simp only [Rvs] at h; subst h; rfl
  | cons d ds => simp only [Rvs] at h; obtain ⟨v, vs, rfl, _⟩ := h; rfl
theorem truV_of {K : PySem.W.Frag} {H : Hp} {d : D} {x : V} {hd : HpD} {Q : QB} (r : Rv K H d x) (rh : RH K H hd) (q : truD d hd Q) : ∃ k, TruV K x H k ∧ postB K H Q k H := by
  cases d with
  | non => simp only [Rv] at r; subst r; exact ⟨false, rfl, hd, .refl, rh, q⟩
  | bl k => simp only [Rv] at r; subst r; exact ⟨k, rfl, hd, .refl, rh, q⟩
  | int i => simp only [Rv] at r; subst r; exact ⟨_, rfl, hd, .refl, rh, q⟩
  | str x => simp only [Rv] at r; subst r; obtain ⟨h1, q⟩ := q; exact ⟨_, ⟨h1, rfl⟩, hd, .refl, rh, q⟩
  | tup ds =>
    simp only [Rv] at r
    obtain ⟨a, xs, rfl, ht, rs⟩ := r
    obtain ⟨hz, q⟩ := q
    refine ⟨!ds.isEmpty, .inr (.inl ⟨xs, ht, ?_⟩), hd, .refl, rh, q⟩
    rw [rs.empty]
  | ref a =>
    simp only [Rv] at r
    subst r
    obtain ⟨xs, he, q⟩ := q
    obtain ⟨vs, hv, rs⟩ := rh a _ he
    refine ⟨!xs.isEmpty, .inl ⟨vs, .of hv, ?_⟩, hd, .refl, rh, q⟩
    rw [rs.empty]
  | rl ds => exact q.elim
  | ty n => exact q.elim
def dTruth (ta : TED) : TTD := fun env hd Q => ta env hd fun x h1 => truD x h1 Q
theorem ptd_truth {ta : TED} (ha : PD X a ta) (he : ∀ whole, isTrue a X.env whole = (do let v ← whole; standAt a.pos; holding [v] (truthy v)) := by intro _; rfl) : PTD X a (dTruth ta) :=
  .of (pt_truth pe_w he) fun σ H env hd Q rs rh q => (ha.w σ H env hd _ rs rh q).mono fun x H1 ⟨d, h1, t1, r1, rh1, q1⟩ => by
    obtain ⟨k, hk, q'⟩ := truV_of r1 rh1 q1
    exact ⟨k, hk, q'.tr t1⟩

/-! ### and, or, not -/
/-- both ways of a test -/
def ifP (k : Bool) (A B : Prop) : Prop := (k = true → A) ∧ (k = false → B)
def dAnd (ta tb : TTD) : TTD := fun env hd Q => ta env hd fun k h1 => ifP k (tb env h1 Q) (Q false h1)
def dOr (ta tb : TTD) : TTD := fun env hd Q => ta env hd fun k h1 => ifP k (Q true h1) (tb env h1 Q)
def dNot (ta : TTD) : TTD := fun env hd Q => ta env hd fun k h1 => Q (!k) h1
variable {rest : List Expr} {tA tB : TTD}
theorem pwd_and1 (ha : PTD X a tA) : PWD X (.BoolOp .And [a] pos) tA := .of (pw_and1 pt_w) fun σ H env hd Q rs rh q => ha.w σ H env hd Q rs rh q
theorem pwd_or1 (ha : PTD X a tA) : PWD X (.BoolOp .Or [a] pos) tA := .of (pw_or1 pt_w) fun σ H env hd Q rs rh q => ha.w σ H env hd Q rs rh q
theorem pwd_and (ha : PTD X a tA) (hb : PWD X (.BoolOp .And (b :: rest) pos) tB) : PWD X (.BoolOp .And (a :: b :: rest) pos) (dAnd tA tB) :=
  .of (pw_and pt_w pw_w) fun σ H env hd Q rs rh q => (ha.w σ H env hd _ rs rh q).mono fun k H1 ⟨h1, t1, rh1, q1⟩ => by
    cases k with
    | true => exact (hb.w σ H1 env h1 Q (rs.mono t1) rh1 (q1.1 rfl)).mono fun _ _ z => z.tr t1
    | false => exact ⟨h1, t1, rh1, q1.2 rfl⟩
theorem pwd_or (ha : PTD X a tA) (hb : PWD X (.BoolOp .Or (b :: rest) pos) tB) : PWD X (.BoolOp .Or (a :: b :: rest) pos) (dOr tA tB) :=
  .of (pw_or pt_w pw_w) fun σ H env hd Q rs rh q => (ha.w σ H env hd _ rs rh q).mono fun k H1 ⟨h1, t1, rh1, q1⟩ => by
    cases k with
    | false => exact (hb.w σ H1 env h1 Q (rs.mono t1) rh1 (q1.2 rfl)).mono fun _ _ z => z.tr t1
    | true => exact ⟨h1, t1, rh1, q1.1 rfl⟩
theorem ptd_not (ha : PTD X a tA) : PTD X (.UnaryOp .Not a pos) (dNot tA) := .of (pt_not pt_w) fun σ H env hd Q rs rh q => (ha.w σ H env hd _ rs rh q).mono fun k H1 ⟨h1, t1, rh1, q1⟩ => ⟨h1, t1, rh1, q1⟩
/-- as values, bools -/
def dAndV (ta tb : TED) : TED := fun env hd Q => ta env hd fun x h1 => onB (fun k h => ifP k (tb env h Q) (Q (.bl false) h)) x h1
def dOrV (ta tb : TED) : TED := fun env hd Q => ta env hd fun x h1 => onB (fun k h => ifP k (Q (.bl true) h) (tb env h Q)) x h1
def dNotV (ta : TED) : TED := fun env hd Q => ta env hd fun x h1 => onB (fun k h => Q (.bl (!k)) h) x h1
variable {ta tb tc : TED}
theorem pd_one {op : BoolOp} (h : PD X a ta) : PD X (.BoolOp op [a] pos) ta := .of (pe_one pe_w) fun σ H env hd Q rs rh q => h.w σ H env hd Q rs rh q
theorem pd_and (ha : PD X a ta) (hb : PD X (.BoolOp .And (b :: rest) pos) tb) : PD X (.BoolOp .And (a :: b :: rest) pos) (dAndV ta tb) :=
  .of (pe_and pe_w pe_w) fun σ H env hd Q rs rh q => (ha.w σ H env hd _ rs rh q).mono fun x H1 q1 => by
    obtain ⟨k, e, h1, t1, rh1, q1⟩ := post_onB q1
    refine ⟨k, e, ?_⟩
    cases k with
    | true => exact (hb.w σ H1 env h1 Q (rs.mono t1) rh1 (q1.1 rfl)).mono fun _ _ z => z.tr t1
    | false => exact ⟨.bl false, h1, t1, (by simp only [Rv]), rh1, q1.2 rfl⟩
theorem pd_or (ha : PD X a ta) (hb : PD X (.BoolOp .Or (b :: rest) pos) tb) : PD X (.BoolOp .Or (a :: b :: rest) pos) (dOrV ta tb) :=
  .of (pe_or pe_w pe_w) fun σ H env hd Q rs rh q => (ha.w σ H env hd _ rs rh q).mono fun x H1 q1 => by
    obtain ⟨k, e, h1, t1, rh1, q1⟩ := post_onB q1
    refine ⟨k, e, ?_⟩
    cases k with
    | false => exact (hb.w σ H1 env h1 Q (rs.mono t1) rh1 (q1.2 rfl)).mono fun _ _ z => z.tr t1
    | true => exact ⟨.bl true, h1, t1, (by simp only [Rv]), rh1, q1.1 rfl⟩
theorem pd_not (ha : PD X a ta) : PD X (.UnaryOp .Not a pos) (dNotV ta) :=
  .of (pe_not pe_w) fun σ H env hd Q rs rh q => (ha.w σ H env hd _ rs rh q).mono fun x H1 q1 => by
    obtain ⟨k, e, h1, t1, rh1, q1⟩ := post_onB q1
    exact ⟨k, e, .bl (!k), h1, t1, (by simp only [Rv]), rh1, q1⟩
def dIf (t : TTD) (ta tb : TED) : TED := fun env hd Q => t env hd fun k h1 => ifP k (ta env h1 Q) (tb env h1 Q)
theorem pd_if (hc : PTD X c tA) (ha : PD X a ta) (hb : PD X b tb) : PD X (.IfExp c a b pos) (dIf tA ta tb) :=
  .of (pe_ifExp pt_w pe_w pe_w) fun σ H env hd Q rs rh q => (hc.w σ H env hd _ rs rh q).mono fun k H1 ⟨h1, t1, rh1, q1⟩ => by
    cases k with
    | true => exact (ha.w σ H1 env h1 Q (rs.mono t1) rh1 (q1.1 rfl)).mono fun _ _ z => z.tr t1
    | false => exact (hb.w σ H1 env h1 Q (rs.mono t1) rh1 (q1.2 rfl)).mono fun _ _ z => z.tr t1

/-- .. by what both ways give -/
def dIfM (t : TTD) (ta tb : TED) : TED := fun env hd Q => ∃ J : D → HpD → Prop, (∀ x h, J x h → Q x h) ∧ ∀ N : QD, (∀ x h, J x h → N x h) → dIf t ta tb env hd N
theorem pd_ifM (hc : PTD X c tA) (ha : PD X a ta) (hb : PD X b tb) : PD X (.IfExp c a b pos) (dIfM tA ta tb) :=
  ⟨fun σ H env hd Q rs rh ⟨J, k, h⟩ => (pd_if hc ha hb).w σ H env hd Q rs rh (h Q k)⟩

/-! ### one place; lists of arguments; displays -/
def dUn (r : D → HpD → QD → Prop) (ta : TED) : TED := fun env hd Q => ta env hd fun x h1 => r x h1 Q
def negD : D → HpD → QD → Prop
  | .int i, hd, Q => Q (.int (-i)) hd
  | _, _, _ => False
theorem pd_neg (ha : PD X a ta) : PD X (.UnaryOp .USub a pos) (dUn negD ta) :=
  .of (pe_un un_neg pe_w) fun σ H env hd Q rs rh q => (ha.w σ H env hd _ rs rh q).mono fun x H1 ⟨d, h1, t1, r1, rh1, q1⟩ => by
    cases d <;> simp only [negD] at q1
    simp only [Rv] at r1
    exact ⟨_, r1, .int _, h1, t1, (by simp only [Rv]), rh1, q1⟩
def dNil : TAD := fun _ hd Q => Q [] hd
def dCons (ta : TED) (tr : TAD) : TAD := fun env hd Q => ta env hd fun x h1 => tr env h1 fun xs h2 => Q (x :: xs) h2
variable {tr : TAD}
theorem pad_nil : PAD X [] dNil := .of pa_nil fun σ H env hd Q rs rh q => ⟨[], hd, .refl, rvs_nil, rh, q⟩
theorem pad_cons (ha : PD X a ta) (hr : PAD X es tr) (hs : starEach (a :: es) X.env = (false, eval a X.env) :: starEach es X.env := by rfl) : PAD X (a :: es) (dCons ta tr) :=
  .of (pa_cons pe_w pa_w hs) fun σ H env hd Q rs rh q => (ha.w σ H env hd _ rs rh q).mono fun x H1 ⟨d, h1, t1, r1, rh1, q1⟩ =>
    (hr.w σ H1 env h1 _ (rs.mono t1) rh1 q1).mono fun vs H2 ⟨ds, h2, t2, r2, rh2, q2⟩ => ⟨d :: ds, h2, t1.trans t2, rvs_cons (r1.mono t2) r2, rh2, q2⟩
def dTup (t : TAD) : TED := fun env hd Q => t env hd fun ds h1 => ds.length ≤ sizeLine ∧ Q (.tup ds) h1
theorem pd_tup {k : Nat} (h : PAD X es tr) : PD X (.Tuple es k pos) (dTup tr) :=
  .of (pe_tup pa_w) fun σ H env hd Q rs rh q => (h.w σ H env hd _ rs rh q).mono fun vs H1 ⟨ds, h1, t1, r1, rh1, hz, q1⟩ => ⟨by rw [← r1.len]; exact hz, fun p hp =>
    ⟨.tup ds, h1, t1.trans (.new hp), (by simp only [Rv]; exact ⟨p, vs, rfl, .of upd_same, r1.mono (.new hp)⟩), rh1.more hp, q1⟩⟩
def dLst (t : TAD) : TED := fun env hd Q => t env hd fun ds h1 => ds.length ≤ sizeLine ∧ ∀ p, h1 p = none → Q (.ref p) (put h1 p (.lst ds))
theorem ro_new {K : PySem.W.Frag} {H : Hp} {p : Addr} {ds : List D} {vs : List V} (hp : H p = none) (r : Rvs K H ds vs) : Ro K (upd H p (.lst vs)) p (.lst ds) := ⟨vs, upd_same, r.mono (.new hp)⟩
theorem pd_lst (h : PAD X es tr) : PD X (.List es pos) (dLst tr) :=
  .of (pe_lst pa_w) fun σ H env hd Q rs rh q => (h.w σ H env hd _ rs rh q).mono fun vs H1 ⟨ds, h1, t1, r1, rh1, hz, q1⟩ => ⟨by rw [← r1.len]; exact hz, fun p hp =>
    ⟨.ref p, put h1 p (.lst ds), t1.trans (.new hp), (by simp only [Rv]), rh1.new hp (ro_new hp r1), q1 p (rh1.none hp)⟩⟩
/-- a call of a built-in -/
def dCB (r : List D → HpD → QD → Prop) (t : TAD) : TED := fun env hd Q => t env hd fun ds h1 => r ds h1 Q
def callU (X : Cx) (f : Value) : List V → Hp → VK → Prop := fun xs H Q => ∀ pins s σ us, Inv X pins σ H s → Vals xs us → wpAny (model X.prog X.w) X.A (call f us) (EP X pins σ Q) X.xe s
theorem call_u {f : Value} : CallR X f (callU X f) := fun pins s σ H xs us Q I r h => h pins s σ us I r
theorem callU_of {f : Value} {r : List D → HpD → QD → Prop} (hc : CallD X f r) {H H1 : Hp} {vs : List V} {ds : List D} {hd : HpD} {Q : QD} (t : Tx H H1) (r1 : Rvs X.K H1 ds vs) (rh : RH X.K H1 hd) (q : r ds hd Q) : callU X f vs H1 (post X.K H Q) :=
  fun pins s σ us I rv => thn (hc pins s σ H1 vs us ds hd Q I rv r1 rh q) fun _ _ ⟨v', H', I', r', q'⟩ => ⟨v', H', I', r', q'.tr t⟩
theorem pd_cb {r : List D → HpD → QD → Prop} {f : Value} (hc : CallD X f r) (h0 : PE X e (tCB (callU X f) (wA X es))) (ha : PAD X es tr) : PD X e (dCB r tr) :=
  .of h0 fun σ H env hd Q rs rh q => (ha.w σ H env hd _ rs rh q).mono fun vs H1 ⟨ds, h1, t1, r1, rh1, q1⟩ => callU_of hc t1 r1 rh1 q1
theorem pd_callB {r : List D → HpD → QD → Prop} {x : Str} {id : String} {p : Pos} (hc : CallD X (.builtin id) r) (hg : Gl X x) (hm : X.mg x = none) (hv : bootBuiltins x = some (.builtin id)) (ha : PAD X (a :: es) tr)
    (hn : x ≠ "__name__" := by decide) (hdb : (x == ("__debug__" : Str)) = false := by decide) (he : starEach (a :: es) X.env = (false, eval a X.env) :: starEach es X.env := by rfl) (hpl : (backTo pos (starEach es X.env)).any (·.1) = false := by rfl) :
    PD X (.Call (.Name x p) (a :: es) [] pos) (dCB r tr) := pd_cb hc (pe_callB call_u hg hm hv pa_w hn hdb he hpl) ha
theorem pd_callTy {r : List D → HpD → QD → Prop} {x : Str} {T : String} {p : Pos} (hc : CallD X (.type T) r) (hg : Gl X x) (hm : X.mg x = none) (hv : bootBuiltins x = some (.type T)) (ha : PAD X (a :: es) tr)
    (hn : x ≠ "__name__" := by decide) (hdb : (x == ("__debug__" : Str)) = false := by decide) (he : starEach (a :: es) X.env = (false, eval a X.env) :: starEach es X.env := by rfl) (hpl : (backTo pos (starEach es X.env)).any (·.1) = false := by rfl) :
    PD X (.Call (.Name x p) (a :: es) [] pos) (dCB r tr) := pd_cb hc (pe_callTy call_u hg hm hv pa_w hn hdb he hpl) ha
end
end G
/-! G3: targets, statements, loops, calls of defs, over data. -/
namespace G
open PySem PySem.Spec PyProof.Rows L2

/-! ### targets -/
abbrev TGD := D → EnvD → HpD → (EnvD → HpD → Prop) → Prop
abbrev TGsD := List D → EnvD → HpD → (EnvD → HpD → Prop) → Prop
section
variable (X : Cx)
def wG (tg : Expr) : TG := fun v σ H Q => ∀ pins s u, Inv X pins σ H s → RelV v u → wpAny (model X.prog X.w) X.A (assign tg X.env u) (fun _ s' => ∃ σ' H', Inv X pins σ' H' s' ∧ Q σ' H') X.xe s
def wGs (ts : List Expr) : TGs := fun vs σ H Q => ∀ pins s us, Inv X pins σ H s → Vals vs us → wpAny (model X.prog X.w) X.A (assignInOrder ((assignEach ts X.env).map (·.2)) us) (fun _ s' => ∃ σ' H', Inv X pins σ' H' s' ∧ Q σ' H') X.xe s
end
section
variable {X : Cx} {tg : Expr} {ts : List Expr}
theorem pg_w : PG X tg (wG X tg) := ⟨fun pins s _ _ _ u _ I r h => h pins s u I r⟩
theorem pgs_w : PGs X ts (wGs X ts) := ⟨fun pins s _ _ _ us _ I r h => h pins s us I r⟩
theorem wG.mono {v : V} {σ : L2.St} {H : Hp} {Q Q' : L2.St → Hp → Prop} (h : wG X tg v σ H Q) (k : ∀ σ H, Q σ H → Q' σ H) : wG X tg v σ H Q' :=
  fun pins s u I r => thn (h pins s u I r) fun _ _ ⟨σ', H', I', q⟩ => ⟨σ', H', I', k _ _ q⟩
theorem wGs.mono {v : List V} {σ : L2.St} {H : Hp} {Q Q' : L2.St → Hp → Prop} (h : wGs X ts v σ H Q) (k : ∀ σ H, Q σ H → Q' σ H) : wGs X ts v σ H Q' :=
  fun pins s u I r => thn (h pins s u I r) fun _ _ ⟨σ', H', I', q⟩ => ⟨σ', H', I', k _ _ q⟩
end
structure PGD (X : Cx) (tg : Expr) (t : TGD) : Prop where
  w : ∀ (σ : L2.St) (H : Hp) (env : EnvD) (hd : HpD) (d : D) (v : V) (Q : EnvD → HpD → Prop), RS X.K σ H env → RH X.K H hd → Rv X.K H d v → t d env hd Q → wG X tg v σ H (postS X.K H Q)
structure PGsD (X : Cx) (ts : List Expr) (t : TGsD) : Prop where
  w : ∀ (σ : L2.St) (H : Hp) (env : EnvD) (hd : HpD) (ds : List D) (vs : List V) (Q : EnvD → HpD → Prop), RS X.K σ H env → RH X.K H hd → Rvs X.K H ds vs → t ds env hd Q → wGs X ts vs σ H (postS X.K H Q)
section
variable {X : Cx} {tg e : Expr} {ts : List Expr} {pos : Pos}
theorem postS_mk {K : PySem.W.Frag} {H : Hp} {σ : L2.St} {env : EnvD} {hd : HpD} {Q : EnvD → HpD → Prop} (rs : RS K σ H env) (rh : RH K H hd) (q : Q env hd) : postS K H Q σ H := ⟨env, hd, .refl, rs, rh, q⟩
theorem PGD.of {t : TGD} {t0 : TG} (h0 : PG X tg t0) (h : ∀ (σ : L2.St) (H : Hp) (env : EnvD) (hd : HpD) (d : D) (v : V) (Q : EnvD → HpD → Prop), RS X.K σ H env → RH X.K H hd → Rv X.K H d v → t d env hd Q → t0 v σ H (postS X.K H Q)) : PGD X tg t :=
  ⟨fun σ H env hd d v Q rs rh r q pins s u I ru => h0.run pins s σ H v u _ I ru (h σ H env hd d v Q rs rh r q)⟩
theorem PGsD.of {t : TGsD} {t0 : TGs} (h0 : PGs X ts t0) (h : ∀ (σ : L2.St) (H : Hp) (env : EnvD) (hd : HpD) (ds : List D) (vs : List V) (Q : EnvD → HpD → Prop), RS X.K σ H env → RH X.K H hd → Rvs X.K H ds vs → t ds env hd Q → t0 vs σ H (postS X.K H Q)) : PGsD X ts t :=
  ⟨fun σ H env hd d v Q rs rh r q pins s u I ru => h0.run pins s σ H v u _ I ru (h σ H env hd d v Q rs rh r q)⟩
def gdName (i : Nat) : TGD := fun d env hd Q => Q (env.set i (some d)) hd
theorem pgd_name {i : Nat} (h : PG X tg (gName i)) : PGD X tg (gdName i) := .of h fun σ H env hd d v Q rs rh r q => postS_mk (rs.set i r) rh q
def gdNil : TGsD := fun ds env hd Q => match ds with
  | [] => Q env hd
  | _ => False
def gdCons (t : TGD) (u : TGsD) : TGsD := fun ds env hd Q => match ds with
  | d :: r => t d env hd fun env' hd' => u r env' hd' Q
  | _ => False
theorem pgsd_nil : PGsD X [] gdNil := .of pgs_nil fun σ H env hd ds vs Q rs rh r q => by
  cases ds with
  | nil => simp only [Rvs] at r; exact ⟨r, postS_mk rs rh q⟩
  | cons _ _ => exact q.elim
theorem pgsd_cons {t : TGD} {u : TGsD} (h1 : PGD X tg t) (h2 : PGsD X ts u) (hs : (assignEach (tg :: ts) X.env).map (·.2) = assign tg X.env :: (assignEach ts X.env).map (·.2) := by rfl) : PGsD X (tg :: ts) (gdCons t u) :=
  .of (pgs_cons pg_w pgs_w hs) fun σ H env hd ds vs Q rs rh r q => by
    cases ds with
    | nil => exact q.elim
    | cons d ds =>
      simp only [Rvs] at r
      obtain ⟨v, vs', rfl, r1, r2⟩ := r
      refine ⟨v, vs', rfl, (h1.w σ H env hd d v _ rs rh r1 q).mono fun σ1 H1 ⟨env1, hd1, t1, rs1, rh1, q1⟩ => ?_⟩
      exact (h2.w σ1 H1 env1 hd1 ds vs' Q rs1 rh1 (r2.mono t1) q1).mono fun σ2 H2 z => z.tr t1
def gdTup (n : Nat) (t : TGsD) : TGD := fun d env hd Q => match d with
  | .tup ds => ds.length = n ∧ t ds env hd Q
  | _ => False
theorem pgd_tup {k n : Nat} {t : TGsD} (hc : X.calm = true) (h : PGsD X ts t) (hn : (assignEach ts X.env).length = n := by rfl) (hst : (assignEach ts X.env).findIdx? (·.1) = none := by rfl) : PGD X (.Tuple ts k pos) (gdTup n t) :=
  .of (pg_tup hc pgs_w hn hst) fun σ H env hd d v Q rs rh r q => by
    cases d with
    | tup ds =>
      obtain ⟨hl, q⟩ := q
      simp only [Rv] at r
      obtain ⟨a, xs, rfl, ht, r⟩ := r
      exact ⟨a, xs, rfl, ht, by rw [← r.len]; exact hl, h.w σ H env hd ds xs Q rs rh r q⟩
    | _ => exact q.elim
/-- o[i] = v, by values -/
def SetD (X : Cx) (r : D → D → D → HpD → (HpD → Prop) → Prop) : Prop :=
  ∀ (pins : List (Addr × Obj)) (s : Shared) (σ : L2.St) (H : Hp) (o i v : V) (ov iv u : Value) (d1 d2 d3 : D) (hd : HpD) (Q : HpD → Prop), Inv X pins σ H s → RelV o ov → RelV i iv → RelV v u → Rv X.K H d1 o → Rv X.K H d2 i → Rv X.K H d3 v → RH X.K H hd → r d1 d2 d3 hd Q →
    wpAny (model X.prog X.w) X.A (setItem ov iv u) (fun _ s' => ∃ H', Inv X pins σ H' s' ∧ ∃ hd', Tx H H' ∧ RH X.K H' hd' ∧ Q hd') X.xe s
def setU (X : Cx) : TSet := fun o i v H Q => ∀ pins s σ ov iv u, Inv X pins σ H s → RelV o ov → RelV i iv → RelV v u → wpAny (model X.prog X.w) X.A (setItem ov iv u) (fun _ s' => ∃ H', Inv X pins σ H' s' ∧ Q H') X.xe s
theorem set_u : PSet X (setU X) := fun pins s σ H o i v ov iv u Q I ro ri rv h => h pins s σ ov iv u I ro ri rv
def gdSub (to ti : TED) (r : D → D → D → HpD → (HpD → Prop) → Prop) : TGD := fun d env hd Q => to env hd fun o h1 => ti env h1 fun i h2 => r o i d h2 fun h3 => Q env h3
theorem pgd_sub {o i : Expr} {to ti : TED} {r : D → D → D → HpD → (HpD → Prop) → Prop} (hs : SetD X r) (ho : PD X o to) (hi : PD X i ti)
    (ha : ∀ v, assign (.Subscript o i pos) X.env v = (do
      let ov ← holding [v] (eval o X.env)
      let iv ← holding [v, ov] (eval i X.env)
      standAt pos
      holding [v, ov, iv] (setItem ov iv v)
      release [v, ov, iv] []) := by intro _; rfl) : PGD X (.Subscript o i pos) (gdSub to ti r) :=
  .of (pg_sub pe_w pe_w set_u ha) fun σ H env hd d v Q rs rh rd q => by
    refine (ho.w σ H env hd _ rs rh q).mono fun x H1 ⟨d1, h1, t1, r1, rh1, q1⟩ => ?_
    refine (hi.w σ H1 env h1 _ (rs.mono t1) rh1 q1).mono fun y H2 ⟨d2, h2, t2, r2, rh2, q2⟩ => ?_
    intro pins s σ' ov iv u I ro ri ru
    have hset := hs pins s σ' H2 x y v ov iv u d1 d2 d h2 (fun h3 => Q env h3) I ro ri ru (r1.mono t2) r2 (rd.mono (t1.trans t2)) rh2 q2
    exact thn hset fun _ s' ⟨H3, I3, h3, t3, rh3, q3⟩ => ⟨H3, I3, env, h3, (t1.trans t2).trans t3, rs.mono ((t1.trans t2).trans t3), rh3, q3⟩
end

/-! ### statements -/
section
variable {X : Cx} {e a b o c tg : Expr} {ts es : List Expr} {pos : Pos} {st : Stmt} {rest sts sts2 : List Stmt} {t u : TSD} {te : TED} {g : TGD}
def dNext : TSD := fun D env hd => D.nx env hd
def dSeq (t u : TSD) : TSD := fun D env hd => t { D with nx := u D } env hd
theorem pssd_nil : PSsD X [] dNext := .of pss_nil fun σ H env hd D rs rh q => postS_mk rs rh q
theorem pssd_cons (h1 : PSD X st t) (h2 : PSsD X rest u) : PSsD X (st :: rest) (dSeq t u) :=
  .of (pss_cons ps_w pss_w) fun σ H env hd D rs rh q => (h1.w σ H env hd _ rs rh q).mono
    (fun σ1 H1 ⟨env1, h1, t1, rs1, rh1, q1⟩ => (h2.w σ1 H1 env1 h1 D rs1 rh1 q1).mono (fun _ _ z => z.tr t1) (fun _ _ z => z.tr t1) (fun _ _ z => z.tr t1) fun _ _ z => z.tr t1)
    (fun _ _ z => z) (fun _ _ z => z) fun _ _ z => z
/-- a statement, by what it leaves to what follows -/
def dSeqM (t u : TSD) : TSD := fun D env hd => ∃ J : EnvD → HpD → Prop, (∀ e h, J e h → u D e h) ∧ ∀ N : EnvD → HpD → Prop, (∀ e h, J e h → N e h) → t { D with nx := N } env hd
theorem pssd_consM (h1 : PSD X st t) (h2 : PSsD X rest u) : PSsD X (st :: rest) (dSeqM t u) :=
  ⟨fun σ H env hd D rs rh ⟨_, tail, head⟩ => (pssd_cons h1 h2).w σ H env hd D rs rh (head _ tail)⟩
theorem pssd_one (h1 : PSD X st t) : PSsD X [st] t := .of (pss_one ps_w) fun σ H env hd D rs rh q => h1.w σ H env hd _ rs rh q
def dBreak : TSD := fun D env hd => D.bk env hd
def dCont : TSD := fun D env hd => D.ct env hd
theorem psd_pass : PSD X (.Pass pos) dNext := .of ps_pass fun σ H env hd D rs rh q => postS_mk rs rh q
theorem psd_break : PSD X (.Break pos) dBreak := .of ps_break fun σ H env hd D rs rh q => postS_mk rs rh q
theorem psd_continue : PSD X (.Continue pos) dCont := .of ps_continue fun σ H env hd D rs rh q => postS_mk rs rh q
def dNever : TSD := fun _ _ _ => False
theorem psd_never : PSD X st dNever := ⟨fun _ _ _ _ _ _ _ q => q.elim⟩
theorem pssd_never : PSsD X sts dNever := ⟨fun _ _ _ _ _ _ _ q => q.elim⟩
def dDrop (te : TED) : TSD := fun D env hd => te env hd fun _ h1 => D.nx env h1
theorem psd_expr (he : PD X e te) (hs : swapsWith e none pos.line X.env = pure false := by rfl) : PSD X (.Expr e pos) (dDrop te) :=
  .of (ps_expr pe_w hs) fun σ H env hd D rs rh q => (he.w σ H env hd _ rs rh q).mono fun v H1 ⟨d, h1, t1, r1, rh1, q1⟩ => ⟨env, h1, t1, rs.mono t1, rh1, q1⟩
def dRet (te : TED) : TSD := fun D env hd => te env hd D.rt
theorem psd_ret (he : PD X e te) : PSD X (.Return (some e) pos) (dRet te) := .of (ps_ret pe_w) fun σ H env hd D rs rh q => he.w σ H env hd _ rs rh q
def dRetN : TSD := fun D _ hd => D.rt .non hd
theorem psd_retN : PSD X (.Return none pos) dRetN := .of ps_retN fun σ H env hd D rs rh q => post_mk (by simp only [Rv]) rh q
def dIfS (c : TTD) (t u : TSD) : TSD := fun D env hd => c env hd fun k h1 => ifP k (t D env h1) (u D env h1)
theorem psd_if {tc : TTD} (hc : PTD X c tc) (ha : PSsD X sts t) (hb : PSsD X sts2 u) : PSD X (.If c sts sts2 pos) (dIfS tc t u) :=
  .of (ps_if pt_w pss_w pss_w) fun σ H env hd D rs rh q => (hc.w σ H env hd _ rs rh q).mono fun k H1 ⟨h1, t1, rh1, q1⟩ => by
    cases k with
    | true => exact (ha.w σ H1 env h1 D (rs.mono t1) rh1 (q1.1 rfl)).mono (fun _ _ z => z.tr t1) (fun _ _ z => z.tr t1) (fun _ _ z => z.tr t1) fun _ _ z => z.tr t1
    | false => exact (hb.w σ H1 env h1 D (rs.mono t1) rh1 (q1.2 rfl)).mono (fun _ _ z => z.tr t1) (fun _ _ z => z.tr t1) (fun _ _ z => z.tr t1) fun _ _ z => z.tr t1
def dAsg (te : TED) (g : TGD) : TSD := fun D env hd => te env hd fun x h1 => g x env h1 D.nx
theorem psd_asg (he : PD X e te) (hg : PGD X tg g) (hs : swapsWithSole [tg] e pos.line X.env = pure false := by rfl) (hw : swappedStores [tg] e X.env = pure none := by rfl)
    (h1 : (assignEach [tg] X.env).map (·.2) = [assign tg X.env] := by rfl) : PSD X (.Assign [tg] e pos) (dAsg te g) :=
  .of (ps_asg pe_w pg_w hs hw h1) fun σ H env hd D rs rh q => (he.w σ H env hd _ rs rh q).mono fun v H1 ⟨d, h1, t1, r1, rh1, q1⟩ =>
    (hg.w σ H1 env h1 d v _ (rs.mono t1) rh1 r1 q1).mono fun _ _ z => z.tr t1
theorem psd_set {i : Nat} (h : PS X st (tAsg (wE X e) (gName i))) (he : PD X e te) : PSD X st (dAsg te (gdName i)) :=
  .of h fun σ H env hd D rs rh q => (he.w σ H env hd _ rs rh q).mono fun v H1 ⟨d, h1, t1, r1, rh1, q1⟩ => ⟨env.set i (some d), h1, t1, (rs.mono t1).set i r1, rh1, q1⟩
/-- a, b = x, y stored from the right -/
def dPar (i j : Nat) (ta : TAD) : TSD := fun D env hd => ta env hd fun ds h1 => match ds with
  | [d, f] => D.nx ((env.set i (some d)).set j (some f)) h1
  | _ => False
theorem psd_par {i j : Nat} {ta : TAD} (h : PS X st (tPar i j (wA X es))) (ha : PAD X es ta) : PSD X st (dPar i j ta) :=
  .of h fun σ H env hd D rs rh q => (ha.w σ H env hd _ rs rh q).mono fun vs H1 ⟨ds, h1, t1, r1, rh1, q1⟩ => by
    match ds, q1 with
    | [d, f], q1 =>
      simp only [Rvs] at r1
      obtain ⟨v, vs1, rfl, ra, v2, vs2, rfl, rb, rfl⟩ := r1
      exact ⟨v, v2, rfl, _, h1, t1, ((rs.mono t1).set i ra).set j rb, rh1, q1⟩
def dPar3 (i j l : Nat) (ta : TAD) : TSD := fun D env hd => ta env hd fun ds h1 => match ds with
  | [d, f, k] => D.nx (((env.set i (some d)).set j (some f)).set l (some k)) h1
  | _ => False
theorem psd_par3 {i j l : Nat} {ta : TAD} (h : PS X st (tPar3 i j l (wA X es))) (ha : PAD X es ta) : PSD X st (dPar3 i j l ta) :=
  .of h fun σ H env hd D rs rh q => (ha.w σ H env hd _ rs rh q).mono fun vs H1 ⟨ds, h1, t1, r1, rh1, q1⟩ => by
    match ds, q1 with
    | [d, f, k], q1 =>
      simp only [Rvs] at r1
      obtain ⟨v, vs1, rfl, ra, v2, vs2, rfl, rb, v3, vs3, rfl, rc, rfl⟩ := r1
      exact ⟨v, v2, v3, rfl, _, h1, t1, (((rs.mono t1).set i ra).set j rb).set l rc, rh1, q1⟩
/-- x op= e -/
def dAug (i : Nat) (te : TED) (r : R2D) : TSD := fun D env hd => match env[i]? with
  | some (some x) => te env hd fun y h1 => r x y h1 fun z h2 => D.nx (env.set i (some z)) h2
  | _ => False
def ipU (X : Cx) (op : Operator) : TIp := fun x y H Q => ∀ pins s σ v u, Inv X pins σ H s → RelV x v → RelV y u → wpAny (model X.prog X.w) X.A (inplaceOp op v u) (EP X pins σ Q) X.xe s
theorem ip_u {op : Operator} : PIp X op (ipU X op) := fun pins s σ H x y v u Q I rx ry h => h pins s σ v u I rx ry
theorem psd_aug {i : Nat} {op : Operator} {r : R2D} (h : PS X st (tAug i (wE X e) (ipU X op))) (he : PD X e te) (ho : OpD X (inplaceOp op) r) : PSD X st (dAug i te r) :=
  .of h fun σ H env hd D rs rh q => by
    unfold dAug at q
    split at q
    · rename_i x hx
      obtain ⟨v, hv, rv⟩ := rs.at_ _ _ hx
      refine ⟨v, hv, (he.w σ H env hd _ rs rh q).mono fun y H1 ⟨d, h1, t1, r1, rh1, q1⟩ => fun pins s σ' v' u' I rx ry => ?_⟩
      refine thn (ho pins s σ' H1 v y v' u' x d h1 _ I rx ry (rv.mono t1) r1 rh1 q1) fun _ s' ⟨z, H2, I2, r2, dz, h2, t2, rz, rh2, q2⟩ => ?_
      exact ⟨z, H2, I2, r2, env.set i (some dz), h2, t1.trans t2, (rs.mono (t1.trans t2)).set i rz, rh2, q2⟩
    · exact q.elim

/-! ### while -/
def dWhile (c : TTD) (tb : TSD) : TSD := fun D env hd => ∃ (P : EnvD → HpD → Prop) (μ : EnvD → HpD → Nat), P env hd ∧ ∀ env hd, P env hd →
  c env hd fun k h1 => ifP k (tb { D with nx := fun e h => ∃ h2, Sub h2 h ∧ P e h2 ∧ μ e h2 < μ env hd, ct := fun e h => ∃ h2, Sub h2 h ∧ P e h2 ∧ μ e h2 < μ env hd, bk := D.nx } env h1) (D.nx env h1)
theorem psd_while {tc : TTD} {tb : TSD} (hp : PassesOwn (model X.prog X.w) X.A X.env X.xe) (hc : PTD X c tc) (hb : PSsD X sts tb) : PSD X (.While c sts [] pos) (dWhile tc tb) :=
  .of (ps_while hp pt_w pss_w) fun σ H env hd D rs rh ⟨P, μ, p0, turn⟩ => by
    refine ⟨fun m σ1 H1 => ∃ env h, Tx H H1 ∧ RS X.K σ1 H1 env ∧ RH X.K H1 h ∧ P env h ∧ m = μ env h, ⟨_, env, hd, .refl, rs, rh, p0, rfl⟩, ?_⟩
    rintro m σ1 H1 ⟨env1, h1, t1, rs1, rh1, p1, rfl⟩
    refine (hc.w σ1 H1 env1 h1 _ rs1 rh1 (turn env1 h1 p1)).mono fun k H2 ⟨h2, t2, rh2, q2⟩ => ?_
    cases k with
    | false => exact ⟨env1, h2, t1.trans t2, rs1.mono t2, rh2, q2.2 rfl⟩
    | true =>
      refine ⟨fun σ3 H3 => ∃ env3 h3, Tx H H3 ∧ RS X.K σ3 H3 env3 ∧ RH X.K H3 h3 ∧ P env3 h3 ∧ μ env3 h3 < μ env1 h1, ?_, ?_⟩
      · rintro σ3 H3 ⟨env3, h3, t3, rs3, rh3, p3, l3⟩
        exact ⟨_, l3, env3, h3, t3, rs3, rh3, p3, rfl⟩
      · have t12 := t1.trans t2
        refine (hb.w σ1 H2 env1 h2 _ (rs1.mono t2) rh2 (q2.1 rfl)).mono ?_ (fun _ _ z => z.tr t12) (fun _ _ z => z.tr t12) ?_
        all_goals
          rintro σ3 H3 ⟨env3, h3, t3, rs3, rh3, h4, sb, p3, l3⟩
          exact ⟨env3, h4, t12.trans t3, rs3, rh3.forget sb, p3, l3⟩

/-! ### what a for walks -/
structure Src where
  items : List D
  keeps : HpD → Prop
/-- J gives the items of S from the heap H on -/
structure Gives (K : PySem.W.Frag) (H : Hp) (J : It) (S : Src) : Prop where
  goes : ∀ i H1 h1, Tx H H1 → RH K H1 h1 → S.keeps h1 → i < S.items.length → J.go i H1
  stops : ∀ H1 h1, Tx H H1 → RH K H1 h1 → S.keeps h1 → J.stop S.items.length H1
  yields : ∀ i H1 h1 x H2, Tx H H1 → RH K H1 h1 → S.keeps h1 → i < S.items.length → J.yld i H1 x H2 → ∃ d, S.items[i]? = some d ∧ Tx H1 H2 ∧ Rv K H2 d x ∧ ∀ h, RH K H1 h → RH K H2 h
theorem Gives.later {K : PySem.W.Frag} {H H1 : Hp} {J : It} {S : Src} (g : Gives K H J S) (t : Tx H H1) : Gives K H1 J S :=
  ⟨fun i H2 h2 t2 => g.goes i H2 h2 (t.trans t2), fun H2 h2 t2 => g.stops H2 h2 (t.trans t2), fun i H2 h2 x H3 t2 => g.yields i H2 h2 x H3 (t.trans t2)⟩
abbrev TID := EnvD → HpD → (Src → HpD → Prop) → Prop
def wI (X : Cx) (tg iter : Expr) : TI := fun σ H R => ∀ pins s, Inv X pins σ H s → wpAny (model X.prog X.w) X.A (eval iter X.env) (fun v s1 => wpAny (model X.prog X.w) X.A (pyIter v) (PIE X pins σ tg R) X.xe s1) X.xe s
theorem pi_w {iter : Expr} : PI X tg iter (wI X tg iter) := ⟨fun pins s _ _ _ I h => h pins s I⟩
def postI (K : PySem.W.Frag) (H : Hp) (R : Src → HpD → Prop) : It → Hp → Prop := fun J H' => ∃ S hd, Tx H H' ∧ RH K H' hd ∧ Gives K H' J S ∧ R S hd
structure PID (X : Cx) (tg iter : Expr) (t : TID) : Prop where
  w : ∀ (σ : L2.St) (H : Hp) (env : EnvD) (hd : HpD) (R : Src → HpD → Prop), RS X.K σ H env → RH X.K H hd → t env hd R → wI X tg iter σ H (postI X.K H R)
theorem PID.of {iter : Expr} {t : TID} {t0 : TI} (h0 : PI X tg iter t0) (h : ∀ (σ : L2.St) (H : Hp) (env : EnvD) (hd : HpD) (R : Src → HpD → Prop), RS X.K σ H env → RH X.K H hd → t env hd R → t0 σ H (postI X.K H R)) : PID X tg iter t :=
  ⟨fun σ H env hd R rs rh q pins s I => h0.run pins s σ H _ I (h σ H env hd R rs rh q)⟩
/-- a loop over items: P by the number of turns done -/
def dFor (ti : TID) (g : TGD) (tb : TSD) : TSD := fun D env hd => ti env hd fun S h1 => ∃ P : Nat → EnvD → HpD → Prop, P 0 env h1 ∧
  (∀ i env h, i ≤ S.items.length → P i env h → S.keeps h) ∧
  (∀ i d env h, S.items[i]? = some d → P i env h → g d env h fun e2 h2 => tb { D with nx := fun e h => ∃ h', Sub h' h ∧ P (i + 1) e h', ct := fun e h => ∃ h', Sub h' h ∧ P (i + 1) e h', bk := D.nx } e2 h2) ∧
  ∀ env h, P S.items.length env h → D.nx env h
theorem psd_for {iter : Expr} {ti : TID} {tb : TSD} (hp : PassesOwn (model X.prog X.w) X.A X.env X.xe) (hc : X.calm = true) (hi : PID X tg iter ti) (hg : PGD X tg g) (hb : PSsD X sts tb)
    (hs : ∀ x, foldedSetIterable iter X.env x = pure x := by intro _; rfl) : PSD X (.For tg iter sts [] pos) (dFor ti g tb) :=
  .of (ps_for hp hc pi_w pg_w pss_w hs) fun σ H env hd D rs rh q => by
    have h0 := hi.w σ H env hd _ rs rh q
    refine fun pins s I => thn (h0 pins s I) fun v s1 h1 => thn h1 fun itv s2 h2 => ?_
    obtain ⟨it, fp, tn, J, H2, e, I2, T, st2, f2, S, hd2, t2, rh2, gv, P, p0, keep, turn, done⟩ := h2
    refine ⟨it, fp, tn, J, H2, e, I2, T, st2, f2, ?_⟩
    refine ⟨fun i m σ3 H3 => m = S.items.length - i ∧ i ≤ S.items.length ∧ ∃ env3 h3, Tx H2 H3 ∧ RS X.K σ3 H3 env3 ∧ RH X.K H3 h3 ∧ P i env3 h3,
      ⟨_, rfl, Nat.zero_le _, env, hd2, .refl, rs.mono t2, rh2, p0⟩, ?_⟩
    rintro i m σ3 H3 ⟨rfl, hi', env3, h3, t3, rs3, rh3, p3⟩
    have kp := keep i env3 h3 hi' p3
    by_cases hlt : i < S.items.length
    · refine .inr ⟨gv.goes i H3 h3 t3 rh3 kp hlt, fun σ4 H4 => i + 1 ≤ S.items.length ∧ ∃ env4 h4, Tx H2 H4 ∧ RS X.K σ4 H4 env4 ∧ RH X.K H4 h4 ∧ P (i + 1) env4 h4, ?_, ?_⟩
      · rintro σ4 H4 ⟨l4, env4, h4, t4, rs4, rh4, p4⟩
        exact ⟨_, by omega, rfl, l4, env4, h4, t4, rs4, rh4, p4⟩
      · intro x H4 y4
        obtain ⟨d, hd4, t4, r4, k4⟩ := gv.yields i H3 h3 x H4 t3 rh3 kp hlt y4
        have t34 := t3.trans t4
        refine (hg.w σ3 H4 env3 h3 d x _ (rs3.mono t4) (k4 h3 rh3) r4 (turn i d env3 h3 hd4 p3)).mono fun σ5 H5 ⟨env5, h5, t5, rs5, rh5, q5⟩ => ?_
        have t35 := t34.trans t5
        refine (hb.w σ5 H5 env5 h5 _ rs5 rh5 q5).mono ?_ (fun _ _ z => z.tr (t2.trans t35)) (fun _ _ z => z.tr (t2.trans t35)) ?_
        all_goals
          rintro σ6 H6 ⟨env6, h6, t6, rs6, rh6, h7, sb, p7⟩
          exact ⟨hlt, env6, h7, t35.trans t6, rs6, rh6.forget sb, p7⟩
    · have e' : i = S.items.length := by omega
      subst e'
      exact .inl ⟨gv.stops H3 h3 t3 rh3 kp, env3, h3, t2.trans t3, rs3, rh3, done env3 h3 p3⟩
end
end G
/-! G4: calls of defs; operators, subscripts, built-ins over data. -/
namespace G
open PySem PySem.Spec PyProof.Rows L2

/-! ### a def's promise over data -/
abbrev SpD := List D → HpD → QD → XD → Prop
def xpost (K : PySem.W.Frag) (H : Hp) (E : XD) : XK := fun cls dd H' => ∃ C f a v d hd, cls = .ref C ∧ dd = some a ∧ H' a = some (.xd [(f, v)]) ∧ Tx H H' ∧ Rv K H' d v ∧ RH K H' hd ∧ E C f d hd
def spV (K : PySem.W.Frag) (sp : SpD) : Sp := fun vs H Q E => ∃ ds hd Qd Ed, Rvs K H ds vs ∧ RH K H hd ∧ sp ds hd Qd Ed ∧ (∀ v H', post K H Qd v H' → Q v H') ∧ ∀ c dd H', xpost K H Ed c dd H' → E c dd H'
def noX : XD := fun _ _ _ _ => False
theorem xpost_no {K : PySem.W.Frag} {H H' : Hp} {c : Value} {dd : Option Addr} (h : xpost K H noX c dd H') : False := by
  obtain ⟨_, _, _, _, _, _, _, _, _, _, _, _, q⟩ := h
  exact q
/-- what a body is to reach: the caller's wish, some of the heap forgotten -/
def RQ (Q : QD) : QD := fun d h => ∃ h2, Sub h2 h ∧ Q d h2
theorem post_RQ {K : PySem.W.Frag} {H H' : Hp} {Q : QD} {v : V} (h : post K H (RQ Q) v H') : post K H Q v H' := by
  obtain ⟨d, hd, t, r, rh, h2, sb, q⟩ := h
  exact ⟨d, h2, t, r, rh.forget sb, q⟩
section
variable {P : Program} {w : World} {K : PySem.W.Frag} {mg : Str → Option Value} {base : Heap}
/-- the rule of a def that raises nothing -/
theorem fnD {x qual : Str} {st : Stmt} {f : Addr} {fd : FuncData} {N ps : List Str} {k : Nat} {sp : SpD} (F : Fun K x qual st f fd) (S : FnScope N ps (defScope st))
    (len : ∀ ds hd Q E, sp ds hd Q E → ds.length = ps.length)
    (hbody : ∀ (cdv : Value) (A : Around) (outer : List Env) (s : Shared) (H : Hp) (E : XK) (ds : List D) (hd : HpD) (Q : QD) (Ed : XD), Room k (A.deeper (envOfC qual (defScope st) s.heap.objs.size f cdv)) → Quiet (A.deeper (envOfC qual (defScope st) s.heap.objs.size f cdv)) → sp ds hd Q Ed →
      ∃ t, PSsD (cxOf CX0 P w K mg base N qual (defScope st) f cdv A outer s H E).nox (defBody st) t ∧ t { nx := fun _ h => RQ Q .non h, rt := RQ Q } (ds.map some ++ List.replicate (N.length - ds.length) none) hd) :
    FnG P w K mg base CX0 (k + 1) f fd ps (spV K sp) := by
  obtain ⟨oc, od, kV, doc, pm, an, cdv, ct, osl, rfl, lk, hcd⟩ := F.ex
  refine fnG_of lk hcd S ?_ ?_
  · rintro vs H Q E ⟨ds, hd, Qd, Ed, r, _, q, _⟩
    rw [← r.len]
    exact len _ _ _ _ q
  · rintro A outer s H vs Q E s1 hr hq ⟨ds, hd, Qd, Ed, r, rh, q, k1, k2⟩ I
    obtain ⟨t, ht, hrd⟩ := hbody cdv A outer s H E ds hd Qd Ed hr (quiet_deeper hq _) q
    have go := ht.w (L2.start N vs) H _ hd _ (rs_start r) rh hrd
    refine wpAny_mono (go [] s1 (I.wish _)) (fun fl s2 hfl => ?_) fun _ _ z => z.elim
    refine sp_mono hfl.unwish ?_ (fun v H' z => k1 v H' (post_RQ z)) (fun _ _ z => ?_) fun _ _ z => ?_
    · rintro σ' H' ⟨env, hd', t', rs', rh', h2, sb, q'⟩
      exact k1 .non H' ⟨.non, h2, t', (by simp only [Rv]), rh'.forget sb, q'⟩
    · obtain ⟨_, _, _, _, _, z⟩ := z; exact z
    · obtain ⟨_, _, _, _, _, z⟩ := z; exact z
end

/-- how arguments come to parameters: idx tells where each parameter's value stands among the positional and then the keyword values -/
def pick {α : Type} (idx : List Nat) (l : List α) : List α := idx.filterMap fun i => l[i]?
theorem pick_rel {α β : Type} {R : α → β → Prop} {l : List α} {m : List β} (h : Paired R l m) : ∀ idx : List Nat, Paired R (pick idx l) (pick idx m) := by
  have at_ : ∀ {l : List α} {m : List β}, Paired R l m → ∀ i : Nat, (l[i]? = none ∧ m[i]? = none) ∨ ∃ a b, l[i]? = some a ∧ m[i]? = some b ∧ R a b := by
    intro l m h
    induction h with
    | nil => intro i; exact .inl ⟨by simp, by simp⟩
    | cons r _ ih =>
      intro i
      cases i with
      | zero => exact .inr ⟨_, _, rfl, rfl, r⟩
      | succ i => simpa using ih i
  intro idx
  induction idx with
  | nil => exact .nil
  | cons i idx ih =>
    unfold pick at ih ⊢
    rw [List.filterMap_cons, List.filterMap_cons]
    rcases at_ h i with ⟨e1, e2⟩ | ⟨a, b, e1, e2, r⟩
    · rw [e1, e2]; exact ih
    · rw [e1, e2]; exact .cons r ih
structure KB (K : PySem.W.Frag) (fd : FuncData) (ps : List Str) (n : Nat) (ks : List Str) (idx : List Nat) : Prop where
  to : ∀ (s : Shared) (us ws : List Value), K.In s.heap → us.length = n → ws.length = ks.length → BindsTo s fd ⟨us, ks.zip ws⟩ (ps.zip (pick idx (us ++ ws)))
theorem Fun.kb {K : PySem.W.Frag} {x qual : Str} {st : Stmt} {f : Addr} {fd : FuncData} {ps : List Str} {n : Nat} {ks : List Str} {idx : List Nat} (F : Fun K x qual st f fd)
    (h : ∀ (kV doc pm : Value) (an : Option Addr) (cdv ct : Value) (us ws : List Value), us.length = n → ws.length = ks.length →
      bindArgs (PySem.W.fnOf x qual (defArgs st) (defBody st) (defScope st) .none kV doc pm an cdv ct) ⟨us, ks.zip ws⟩ = pure (ps.zip (pick idx (us ++ ws)))) : KB K fd ps n ks idx := by
  obtain ⟨oc, od, kV, doc, pm, an, cdv, ct, osl, rfl, lk, hcd⟩ := F.ex
  exact ⟨fun s us ws _ l1 l2 => .of_eq (h kV doc pm an cdv ct us ws l1 l2)⟩

def dCall (sp : SpD) (t : TAD) : TED := fun env hd Q => t env hd fun ds h1 => sp ds h1 Q noX
def dCallK (sp : SpD) (n : Nat) (m : Nat) (idx : List Nat) (t tk : TAD) : TED := fun env hd Q => t env hd fun us h1 => tk env h1 fun ws h2 => us.length = n ∧ ws.length = m ∧ sp (pick idx (us ++ ws)) h2 Q noX
/-- the values of keywords -/
structure PKD (X : Cx) (kws : List Keyword) (t : TAD) : Prop where
  w : ∀ (σ : L2.St) (H : Hp) (env : EnvD) (hd : HpD) (Q : QDs), RS X.K σ H env → RH X.K H hd → t env hd Q → ∀ pos pins s, Inv X pins σ H s → wpAny (model X.prog X.w) X.A (evalAll ((backToKw pos (keywordEach kws X.env)).map (·.2))) (AP X pins σ (postA X.K H Q)) X.xe s
def wK (X : Cx) (kws : List Keyword) : TA := fun σ H Q => ∀ pos pins s, Inv X pins σ H s → wpAny (model X.prog X.w) X.A (evalAll ((backToKw pos (keywordEach kws X.env)).map (·.2))) (AP X pins σ Q) X.xe s
theorem pk_w {X : Cx} {kws : List Keyword} : PK X kws (wK X kws) := ⟨fun pos pins s _ _ _ I h => h pos pins s I⟩
theorem wK.mono {X : Cx} {kws : List Keyword} {σ : L2.St} {H : Hp} {Q Q' : List V → Hp → Prop} (h : wK X kws σ H Q) (k : ∀ v H', Q v H' → Q' v H') : wK X kws σ H Q' :=
  fun pos pins s I => thn (h pos pins s I) fun _ _ ⟨v, H', I', r, q⟩ => ⟨v, H', I', r, k v H' q⟩
section
variable {X : Cx} {e a : Expr} {es : List Expr} {kws : List Keyword} {nm : Option Str} {pos kpos p : Pos} {ta : TED} {t tk : TAD} {x : Str} {k : Nat} {f : Addr} {fd : FuncData} {ps ks : List Str} {sp : SpD} {idx : List Nat} {n : Nat}
theorem pkd_nil : PKD X [] dNil := ⟨fun σ H env hd Q rs rh q pos pins s I => pk_nil.run pos pins s σ H _ I ⟨[], hd, .refl, rvs_nil, rh, q⟩⟩
theorem pkd_cons (ha : PD X a ta) (hr : PKD X kws t) : PKD X (⟨nm, a, kpos⟩ :: kws) (dCons ta t) :=
  ⟨fun σ H env hd Q rs rh q pos pins s I => (pk_cons pe_w pk_w).run pos pins s σ H _ I ((ha.w σ H env hd _ rs rh q).mono fun x H1 ⟨d, h1, t1, r1, rh1, q1⟩ =>
    wK.mono (hr.w σ H1 env h1 _ (rs.mono t1) rh1 q1) fun vs H2 ⟨ds, h2, t2, r2, rh2, q2⟩ => ⟨d :: ds, h2, t1.trans t2, rvs_cons (r1.mono t2) r2, rh2, q2⟩)⟩
theorem run_gd {pins : List (Addr × Obj)} {σ : L2.St} {H H0 : Hp} {s : Shared} {Q : QD} {args : Args} {us : List Value} {vs : List V} {ds : List D} {hd : HpD}
    (F : FnG X.prog X.w X.K X.mg X.base CX0 k f fd ps (spV X.K sp)) (room : Room k X.A) (quiet : Quiet X.A) (I : Inv X pins σ H s) (hb : BindsTo s fd args (ps.zip us)) (r : Vals vs us) (rd : Rvs X.K H ds vs) (rh : RH X.K H hd) (t0 : Tx H0 H) (h : sp ds hd Q noX) :
    codeAny (model X.prog X.w) X.A (.call (.ref f) args) (fun res s' => match res with | .ok (.ret u) => EP X pins σ (post X.K H0 Q) u s' | .ok _ => False | .error e => X.xe e s') s :=
  run_g (E := E0) F room quiet pass0 I hb r ⟨ds, hd, Q, noX, rd, rh, h, fun v H' z => z.tr t0, fun c dd H' z => (xpost_no z).elim⟩
theorem pd_call (F : FnG X.prog X.w X.K X.mg X.base CX0 k f fd ps (spV X.K sp)) (hr : Room k X.A) (hq : Quiet X.A) (hb : Binds X.K fd ps []) (hg : Gl X x) (hm : X.mg x = some (.ref f)) (hk : PySem.W.keepIn X.K (.ref f) = true) (ha : PAD X (a :: es) t)
    (hdb : (x == ("__debug__" : Str)) = false := by decide) (he : starEach (a :: es) X.env = (false, eval a X.env) :: starEach es X.env := by rfl) (hpl : (backTo pos (starEach es X.env)).any (·.1) = false := by rfl) :
    PD X (.Call (.Name x p) (a :: es) [] pos) (dCall sp t) := by
  refine ⟨fun σ H env hd Q rs rh q pins s I => ?_⟩
  refine wpAny_Call_Name_kw (ld_glob I hg hm ?_ hdb)
  refine PySem.W.callWith_K (h₀ := X.base) I.ok.mod.kin hk (thn (ha.w σ H env hd _ rs rh q pos pins s I) fun us s1 ⟨vs, H1, I1, r, ds, h1, t1, rd, rh1, q1⟩ => ⟨I1.kIn, ?_⟩) he hpl
  have hl : (us ++ []).length = ps.length := by
    rw [List.append_nil, ← r.length, ← rd.len]
    have := F.len vs H1 (post X.K H1 Q) (xpost X.K H1 noX) ⟨ds, h1, Q, noX, rd, rh1, q1, fun _ _ z => z, fun _ _ _ z => z⟩
    rw [rd.len]
    exact this
  have b := hb s1 us I1.kIn hl
  rw [List.append_nil] at b
  refine wpAny_call (codeAny_mono (run_gd F hr hq I1 b r rd rh1 t1 q1) fun res s' z => ?_)
  match res, z with
  | .ok (.ret u), z => exact z
  | .error e, z => exact z
theorem pd_callK (F : FnG X.prog X.w X.K X.mg X.base CX0 k f fd ps (spV X.K sp)) (hr : Room k X.A) (hq : Quiet X.A) (hb : KB X.K fd ps 0 ks idx) (hg : Gl X x) (hm : X.mg x = some (.ref f)) (hk : PySem.W.keepIn X.K (.ref f) = true) (ha : PKD X kws tk)
    (hall : (backToKw pos (keywordEach kws X.env)).all (·.1.isSome) = true := by rfl) (hks : (backToKw pos (keywordEach kws X.env)).filterMap (·.1) = ks := by rfl)
    (hdb : (x == ("__debug__" : Str)) = false := by decide) (hpl : ((backTo pos (starEach [] X.env)).any (·.1) || (backToKw pos (keywordEach kws X.env)).any (·.1.isNone)) = false := by rfl) :
    PD X (.Call (.Name x p) [] kws pos) (dCallK sp 0 ks.length idx dNil tk) := by
  refine ⟨fun σ H env hd Q rs rh q pins s I => ?_⟩
  refine wpAny_Call_Name_kw (ld_glob I hg hm ?_ hdb)
  refine PySem.W.callWith_KW0 (h₀ := X.base) I.ok.mod.kin hk hall (thn (ha.w σ H env hd _ rs rh q pos pins s I) fun ws s1 ⟨vs, H1, I1, r, ds, h1, t1, rd, rh1, _, hl, q1⟩ => ⟨I1.kIn, ?_⟩) hpl
  rw [hks]
  have hl2 : ws.length = ks.length := by rw [← r.length, ← rd.len]; exact hl
  have b := hb.to s1 [] ws I1.kIn rfl hl2
  refine wpAny_call (codeAny_mono (run_gd F hr hq I1 b (pick_rel (l := [] ++ vs) (m := [] ++ ws) r idx) (Rvs.of (pick_rel (l := [] ++ ds) (m := [] ++ vs) rd.paired idx)) rh1 t1 q1) fun res s' z => ?_)
  match res, z with
  | .ok (.ret u), z => exact z
  | .error e, z => exact z
theorem pd_callPK (F : FnG X.prog X.w X.K X.mg X.base CX0 k f fd ps (spV X.K sp)) (hr : Room k X.A) (hq : Quiet X.A) (hb : KB X.K fd ps n ks idx) (hg : Gl X x) (hm : X.mg x = some (.ref f)) (hk : PySem.W.keepIn X.K (.ref f) = true) (ha : PAD X (a :: es) t) (hkw : PKD X kws tk)
    (hall : (backToKw pos (keywordEach kws X.env)).all (·.1.isSome) = true := by rfl) (hks : (backToKw pos (keywordEach kws X.env)).filterMap (·.1) = ks := by rfl)
    (hdb : (x == ("__debug__" : Str)) = false := by decide) (he : starEach (a :: es) X.env = (false, eval a X.env) :: starEach es X.env := by rfl)
    (hpl : ((backTo pos (starEach (a :: es) X.env)).any (·.1) || (backToKw pos (keywordEach kws X.env)).any (·.1.isNone)) = false := by rfl) :
    PD X (.Call (.Name x p) (a :: es) kws pos) (dCallK sp n ks.length idx t tk) := by
  refine ⟨fun σ H env hd Q rs rh q pins s I => ?_⟩
  refine wpAny_Call_Name_kw (ld_glob I hg hm ?_ hdb)
  refine PySem.W.callWith_KW (h₀ := X.base) I.ok.mod.kin hk hall (thn (ha.w σ H env hd _ rs rh q pos pins s I) fun us s0 ⟨us', H0, I0, r0, ds0, h0, t0, rd0, rh0, q0⟩ => ?_) hpl he
  refine thn (hkw.w σ H0 env h0 _ (rs.mono t0) rh0 q0 pos pins s0 I0) fun ws s1 ⟨vs, H1, I1, r, ds, h1, t1, rd, rh1, hl1, hl, q1⟩ => ⟨I1.kIn, ?_⟩
  rw [hks]
  have e1 : us.length = n := by rw [← r0.length, ← rd0.len]; exact hl1
  have e2 : ws.length = ks.length := by rw [← r.length, ← rd.len]; exact hl
  have b := hb.to s1 us ws I1.kIn e1 e2
  refine wpAny_call (codeAny_mono (run_gd F hr hq I1 b (pick_rel (r0.append r) idx) (Rvs.of (pick_rel ((rd0.mono t1).append rd).paired idx)) rh1 (t0.trans t1) q1) fun res s' z => ?_)
  match res, z with
  | .ok (.ret u), z => exact z
  | .error e, z => exact z
end
end G
/-! G5: operators, comparisons, subscripts, slices over data. -/
namespace G
open PySem PySem.Spec PyProof.Rows L2

section
variable {K : PySem.W.Frag} {H : Hp} {hd : HpD}
theorem rv_int {i : Int} : Rv K H (.int i) (.int i) := by simp only [Rv]
theorem rv_bl {i : Bool} : Rv K H (.bl i) (.bl i) := by simp only [Rv]
theorem rv_str {i : Str} : Rv K H (.str i) (.str i) := by simp only [Rv]
theorem rv_non : Rv K H .non .non := by simp only [Rv]
theorem rv_ref {a : Addr} : Rv K H (.ref a) (.ref a) := by simp only [Rv]
theorem rv_tup {a : Addr} {xs : List V} {ds : List D} (h : SqT K H a xs) (r : Rvs K H ds xs) : Rv K H (.tup ds) (.ref a) := by
  simp only [Rv]
  exact ⟨a, xs, rfl, h, r⟩
theorem of_int {i : Int} {v : V} (h : Rv K H (.int i) v) : v = .int i := by simpa only [Rv] using h
theorem of_bl {i : Bool} {v : V} (h : Rv K H (.bl i) v) : v = .bl i := by simpa only [Rv] using h
theorem of_str {i : Str} {v : V} (h : Rv K H (.str i) v) : v = .str i := by simpa only [Rv] using h
theorem of_non {v : V} (h : Rv K H .non v) : v = .non := by simpa only [Rv] using h
theorem of_ref {a : Addr} {v : V} (h : Rv K H (.ref a) v) : v = .ref a := by simpa only [Rv] using h
theorem of_ty {a : String} {v : V} (h : Rv K H (.ty a) v) : v = .ty a := by simpa only [Rv] using h
theorem of_tup {ds : List D} {v : V} (h : Rv K H (.tup ds) v) : ∃ a xs, v = .ref a ∧ SqT K H a xs ∧ Rvs K H ds xs := by simpa only [Rv] using h
theorem of_rl {ds : List D} {v : V} (h : Rv K H (.rl ds) v) : ∃ a xs, v = .ref a ∧ RdL K H a xs ∧ Rvs K H ds xs := by simpa only [Rv] using h
theorem of_lst {a : Addr} {ds : List D} (rh : RH K H hd) (e : hd a = some (.lst ds)) : ∃ vs, H a = some (.lst vs) ∧ Rvs K H ds vs := rh a _ e
theorem post_new {p : Addr} {ds : List D} {vs : List V} {Q : QD} (rh : RH K H hd) (hp : H p = none) (r : Rvs K H ds vs) (q : ∀ p, hd p = none → Q (.ref p) (put hd p (.lst ds))) : post K H Q (.ref p) (upd H p (.lst vs)) :=
  ⟨.ref p, _, .new hp, rv_ref, rh.new hp (ro_new hp r), q p (rh.none hp)⟩
theorem post_tup {p : Addr} {ds : List D} {vs : List V} {Q : QD} (rh : RH K H hd) (hp : H p = none) (r : Rvs K H ds vs) (q : Q (.tup ds) hd) : post K H Q (.ref p) (upd H p (.tup vs)) :=
  ⟨.tup ds, hd, .new hp, rv_tup (.of upd_same) (r.mono (.new hp)), rh.more hp, q⟩
end

/-! ### arithmetic -/
def addD : R2D
  | .int i, .int j, hd, Q => Q (.int (i + j)) hd
  | .str x, .str y, hd, Q => x.length + y.length ≤ sizeLine ∧ Q (.str (x ++ y)) hd
  | .tup xs, .tup ys, hd, Q => xs.length + ys.length ≤ sizeLine ∧ Q (.tup (xs ++ ys)) hd
  | .ref a, .ref b, hd, Q => ∃ xs ys, hd a = some (.lst xs) ∧ hd b = some (.lst ys) ∧ xs.length + ys.length ≤ sizeLine ∧ ∀ p, hd p = none → Q (.ref p) (put hd p (.lst (xs ++ ys)))
  | _, _, _, _ => False
section
variable {X : Cx}
theorem rvs_nil_of {K : PySem.W.Frag} {H : Hp} {ds : List D} {vs : List V} (h : Rvs K H ds vs) : vs = [] ↔ ds = [] := by
  constructor
  · rintro rfl
    have := h.len
    exact List.eq_nil_of_length_eq_zero (by simpa using this)
  · rintro rfl
    simpa only [Rvs] using h
theorem op_addD : OpD X (binaryOp .Add) addD := by
  intro pins s σ H x y v u d d2 hd Q I rx ry r1 r2 rh q
  cases d with
  | int i =>
    cases d2 with
    | int j =>
      rw [of_int r1] at rx
      rw [of_int r2] at ry
      exact op_add pins s σ H _ _ v u _ I rx ry ⟨i, j, rfl, rfl, post_mk rv_int rh q⟩
    | _ => exact q.elim
  | str i =>
    cases d2 with
    | str j =>
      rw [of_str r1] at rx
      rw [of_str r2] at ry
      exact op_add_str pins s σ H _ _ v u _ I rx ry ⟨i, j, rfl, rfl, q.1, post_mk rv_str rh q.2⟩
    | _ => exact q.elim
  | tup ds =>
    cases d2 with
    | tup es =>
      obtain ⟨a, xs, rfl, ha, ra⟩ := of_tup r1
      obtain ⟨b, ys, rfl, hb, rb⟩ := of_tup r2
      obtain ⟨hz, q⟩ := q
      refine op_catA pins s σ H _ _ v u _ I rx ry ⟨a, b, xs, ys, rfl, rfl, ha, hb, by rw [← ra.len, ← rb.len]; exact hz, fun e => ?_, fun _ e => ?_, fun _ _ p hp => ?_⟩
      · have : ds = [] := (rvs_nil_of ra).mp e
        subst this
        exact post_mk (rv_tup hb rb) rh q
      · have : es = [] := (rvs_nil_of rb).mp e
        subst this
        rw [List.append_nil] at q
        exact post_mk (rv_tup ha ra) rh q
      · exact post_tup rh hp (ra.append rb) q
    | _ => exact q.elim
  | ref a =>
    cases d2 with
    | ref b =>
      rw [of_ref r1] at rx
      rw [of_ref r2] at ry
      obtain ⟨ds, es, h1, h2, hz, q⟩ := q
      obtain ⟨xs, e1, ra⟩ := of_lst rh h1
      obtain ⟨ys, e2, rb⟩ := of_lst rh h2
      exact op_cat pins s σ H _ _ v u _ I rx ry ⟨a, b, xs, ys, rfl, rfl, e1, e2, by rw [← ra.len, ← rb.len]; exact hz, fun p hp => post_new rh hp (ra.append rb) q⟩
    | _ => exact q.elim
  | _ => exact q.elim
/-- ints: a rule of the layer with a side condition -/
theorem opI_D {f : Value → Value → Sem Value} {C : Int → Int → Prop} {g : Int → Int → D} {g0 : Int → Int → V} (h : OpR X f (rI C g0)) (hg : ∀ K H i j, Rv K H (g i j) (g0 i j)) :
    OpD X f (fun d d2 hd Q => match d, d2 with | .int i, .int j => C i j ∧ Q (g i j) hd | _, _ => False) := by
  intro pins s σ H x y v u d d2 hd Q I rx ry r1 r2 rh q
  split at q
  · rw [of_int r1] at rx
    rw [of_int r2] at ry
    exact h pins s σ H _ _ v u _ I rx ry ⟨_, _, rfl, rfl, q.1, post_mk (hg _ _ _ _) rh q.2⟩
  · exact q.elim
theorem opI0_D {f : Value → Value → Sem Value} {g : Int → Int → D} {g0 : Int → Int → V} (h : OpR X f (rI0 g0)) (hg : ∀ K H i j, Rv K H (g i j) (g0 i j)) :
    OpD X f (fun d d2 hd Q => match d, d2 with | .int i, .int j => Q (g i j) hd | _, _ => False) := by
  intro pins s σ H x y v u d d2 hd Q I rx ry r1 r2 rh q
  split at q
  · rw [of_int r1] at rx
    rw [of_int r2] at ry
    exact h pins s σ H _ _ v u _ I rx ry ⟨_, _, rfl, rfl, post_mk (hg _ _ _ _) rh q⟩
  · exact q.elim
theorem OpD.imp {f : Value → Value → Sem Value} {r r' : R2D} (h : OpD X f r) (k : ∀ d d2 hd Q, r' d d2 hd Q → r d d2 hd Q) : OpD X f r' :=
  fun pins s σ H x y v u d d2 hd Q I rx ry r1 r2 rh q => h pins s σ H x y v u d d2 hd Q I rx ry r1 r2 rh (k _ _ _ _ q)
def subD : R2D
  | .int i, .int j, hd, Q => Q (.int (i - j)) hd
  | _, _, _, _ => False
theorem op_subD : OpD X (binaryOp .Sub) subD := (opI0_D (g := fun i j => .int (i - j)) op_sub fun _ _ _ _ => rv_int).imp fun d d2 hd Q q => by
  cases d <;> cases d2 <;> exact q
/-- a product that fits: one factor below 2^64, or both below a million bits together -/
def MulOk (i j : Int) : Prop := CMul i j ∨ CMulW i j
def mulD : R2D
  | .int i, .int j, hd, Q => MulOk i j ∧ Q (.int (i * j)) hd
  | .tup xs, .int k, hd, Q => xs ≠ [] ∧ 0 ≤ k ∧ k ≤ 1000 ∧ xs.length ≤ 1000 ∧ Q (.tup (List.replicate k.toNat xs).flatten) hd
  | .ref a, .int k, hd, Q => ∃ xs, hd a = some (.lst xs) ∧ 0 ≤ k ∧ k < 2 ^ 63 ∧ xs.length * k.toNat ≤ sizeLine ∧ ∀ p, hd p = none → Q (.ref p) (put hd p (.lst (List.replicate k.toNat xs).flatten))
  | _, _, _, _ => False
theorem rvs_rep {K : PySem.W.Frag} {H : Hp} {ds : List D} {vs : List V} (h : Rvs K H ds vs) : ∀ n : Nat, Rvs K H (List.replicate n ds).flatten (List.replicate n vs).flatten
  | 0 => rvs_nil
  | n + 1 => by
    rw [List.replicate_succ, List.replicate_succ, List.flatten_cons, List.flatten_cons]
    exact h.append (rvs_rep h n)

theorem tuple_mul_same (l : Addr) (items : Array Value) (n : Nat) (dd : Option Addr) (sl : Array (Option Value)) (x : Int) (u : Tok)
    (c0 : (decide (x < -(2 ^ 63)) || decide (x ≥ 2 ^ 63)) = false) (c1 : (items.isEmpty || x == 1) = true) :
    Meets (Builtin.«tuple.__mul__» ⟨[.ref l, .int x u], []⟩) (fun _ R s => s.heap.get? l = some { cls := .type "tuple", dict := dd, data := .seq items n, slots := sl } ∧ R (.ok (.ret (Value.ref l))) s) :=
  .of_wp fun prog w A R s h => by
    obtain ⟨hp, g, d, tk, os⟩ := s
    obtain ⟨hl, h⟩ := h
    have f1 := AutoSeq1.idx_int
    wp_walk using wpAny_loadPart' hl
    refine wpAny_ite_false (decide_eq_false (by rw [c0]; exact Bool.false_ne_true)) ?_
    wp_walk using wpAny_loadPart' hl
    exact ⟨_, rfl, h⟩
theorem tuple_mul_none (l : Addr) (items : Array Value) (n : Nat) (dd : Option Addr) (sl : Array (Option Value)) (x : Int) (u : Tok)
    (c0 : (decide (x < -(2 ^ 63)) || decide (x ≥ 2 ^ 63)) = false) (c1 : (items.isEmpty || x == 1) = false) (c2 : (decide (x ≤ 0) || items.isEmpty) = true) :
    Meets (Builtin.«tuple.__mul__» ⟨[.ref l, .int x u], []⟩) (fun _ R s => s.heap.get? l = some { cls := .type "tuple", dict := dd, data := .seq items n, slots := sl } ∧
      R (.ok (.ret (Value.ref s.heap.objs.size))) { s with heap := s.heap.push { cls := Value.type "tuple", data := Data.seq #[] }, toks := s.toks }) :=
  .of_wp fun prog w A R s h => by
    obtain ⟨hp, g, d, tk, os⟩ := s
    obtain ⟨hl, h⟩ := h
    have f1 := AutoSeq1.idx_int
    wp_walk using wpAny_loadPart' hl
    refine wpAny_ite_false (decide_eq_false (by rw [c0]; exact Bool.false_ne_true)) ?_
    wp_walk using wpAny_loadPart' hl
    exact ⟨_, rfl, h⟩
/-- a tuple times 0 or 1 -/
def rRep01 (K : PySem.W.Frag) : R2 := fun x y H Q => ∃ l k xs, x = .ref l ∧ y = .int k ∧ SqT K H l xs ∧ xs ≠ [] ∧ ((k = 1 ∧ Q (.ref l) H) ∨ (k = 0 ∧ ∀ p, H p = none → Q (.ref p) (upd H p (.tup []))))
theorem op_rep01 : OpR X (binaryOp .Mult) (rRep01 X.K) := by
  intro pins s σ H x y v u Q I rx ry h
  obtain ⟨l, k, xs, rfl, rfl, hT, hne, q⟩ := h
  cases rx
  obtain ⟨t, rfl⟩ := ry
  obtain ⟨its, r, ⟨⟨cls, dd, data, sl⟩, ho, hc, n, hd⟩, hs⟩ := I.tuple hT
  simp only at hc hd
  subst hc hd
  have hi : its.toArray.isEmpty = false := by
    cases its with
    | nil => cases r; exact absurd rfl hne
    | cons a b => rfl
  have go : wpAny (model X.prog X.w) X.A (call (.builtin "tuple.__mul__") [.ref l, .int k t]) (EP X pins σ Q) X.xe s → wpAny (model X.prog X.w) X.A (binaryOp .Mult (.ref l) (.int k t)) (EP X pins σ Q) X.xe s := fun g =>
    wpAny_binaryOp_repeat_ref (T := "tuple") (U := "int") (by decide) ⟨_, ho, rfl⟩ (fun s' => typeIs_int s' k t) noFill_tuple_mul F.fills_int_mul F.slot_int_rmul repeat_tuple F.slot_int_index.lookup
      (call_meets F.slot_int_rmul (typeIs_int s k t) F.entry_int_rmul (F.args_int_rmul_2 _ _) (int_rmul_tuple k t l its.toArray n dd sl) ⟨ho, rfl, ⟨_, ho, rfl⟩, g⟩)
  rcases q with ⟨rfl, q⟩ | ⟨rfl, q⟩
  · exact go (call_meets F.slot_tuple_mul ⟨_, ho, rfl⟩ F.entry_tuple_mul (F.args_tuple_mul_2 _ _) (tuple_mul_same l its.toArray n dd sl 1 t (by decide) (by rw [hi]; rfl)) ⟨ho, ⟨.ref l, H, I, rfl, q⟩⟩)
  · refine go (call_meets F.slot_tuple_mul ⟨_, ho, rfl⟩ F.entry_tuple_mul (F.args_tuple_mul_2 _ _) (tuple_mul_none l its.toArray n dd sl 0 t (by decide) (by rw [hi]; rfl) (by rfl)) ⟨ho, ?_⟩)
    refine ⟨.ref s.heap.objs.size, _, I.laid (t' := s.toks) (o := .tup []) (fun b ob q => Heap.get?_push_of_some _ q) (Nat.le_refl _) ?_, rfl, q _ (I.hok.fresh (Nat.le_refl _))⟩
    exact ⟨Nat.zero_le _, [], .nil, IsTup.new _ _⟩
theorem op_mulD : OpD X (binaryOp .Mult) mulD := by
  intro pins s σ H x y v u d d2 hd Q I rx ry r1 r2 rh q
  cases d with
  | int i =>
    cases d2 with
    | int j =>
      rw [of_int r1] at rx
      rw [of_int r2] at ry
      obtain ⟨c | c, q⟩ := q
      · exact op_mul pins s σ H _ _ v u _ I rx ry ⟨i, j, rfl, rfl, c, post_mk rv_int rh q⟩
      · exact op_mulW pins s σ H _ _ v u _ I rx ry ⟨i, j, rfl, rfl, c, post_mk rv_int rh q⟩
    | _ => exact q.elim
  | tup ds =>
    cases d2 with
    | int k =>
      obtain ⟨a, xs, rfl, ha, ra⟩ := of_tup r1
      rw [of_int r2] at ry
      obtain ⟨hne, h0, hk, hz, q⟩ := q
      have hx : xs ≠ [] := fun e => hne ((rvs_nil_of ra).mp e)
      by_cases k1 : k = 1
      · subst k1
        refine op_rep01 pins s σ H _ _ v u _ I rx ry ⟨a, 1, xs, rfl, rfl, ha, hx, .inl ⟨rfl, ?_⟩⟩
        have : (List.replicate (1 : Int).toNat ds).flatten = ds := by
          show (List.replicate 1 ds).flatten = ds
          simp
        rw [this] at q
        exact post_mk (rv_tup ha ra) rh q
      · by_cases k0 : k = 0
        · subst k0
          exact op_rep01 pins s σ H _ _ v u _ I rx ry ⟨a, 0, xs, rfl, rfl, ha, hx, .inr ⟨rfl, fun p hp => post_tup rh hp rvs_nil q⟩⟩
        · exact op_repT pins s σ H _ _ v u _ I rx ry ⟨a, k, xs, rfl, rfl, ha, hx, by omega, hk, by rw [← ra.len]; exact hz, fun p hp => post_tup rh hp (rvs_rep ra _) q⟩
    | _ => exact q.elim
  | ref a =>
    cases d2 with
    | int k =>
      rw [of_ref r1] at rx
      rw [of_int r2] at ry
      obtain ⟨ds, h1, h0, hk, hz, q⟩ := q
      obtain ⟨xs, e1, ra⟩ := of_lst rh h1
      exact op_rep pins s σ H _ _ v u _ I rx ry ⟨a, k, xs, rfl, rfl, e1, by omega, hk, by rw [← ra.len]; exact hz, fun p hp => post_new rh hp (rvs_rep ra _) q⟩
    | _ => exact q.elim
  | _ => exact q.elim
def fdivD : R2D
  | .int i, .int j, hd, Q => (0 < j ∧ j < 2 ^ 9000) ∧ Q (.int (i / j)) hd
  | _, _, _, _ => False
theorem divW {j : Int} (i : Int) (h : 0 < j ∧ j < 2 ^ 9000) : CDivW i j := by
  refine wide_div (b := 9000) h.1 ?_ (by decide) (Nat.le_refl _)
  have h1 := h.1
  have h2 := h.2
  have e : (2 : Int) ^ 9000 = ((2 ^ 9000 : Nat) : Int) := (Int.natCast_pow 2 9000).symm
  rw [e] at h2
  generalize (2 ^ 9000 : Nat) = N at h2 ⊢
  omega
theorem op_fdivD : OpD X (binaryOp .FloorDiv) fdivD := (opI_D (g := fun i j => .int (i / j)) op_fdivW fun _ _ _ _ => rv_int).imp fun d d2 hd Q q => by
  cases d <;> cases d2 <;> first | exact ⟨divW _ q.1, q.2⟩ | exact q
def modD : R2D
  | .int i, .int j, hd, Q => 0 < j ∧ Q (.int (i % j)) hd
  | _, _, _, _ => False
theorem op_modD : OpD X (binaryOp .Mod) modD := (opI_D (g := fun i j => .int (i % j)) op_mod fun _ _ _ _ => rv_int).imp fun d d2 hd Q q => by
  cases d <;> cases d2 <;> exact q
def powD : R2D
  | .int i, .int j, hd, Q => CPow i j ∧ Q (.int (i ^ j.toNat)) hd
  | _, _, _, _ => False
theorem op_powD : OpD X (binaryOp .Pow) powD := (opI_D (g := fun i j => .int (i ^ j.toNat)) op_pow fun _ _ _ _ => rv_int).imp fun d d2 hd Q q => by
  cases d <;> cases d2 <;> exact q
/-! in place -/
def iaddD : R2D
  | .int i, .int j, hd, Q => Q (.int (i + j)) hd
  | _, _, _, _ => False
theorem op_iaddD : OpD X (inplaceOp .Add) iaddD := (opI0_D (g := fun i j => .int (i + j)) iop_add fun _ _ _ _ => rv_int).imp fun d d2 hd Q q => by
  cases d <;> cases d2 <;> exact q
theorem op_isubD : OpD X (inplaceOp .Sub) subD := (opI0_D (g := fun i j => .int (i - j)) iop_sub fun _ _ _ _ => rv_int).imp fun d d2 hd Q q => by
  cases d <;> cases d2 <;> exact q

/-! ### order -/
def intsOf : List D → Option (List Int)
  | [] => some []
  | .int i :: r => (intsOf r).map (i :: ·)
  | _ => none
theorem intsOf_rvs {K : PySem.W.Frag} {H : Hp} : ∀ {ds : List D} {ns : List Int} {vs : List V}, intsOf ds = some ns → Rvs K H ds vs → vs = ns.map V.int
  | [], _, _, e, r => by
    simp only [intsOf, Option.some.injEq] at e
    subst e
    simp only [Rvs] at r
    exact r
  | .int i :: ds, _, _, e, r => by
    simp only [intsOf, Option.map_eq_some_iff] at e
    obtain ⟨ns, e1, rfl⟩ := e
    simp only [Rvs] at r
    obtain ⟨v, vs, rfl, r1, r2⟩ := r
    rw [of_int r1, intsOf_rvs e1 r2]
    rfl
theorem intsOf_map : ∀ ns : List Int, intsOf (ns.map D.int) = some ns
  | [] => rfl
  | n :: ns => by
    show (intsOf (ns.map D.int)).map (n :: ·) = _
    rw [intsOf_map ns]
    rfl
def ltD : R2D
  | .int i, .int j, hd, Q => Q (.bl (decide (i < j))) hd
  | .tup xs, .tup ys, hd, Q => ∃ ns ms, intsOf xs = some ns ∧ intsOf ys = some ms ∧ Q (.bl (HT.lexLt ns ms)) hd
  | _, _, _, _ => False
theorem op_ltD (hu : X.A.units < cLine) : OpD X (compareOp .Lt) ltD := by
  intro pins s σ H x y v u d d2 hd Q I rx ry r1 r2 rh q
  cases d with
  | int i =>
    cases d2 with
    | int j =>
      rw [of_int r1] at rx
      rw [of_int r2] at ry
      exact op_lt pins s σ H _ _ v u _ I rx ry ⟨i, j, rfl, rfl, post_mk rv_bl rh q⟩
    | _ => exact q.elim
  | tup ds =>
    cases d2 with
    | tup es =>
      obtain ⟨a, xs, rfl, ha, ra⟩ := of_tup r1
      obtain ⟨b, ys, rfl, hb, rb⟩ := of_tup r2
      obtain ⟨ns, ms, e1, e2, q⟩ := q
      rw [intsOf_rvs e1 ra] at ha
      rw [intsOf_rvs e2 rb] at hb
      exact op_ltT hu pins s σ H _ _ v u _ I rx ry ⟨a, b, ns, ms, rfl, rfl, ha, hb, post_mk rv_bl rh q⟩
    | _ => exact q.elim
  | _ => exact q.elim
def leD : R2D
  | .int i, .int j, hd, Q => Q (.bl (decide (i ≤ j))) hd
  | _, _, _, _ => False
def gtD : R2D
  | .int i, .int j, hd, Q => Q (.bl (decide (j < i))) hd
  | _, _, _, _ => False
def geD : R2D
  | .int i, .int j, hd, Q => Q (.bl (decide (j ≤ i))) hd
  | _, _, _, _ => False
theorem op_leD : OpD X (compareOp .LtE) leD := (opI0_D (g := fun i j => .bl (decide (i ≤ j))) op_le fun _ _ _ _ => rv_bl).imp fun d d2 hd Q q => by
  cases d <;> cases d2 <;> exact q
theorem op_gtD : OpD X (compareOp .Gt) gtD := (opI0_D (g := fun i j => .bl (decide (j < i))) op_gt fun _ _ _ _ => rv_bl).imp fun d d2 hd Q q => by
  cases d <;> cases d2 <;> exact q
theorem op_geD : OpD X (compareOp .GtE) geD := (opI0_D (g := fun i j => .bl (decide (j ≤ i))) op_ge fun _ _ _ _ => rv_bl).imp fun d d2 hd Q q => by
  cases d <;> cases d2 <;> exact q
end

/-! ### equality -/
mutual
/-- data as the library has it; what has no such form becomes a dict -/
def toP : D → PyData
  | .non => .none
  | .bl b => .bool b
  | .int i => .int i
  | .str x => .str x
  | .tup ds => .tuple (toPs ds)
  | .rl ds => .list (toPs ds)
  | .ref _ => .dict []
  | .ty _ => .dict []
def toPs : List D → List PyData
  | [] => []
  | d :: ds => toP d :: toPs ds
end
mutual
def plainD : D → Bool
  | .non | .bl _ | .int _ | .str _ => true
  | .tup ds => plainDs ds
  | .rl ds => plainDs ds
  | .ref _ | .ty _ => false
def plainDs : List D → Bool
  | [] => true
  | d :: ds => plainD d && plainDs ds
end
section
variable {K : PySem.W.Frag} {H : Hp}
mutual
theorem dp_of : ∀ {d : D} {v : V}, plainD d = true → Rv K H d v → Dp K H v (toP d)
  | .non, _, _, r => by rw [of_non r]; simp only [toP]; exact .non
  | .bl b, _, _, r => by rw [of_bl r]; simp only [toP]; exact .bl b
  | .int i, _, _, r => by rw [of_int r]; simp only [toP]; exact .int i
  | .str x, _, _, r => by rw [of_str r]; simp only [toP]; exact .str x
  | .tup ds, _, p, r => by
    obtain ⟨a, xs, rfl, h, rs⟩ := of_tup r
    simp only [toP]
    exact .tup h (dps_of (by simpa only [plainD] using p) rs)
  | .rl ds, _, p, r => by
    obtain ⟨a, xs, rfl, h, rs⟩ := of_rl r
    simp only [toP]
    exact .lst h.sq (dps_of (by simpa only [plainD] using p) rs)
  | .ref _, _, p, _ => by simp [plainD] at p
  | .ty _, _, p, _ => by simp [plainD] at p
theorem dps_of : ∀ {ds : List D} {vs : List V}, plainDs ds = true → Rvs K H ds vs → DpAll K H vs (toPs ds)
  | [], _, _, r => by
    simp only [Rvs] at r
    subst r
    simp only [toPs]
    exact .nil
  | d :: ds, _, p, r => by
    simp only [Rvs] at r
    obtain ⟨v, vs, rfl, r1, r2⟩ := r
    simp only [plainDs, Bool.and_eq_true] at p
    simp only [toPs]
    exact .cons (dp_of p.1 r1) (dps_of p.2 r2)
end
end
/-- as data, a list looked up in the heap -/
def resD (hd : HpD) : D → Option PyData
  | .ref a => match hd a with
    | some (.lst xs) => if plainDs xs = true then some (.list (toPs xs)) else none
    | _ => none
  | d => if plainD d = true then some (toP d) else none
theorem dp_res {K : PySem.W.Frag} {H : Hp} {hd : HpD} {d : D} {v : V} {p : PyData} (rh : RH K H hd) (r : Rv K H d v) (e : resD hd d = some p) : Dp K H v p := by
  have gen : (if plainD d = true then some (toP d) else none) = some p → Dp K H v p := fun e => by
    split at e
    · rename_i hp
      cases e
      exact dp_of hp r
    · cases e
  cases d with
  | ref a =>
    simp only [resD] at e
    split at e
    · rename_i xs hx
      split at e
      · rename_i hp
        cases e
        obtain ⟨vs, hv, rs⟩ := of_lst rh hx
        rw [of_ref r]
        exact .lst (.of hv) (dps_of hp rs)
      · cases e
    · cases e
  | _ => exact gen e
def eqD (neg : Bool) : R2D := fun d e hd Q => match d, e with
  | .int i, .int j => Q (.bl (if neg then !decide (i = j) else decide (i = j))) hd
  | .str i, .str j => Q (.bl (if neg then !decide (i = j) else decide (i = j))) hd
  | d, e => ∃ p q, resD hd d = some p ∧ resD hd e = some q ∧ SeqAt.shaped p = true ∧ SeqAt.shaped q = true ∧ Q (.bl (if neg then !PyData.eqv p q else PyData.eqv p q)) hd
section
variable {X : Cx}
theorem op_eqD' (hu : X.A.units + 64 < cLine) : OpD X (compareOp .Eq) (eqD false) := by
  intro pins s σ H x y v u d d2 hd Q I rx ry r1 r2 rh q
  unfold eqD at q
  split at q
  · rename_i i j
    rw [of_int r1] at rx
    rw [of_int r2] at ry
    have e1 : decide (V.int i = V.int j) = decide (i = j) := by
      by_cases h : i = j
      · subst h; simp
      · rw [decide_eq_false h, decide_eq_false fun z => h (V.int.inj z)]
    exact op_eq pins s σ H _ _ v u _ I rx ry ⟨rfl, by rw [e1]; exact post_mk rv_bl rh q⟩
  · rename_i i j
    rw [of_str r1] at rx
    rw [of_str r2] at ry
    have e1 : decide (V.str i = V.str j) = decide (i = j) := by
      by_cases h : i = j
      · subst h; simp
      · rw [decide_eq_false h, decide_eq_false fun z => h (V.str.inj z)]
    exact op_eq pins s σ H _ _ v u _ I rx ry ⟨rfl, by rw [e1]; exact post_mk rv_bl rh q⟩
  · obtain ⟨p, q', e1, e2, s1, s2, q⟩ := q
    exact op_eqD hu pins s σ H _ _ v u _ I rx ry ⟨p, q', dp_res rh r1 e1, dp_res rh r2 e2, s1, s2, post_mk rv_bl rh q⟩
theorem op_neD' (hu : X.A.units + 64 < cLine) : OpD X (compareOp .NotEq) (eqD true) := by
  intro pins s σ H x y v u d d2 hd Q I rx ry r1 r2 rh q
  unfold eqD at q
  split at q
  · rename_i i j
    rw [of_int r1] at rx
    rw [of_int r2] at ry
    have e1 : (!decide (V.int i = V.int j)) = !decide (i = j) := by
      by_cases h : i = j
      · subst h; simp
      · rw [decide_eq_false h, decide_eq_false fun z => h (V.int.inj z)]
    exact op_ne pins s σ H _ _ v u _ I rx ry ⟨rfl, by rw [e1]; exact post_mk rv_bl rh q⟩
  · rename_i i j
    rw [of_str r1] at rx
    rw [of_str r2] at ry
    have e1 : (!decide (V.str i = V.str j)) = !decide (i = j) := by
      by_cases h : i = j
      · subst h; simp
      · rw [decide_eq_false h, decide_eq_false fun z => h (V.str.inj z)]
    exact op_ne pins s σ H _ _ v u _ I rx ry ⟨rfl, by rw [e1]; exact post_mk rv_bl rh q⟩
  · obtain ⟨p, q', e1, e2, s1, s2, q⟩ := q
    exact op_neD hu pins s σ H _ _ v u _ I rx ry ⟨p, q', dp_res rh r1 e1, dp_res rh r2 e2, s1, s2, post_mk rv_bl rh q⟩
/-- is None, is not None -/
def isNon : D → Bool
  | .non => true
  | _ => false
def isND (neg : Bool) : R2D := fun d e hd Q => match e with
  | .non => Q (.bl (if neg then !isNon d else isNon d)) hd
  | _ => False
theorem isNon_v {K : PySem.W.Frag} {H : Hp} {d : D} {x : V} (r : Rv K H d x) : decide (x = .non) = isNon d := by
  cases d <;> simp only [Rv] at r <;> first
    | (subst r; simp [isNon])
    | (obtain ⟨a, xs, rfl, _⟩ := r; simp [isNon])
theorem op_isND : OpD X (compareOp .Is) (isND false) := by
  intro pins s σ H x y v u d d2 hd Q I rx ry r1 r2 rh q
  cases d2 <;> first | exact q.elim | skip
  exact op_isN pins s σ H _ _ v u _ I rx ry ⟨of_non r2, by rw [isNon_v r1]; exact post_mk rv_bl rh q⟩
theorem op_notND : OpD X (compareOp .IsNot) (isND true) := by
  intro pins s σ H x y v u d d2 hd Q I rx ry r1 r2 rh q
  cases d2 <;> first | exact q.elim | skip
  exact op_notN pins s σ H _ _ v u _ I rx ry ⟨of_non r2, by rw [isNon_v r1]; exact post_mk rv_bl rh q⟩
end
end G
/-! G6: subscripts, slices, methods of lists and dicts, built-ins. -/
namespace G
open PySem PySem.Spec PyProof.Rows L2
section
variable {K : PySem.W.Frag} {H : Hp} {hd : HpD}
theorem atI_rvs {ds : List D} {vs : List V} {i : Int} {d : D} (r : Rvs K H ds vs) (e : atI ds i = some d) : ∃ v, atI vs i = some v ∧ Rv K H d v := by
  unfold atI at e ⊢
  rw [← r.len]
  cases h : ixN ds.length i with
  | none => rw [h] at e; cases e
  | some j =>
    rw [h] at e
    exact r.get e
end
/-- a[b]: lists, tuples, texts -/
def getO (o : Option D) (hd : HpD) (Q : QD) : Prop := match o with
  | some d => Q d hd
  | none => False
theorem getO_of {o : Option D} {hd : HpD} {Q : QD} (h : getO o hd Q) : ∃ d, o = some d ∧ Q d hd := by
  cases o with
  | none => exact h.elim
  | some d => exact ⟨d, rfl, h⟩
def ixD : R2D
  | .tup xs, .int i, hd, Q => getO (atI xs i) hd Q
  | .rl xs, .int i, hd, Q => getO (atI xs i) hd Q
  | .ref a, .int i, hd, Q => ∃ xs, hd a = some (.lst xs) ∧ getO (atI xs i) hd Q
  | .str x, .int i, hd, Q => x.length ≤ sizeLine ∧ ∃ c, atI x.cps.toList i = some c ∧ Q (.str ⟨#[c]⟩) hd
  | _, _, _, _ => False
section
variable {X : Cx} {a b e : Expr} {es : List Expr} {ta tb te : TED} {pos : Pos}
theorem ixD_of {H : Hp} {x y : V} {d d2 : D} {hd : HpD} {Q : QD} (r1 : Rv X.K H d x) (r2 : Rv X.K H d2 y) (rh : RH X.K H hd) (q : ixD d d2 hd Q) : rIx X.K x y H (post X.K H Q) := by
  cases d2 with
  | int i =>
    have e2 := of_int r2
    subst e2
    cases d with
    | tup ds =>
      obtain ⟨p, xs, rfl, h, rs⟩ := of_tup r1
      obtain ⟨d, e, q⟩ := getO_of q
      obtain ⟨v, ev, rv⟩ := atI_rvs rs e
      exact .inr (.inl ⟨p, xs, i, v, rfl, rfl, h, ev, post_mk rv rh q⟩)
    | rl ds =>
      obtain ⟨p, xs, rfl, h, rs⟩ := of_rl r1
      obtain ⟨d, e, q⟩ := getO_of q
      obtain ⟨v, ev, rv⟩ := atI_rvs rs e
      exact .inl ⟨p, xs, i, v, rfl, rfl, h.sq, ev, post_mk rv rh q⟩
    | ref p =>
      have e1 := of_ref r1
      subst e1
      obtain ⟨ds, hp, q⟩ := q
      obtain ⟨xs, hx, rs⟩ := of_lst rh hp
      obtain ⟨d, e, q⟩ := getO_of q
      obtain ⟨v, ev, rv⟩ := atI_rvs rs e
      exact .inl ⟨p, xs, i, v, rfl, rfl, .of hx, ev, post_mk rv rh q⟩
    | str z =>
      have e1 := of_str r1
      subst e1
      obtain ⟨hz, c, ec, q⟩ := q
      exact .inr (.inr ⟨z, i, c, rfl, rfl, hz, ec, post_mk rv_str rh q⟩)
    | _ => exact q.elim
  | _ => cases d <;> exact q.elim
theorem tr_or {K : PySem.W.Frag} {x y : V} {H0 H : Hp} {Q : QD} (t : Tx H0 H) (h : rIx K x y H (post K H Q)) : rIx K x y H (post K H0 Q) := by
  rcases h with ⟨p, xs, i, v, e1, e2, h, ev, q⟩ | ⟨p, xs, i, v, e1, e2, h, ev, q⟩ | ⟨z, i, c, e1, e2, hz, ec, q⟩
  · exact .inl ⟨p, xs, i, v, e1, e2, h, ev, q.tr t⟩
  · exact .inr (.inl ⟨p, xs, i, v, e1, e2, h, ev, q.tr t⟩)
  · exact .inr (.inr ⟨z, i, c, e1, e2, hz, ec, q.tr t⟩)
theorem pd_ix (ha : PD X a ta) (hb : PD X b tb) (hs : PlainIx b) : PD X (.Subscript a b pos) (dOp ixD ta tb) :=
  .of (pe_ix ix_seq pe_w pe_w hs) fun σ H env hd Q rs rh q => (bin_d ha hb rs rh q).mono fun x H1 q1 => q1.mono fun y H2 ⟨d, d2, hd2, t, r1, r2, rh2, q2⟩ => tr_or t (ixD_of r1 r2 rh2 q2)

/-! ### slices -/
def cutD (xs : List D) (lo hi : Option Int) : List D := (xs.drop (HT.sIx xs.length 0 lo)).take (HT.sIx xs.length xs.length hi - HT.sIx xs.length 0 lo)
theorem cut_rvs {K : PySem.W.Frag} {H : Hp} {ds : List D} {vs : List V} (r : Rvs K H ds vs) (lo hi : Option Int) : Rvs K H (cutD ds lo hi) (cutV vs lo hi) := by
  unfold cutD cutV
  rw [← r.len]
  exact (r.drop _).take _
theorem cut_all {ds : List D} {lo hi : Option Int} (h1 : HT.sIx ds.length 0 lo = 0) (h2 : HT.sIx ds.length ds.length hi = ds.length) : cutD ds lo hi = ds := by
  unfold cutD
  rw [h1, h2]
  simp
def slD : D → Option Int → Option Int → HpD → QD → Prop
  | .tup xs, lo, hi, hd, Q => Q (.tup (cutD xs lo hi)) hd
  | .rl xs, lo, hi, hd, Q => ∀ p, hd p = none → Q (.ref p) (put hd p (.lst (cutD xs lo hi)))
  | .ref a, lo, hi, hd, Q => ∃ xs, hd a = some (.lst xs) ∧ ∀ p, hd p = none → Q (.ref p) (put hd p (.lst (cutD xs lo hi)))
  | .str x, lo, hi, hd, Q => x.length ≤ sizeLine ∧ Q (.str (cutS x lo hi)) hd
  | _, _, _, _, _ => False
abbrev TOD := EnvD → HpD → (Option Int → HpD → Prop) → Prop
def postO (K : PySem.W.Frag) (H : Hp) (Q : Option Int → HpD → Prop) : Option Int → Hp → Prop := fun o H' => ∃ hd, Tx H H' ∧ RH K H' hd ∧ Q o hd
structure POD (X : Cx) (e : Option Expr) (t : TOD) : Prop where
  w : ∃ t0 : TO, PO X e t0 ∧ (∀ σ H Q Q', (∀ o H', Q o H' → Q' o H') → t0 σ H Q → t0 σ H Q') ∧ ∀ (σ : L2.St) (H : Hp) (env : EnvD) (hd : HpD) (Q : Option Int → HpD → Prop), RS X.K σ H env → RH X.K H hd → t env hd Q → t0 σ H (postO X.K H Q)
def dNoPart : TOD := fun _ hd Q => Q none hd
def dPart (t : TED) : TOD := fun env hd Q => t env hd fun x h1 => match x with
  | .int i => Q (some i) h1
  | _ => False
theorem pod_none : POD X none dNoPart := ⟨tNoPart, po_none, fun σ H Q Q' k h => k _ _ h, fun σ H env hd Q rs rh q => ⟨hd, .refl, rh, q⟩⟩
theorem pod_some (h : PD X e te) : POD X (some e) (dPart te) := ⟨tPart (wE X e), po_some pe_w, fun σ H Q Q' k h => wE.mono h fun v H' ⟨i, e, q⟩ => ⟨i, e, k _ _ q⟩, fun σ H env hd Q rs rh q =>
  (h.w σ H env hd _ rs rh q).mono fun v H1 ⟨d, h1, t1, r1, rh1, q1⟩ => by
    cases d with
    | int i => exact ⟨i, of_int r1, h1, t1, rh1, q1⟩
    | _ => exact q1.elim⟩
def dSl (te : TED) (tl th : TOD) : TED := fun env hd Q => te env hd fun x h1 => tl env h1 fun lo h2 => th env h2 fun hi h3 => slD x lo hi h3 Q
def rSlAll (K : PySem.W.Frag) : V → Option Int → Option Int → Hp → VK → Prop := fun x lo hi H Q => rSlL K x lo hi H Q ∨ rSlA K x lo hi H Q ∨ rSlS x lo hi H Q
theorem sl_all : SlR X (rSlAll X.K) := sl_list.or (sl_tupA.or sl_str)
theorem slD_of {K : PySem.W.Frag} {H0 H : Hp} {x : V} {d : D} {lo hi : Option Int} {hd : HpD} {Q : QD} (t : Tx H0 H) (r1 : Rv K H d x) (rh : RH K H hd) (q : slD d lo hi hd Q) : rSlAll K x lo hi H (post K H0 Q) := by
  cases d with
  | tup ds =>
    obtain ⟨p, xs, rfl, h, rs⟩ := of_tup r1
    refine .inr (.inl ⟨p, xs, rfl, h, fun ⟨e1, e2⟩ => ?_, fun _ p' hp => (post_tup rh hp (cut_rvs rs lo hi) q).tr t⟩)
    rw [← rs.len] at e1 e2
    have q' : Q (.tup (cutD ds lo hi)) hd := q
    rw [cut_all e1 e2] at q'
    exact (post_mk (rv_tup h rs) rh q').tr t
  | rl ds =>
    obtain ⟨p, xs, rfl, h, rs⟩ := of_rl r1
    exact .inl ⟨p, xs, rfl, h.sq, fun p' hp => (post_new rh hp (cut_rvs rs lo hi) q).tr t⟩
  | ref p =>
    have e1 := of_ref r1
    subst e1
    obtain ⟨ds, hp, q⟩ := q
    obtain ⟨xs, hx, rs⟩ := of_lst rh hp
    exact .inl ⟨p, xs, rfl, .of hx, fun p' hp => (post_new rh hp (cut_rvs rs lo hi) q).tr t⟩
  | str z =>
    have e1 := of_str r1
    subst e1
    exact .inr (.inr ⟨z, rfl, q.1, (post_mk rv_str rh q.2).tr t⟩)
  | _ => exact q.elim
theorem pd_slice {lo hi : Option Expr} {tl th : TOD} {p2 : Pos} (he : PD X e te) (hl : POD X lo tl) (hh : POD X hi th) : PD X (.Subscript e (.Slice lo hi none p2) pos) (dSl te tl th) := by
  obtain ⟨t1, o1, m1, k1⟩ := hl.w
  obtain ⟨t2, o2, m2, k2⟩ := hh.w
  refine .of (pe_slice sl_all pe_w o1 o2) fun σ H env hd Q rs rh q => ?_
  refine (he.w σ H env hd _ rs rh q).mono fun x H1 ⟨d, h1, t1', r1, rh1, q1⟩ => ?_
  refine m1 σ H1 _ _ (fun l H2 ⟨h2, t2', rh2, q2⟩ => ?_) (k1 σ H1 env h1 _ (rs.mono t1') rh1 q1)
  refine m2 σ H2 _ _ (fun u H3 ⟨h3, t3', rh3, q3⟩ => ?_) (k2 σ H2 env h2 _ (rs.mono (t1'.trans t2')) rh2 q2)
  exact slD_of ((t1'.trans t2').trans t3') (r1.mono (t2'.trans t3')) rh3 q3
/-- xs[::-1] of a list -/
def dRevL (te : TED) : TED := fun env hd Q => te env hd fun x h1 => match x with
  | .ref a => ∃ xs, h1 a = some (.lst xs) ∧ ∀ p, h1 p = none → Q (.ref p) (put h1 p (.lst xs.reverse))
  | _ => False
theorem pd_revL {k : Nat} {p1 p2 p3 : Pos} (he : PD X e te) : PD X (.Subscript e (.Slice none none (some (.UnaryOp .USub (.Constant (.int 1) k p1) p2)) p3) pos) (dRevL te) :=
  .of (pe_revL pe_w) fun σ H env hd Q rs rh q => (he.w σ H env hd _ rs rh q).mono fun x H1 ⟨d, h1, t1, r1, rh1, q1⟩ => by
    cases d with
    | ref a =>
      obtain ⟨ds, ha, q1⟩ := q1
      obtain ⟨xs, hx, rs'⟩ := of_lst rh1 ha
      exact ⟨a, xs, of_ref r1, .of hx, fun p hp => (post_new rh1 hp rs'.reverse q1).tr t1⟩
    | _ => exact q1.elim

/-! ### dicts: written keys -/
def keyD : D → Option Key
  | .int i => some (.inl i)
  | .str x => some (.inr x)
  | _ => none
theorem keyD_v {K : PySem.W.Frag} {H : Hp} {d : D} {k : Key} {v : V} (e : keyD d = some k) (r : Rv K H d v) : v = kV k := by
  cases d with
  | int i => cases e; exact of_int r
  | str i => cases e; exact of_str r
  | _ => cases e
def dvalK {κ : Type} [DecidableEq κ] (kvs : List (κ × D)) (k : κ) : Option D := (kvs.find? fun kv => decide (kv.1 = k)).map (·.2)
def dputK {κ : Type} [DecidableEq κ] (kvs : List (κ × D)) (k : κ) (v : D) : List (κ × D) :=
  if (kvs.any fun kv => decide (kv.1 = k)) = true then kvs.map (fun kv => if kv.1 = k then (kv.1, v) else kv) else kvs ++ [(k, v)]
section
variable {κ : Type} [DecidableEq κ] {K : PySem.W.Frag} {H : Hp}
theorem rf_val {kvs : List (κ × D)} {ks : List (κ × V)} (r : RF K H kvs ks) (k : κ) : (dvalK kvs k = none ∧ valV ks k = none) ∨ ∃ d v, dvalK kvs k = some d ∧ valV ks k = some v ∧ Rv K H d v := by
  induction r with
  | nil => exact .inl ⟨rfl, rfl⟩
  | @cons p q ps qs h t ih =>
    by_cases e : p.1 = k
    · refine .inr ⟨p.2, q.2, ?_, ?_, h.2⟩
      · simp [dvalK, List.find?_cons, e]
      · exact valV_pos (by rw [← h.1]; exact e)
    · rw [valV_neg (by rw [← h.1]; exact e)]
      have : dvalK (p :: ps) k = dvalK ps k := by simp [dvalK, List.find?_cons, e]
      rw [this]
      exact ih
theorem rf_len {kvs : List (κ × D)} {ks : List (κ × V)} (r : RF K H kvs ks) : kvs.length = ks.length := Paired.length r
theorem rf_put {kvs : List (κ × D)} {ks : List (κ × V)} (r : RF K H kvs ks) (k : κ) {d : D} {v : V} (rv : Rv K H d v) : RF K H (dputK kvs k d) (putK ks k v) := by
  have ea : (kvs.any fun kv => decide (kv.1 = k)) = (ks.any fun kv => decide (kv.1 = k)) := by
    clear rv
    induction r with
    | nil => rfl
    | @cons p q ps qs h t ih => rw [List.any_cons, List.any_cons, ih, h.1]
  unfold dputK putK
  rw [ea]
  split
  · clear ea
    rename_i h0
    clear h0
    induction r with
    | nil => exact .nil
    | @cons p q ps qs h t ih =>
      rw [List.map_cons, List.map_cons]
      refine .cons ?_ ih
      rw [← h.1]
      by_cases e : p.1 = k
      · rw [if_pos e, if_pos e]; exact ⟨rfl, rv⟩
      · rw [if_neg e, if_neg e]; exact ⟨h.1, h.2⟩
  · clear ea
    rename_i h0
    clear h0
    induction r with
    | nil => exact .cons ⟨rfl, rv⟩ .nil
    | @cons p q ps qs h t ih => exact .cons h ih
end
def dgetD : R2D := fun d k hd Q => match d, keyD k with
  | .ref a, some k => ∃ kvs, hd a = some (.dct kvs) ∧ getO (dvalK kvs k) hd Q
  | _, _ => False
theorem pd_dget (hu : X.A.units + 1 < cLine) (ha : PD X a ta) (hb : PD X b tb) (hs : NoSl b) : PD X (.Subscript a b pos) (dOp dgetD ta tb) :=
  .of (pe_dget hu pe_w pe_w hs) fun σ H env hd Q rs rh q => (bin_d ha hb rs rh q).mono fun x H1 q1 => q1.mono fun y H2 ⟨d, d2, hd2, t, r1, r2, rh2, q2⟩ => by
    unfold dgetD at q2
    split at q2
    · rename_i p k ek
      obtain ⟨kvs, hp, q2⟩ := q2
      obtain ⟨ks, hk, rf⟩ := rh2 _ _ hp
      obtain ⟨d, e, q2⟩ := getO_of q2
      rcases rf_val rf k with ⟨e', _⟩ | ⟨d', v, e', ev, rv⟩
      · rw [e] at e'; cases e'
      · rw [e] at e'
        cases e'
        refine ⟨p, v, of_ref r1, ?_, (post_mk rv rh2 q2).tr t⟩
        rw [keyD_v ek r2, ← ev]
        exact DGet.k hk
    · exact q2.elim
/-- d[k] = v -/
def dsetD : D → D → D → HpD → (HpD → Prop) → Prop := fun o k v hd Q => match o, keyD k with
  | .ref a, some k => ∃ kvs, hd a = some (.dct kvs) ∧ kvs.length < sizeLine ∧ Q (put hd a (.dct (dputK kvs k v)))
  | _, _ => False
theorem set_dctD (hu : X.A.units + 1 < cLine) : SetD X dsetD := by
  intro pins s σ H o i v ov iv u d1 d2 d3 hd Q I ro ri ru r1 r2 r3 rh q
  unfold dsetD at q
  split at q
  · rename_i p k ek
    obtain ⟨kvs, hp, hz, q⟩ := q
    obtain ⟨ks, hk, rf⟩ := rh _ _ hp
    rw [of_ref r1] at ro
    rw [keyD_v ek r2] at ri
    have soft : Soft (.dK ks) := trivial
    refine set_dict hu pins s σ H _ _ v ov iv u _ I ro ri ru ⟨p, _, rfl, DPut.k hk (by rw [← rf_len rf]; exact hz), put hd p (.dct (dputK kvs k d3)), .write hk soft, ?_, q⟩
    exact rh.write hk soft ⟨_, upd_same, (rf_put rf k r3).mono (.write hk soft)⟩
  · exact q.elim
/-- xs[i] = v -/
def lsetD : D → D → D → HpD → (HpD → Prop) → Prop := fun o k v hd Q => match o, k with
  | .ref a, .int k => ∃ xs j, hd a = some (.lst xs) ∧ ixN xs.length k = some j ∧ Q (put hd a (.lst (xs.set j v)))
  | _, _ => False
theorem set_lstD : SetD X lsetD := by
  intro pins s σ H o i v ov iv u d1 d2 d3 hd Q I ro ri ru r1 r2 r3 rh q
  unfold lsetD at q
  split at q
  · rename_i p k
    obtain ⟨xs, j, hp, hj, q⟩ := q
    obtain ⟨ks, hk, rs⟩ := of_lst rh hp
    rw [of_ref r1] at ro
    rw [of_int r2] at ri
    have soft : Soft (.lst ks) := trivial
    refine set_list pins s σ H _ _ v ov iv u _ I ro ri ru ⟨p, ks, k, j, rfl, rfl, hk, by rw [← rs.len]; exact hj, put hd p (.lst (xs.set j d3)), .write hk soft, ?_, q⟩
    exact rh.write hk soft ⟨_, upd_same, (rs.set r3 j).mono (.write hk soft)⟩
  · exact q.elim

/-! ### methods of lists -/
def tyL (x : V) (K : PySem.W.Frag) (H : Hp) : Prop := tyV K "list" x H
def dM (r : D → List D → HpD → QD → Prop) (to : TED) (t : TAD) : TED := fun env hd Q => to env hd fun x h1 => (∃ a xs, x = .ref a ∧ h1 a = some (.lst xs)) ∧ t env h1 fun ds h2 => r x ds h2 Q
def appD : D → List D → HpD → QD → Prop
  | .ref a, [d], hd, Q => ∃ xs, hd a = some (.lst xs) ∧ xs.length < sizeLine ∧ Q .non (put hd a (.lst (xs ++ [d])))
  | _, _, _, _ => False
def mtU (X : Cx) (id : String) : V → List V → Hp → VK → Prop := fun x xs H Q => ∀ pins s σ v us, Inv X pins σ H s → RelV x v → Vals xs us → wpAny (model X.prog X.w) X.A (call (.builtin id) (v :: us)) (EP X pins σ Q) X.xe s
theorem mt_u {id : String} : MtR X id (mtU X id) := fun pins s σ H x xs v us Q I rx rxs h => h pins s σ v us I rx rxs
def MtD (X : Cx) (id : String) (r : D → List D → HpD → QD → Prop) : Prop :=
  ∀ (pins : List (Addr × Obj)) (s : Shared) (σ : L2.St) (H : Hp) (x : V) (xs : List V) (v : Value) (us : List Value) (d : D) (ds : List D) (hd : HpD) (Q : QD), Inv X pins σ H s → RelV x v → Vals xs us → Rv X.K H d x → Rvs X.K H ds xs → RH X.K H hd → r d ds hd Q →
    wpAny (model X.prog X.w) X.A (call (.builtin id) (v :: us)) (EP X pins σ (post X.K H Q)) X.xe s
theorem mtU_of {id : String} {r : D → List D → HpD → QD → Prop} (hc : MtD X id r) {H H1 : Hp} {x : V} {vs : List V} {d : D} {ds : List D} {hd : HpD} {Q : QD} (t : Tx H H1) (r0 : Rv X.K H1 d x) (r1 : Rvs X.K H1 ds vs) (rh : RH X.K H1 hd) (q : r d ds hd Q) : mtU X id x vs H1 (post X.K H Q) :=
  fun pins s σ v us I rx rv => thn (hc pins s σ H1 x vs v us d ds hd Q I rx rv r0 r1 rh q) fun _ _ ⟨v', H', I', r', q'⟩ => ⟨v', H', I', r', q'.tr t⟩
theorem mt_appD : MtD X "list.append" appD := by
  intro pins s σ H x xs v us d ds hd Q I rx rv r0 r1 rh q
  unfold appD at q
  split at q
  · rename_i a d
    obtain ⟨xs', hp, hz, q⟩ := q
    obtain ⟨ks, hk, rs⟩ := of_lst rh hp
    rw [of_ref r0] at rx
    simp only [Rvs] at r1
    obtain ⟨y, _, rfl, ry, rfl⟩ := r1
    have soft : Soft (.lst ks) := trivial
    have rs2 : Rvs X.K H (xs' ++ [d]) (ks ++ [y]) := rs.append (rvs_cons ry rvs_nil)
    exact mt_append pins s σ H _ _ v us _ I rx rv ⟨a, ks, y, rfl, rfl, hk, by rw [← rs.len]; exact hz, .non, put hd a (.lst (xs' ++ [d])), .write hk soft, rv_non, rh.write hk soft ⟨_, upd_same, rs2.mono (.write hk soft)⟩, q⟩
  · exact q.elim
def popD : D → List D → HpD → QD → Prop
  | .ref a, [], hd, Q => ∃ xs, hd a = some (.lst xs) ∧ getO xs.getLast? (put hd a (.lst xs.dropLast)) Q
  | _, _, _, _ => False
theorem Rvs.dropLast {K : PySem.W.Frag} {H : Hp} {ds : List D} {vs : List V} (h : Rvs K H ds vs) : Rvs K H ds.dropLast vs.dropLast := by
  rw [List.dropLast_eq_take, List.dropLast_eq_take, h.len]
  exact h.take _
theorem mt_popD : MtD X "list.pop" popD := by
  intro pins s σ H x xs v us d ds hd Q I rx rv r0 r1 rh q
  unfold popD at q
  split at q
  · rename_i a
    obtain ⟨xs', hp, q⟩ := q
    obtain ⟨ks, hk, rs⟩ := of_lst rh hp
    rw [of_ref r0] at rx
    simp only [Rvs] at r1
    subst r1
    obtain ⟨d, e, q⟩ := getO_of q
    rw [List.getLast?_eq_getElem?] at e
    obtain ⟨y, ey, ry⟩ := rs.get e
    have soft : Soft (.lst ks) := trivial
    exact mt_pop pins s σ H _ _ v us _ I rx rv ⟨a, ks, y, rfl, rfl, hk, by rw [← rs.len]; exact ey, d, put hd a (.lst xs'.dropLast), .write hk soft, ry.mono (.write hk soft), rh.write hk soft ⟨_, upd_same, rs.dropLast.mono (.write hk soft)⟩, q⟩
  · exact q.elim
def remD : D → List D → HpD → QD → Prop
  | .ref a, [.int k], hd, Q => ∃ (ns : List Int) (j : Nat), hd a = some (.lst (ns.map D.int)) ∧ ns[j]? = some k ∧ (∀ m : Nat, m < j → ns[m]? ≠ some k) ∧ Q .non (put hd a (.lst ((ns.eraseIdx j).map D.int)))
  | _, _, _, _ => False
theorem rvs_ints_of {K : PySem.W.Frag} {H : Hp} {ns : List Int} {vs : List V} (h : Rvs K H (ns.map D.int) vs) : vs = ns.map V.int := intsOf_rvs (intsOf_map ns) h
theorem ints_rvs {K : PySem.W.Frag} {H : Hp} {ns : List Int} : Rvs K H (ns.map D.int) (ns.map V.int) := rvs_ints ns
def extD : D → List D → HpD → QD → Prop
  | .ref a, [.ref b], hd, Q => ∃ xs ys, hd a = some (.lst xs) ∧ hd b = some (.lst ys) ∧ xs.length + ys.length ≤ sizeLine ∧ Q .non (put hd a (.lst (xs ++ ys)))
  | _, _, _, _ => False
theorem mt_extD : MtD X "list.extend" extD := by
  intro pins s σ H x xs v us d ds hd Q I rx rv r0 r1 rh q
  unfold extD at q
  split at q
  · rename_i a b
    obtain ⟨xs', ys', hp, hp2, hz, q⟩ := q
    obtain ⟨ks, hk, rs⟩ := of_lst rh hp
    obtain ⟨ls, hl, rs2⟩ := of_lst rh hp2
    rw [of_ref r0] at rx
    simp only [Rvs] at r1
    obtain ⟨y, _, rfl, ry, rfl⟩ := r1
    have ey := of_ref ry
    subst ey
    have soft : Soft (.lst ks) := trivial
    exact mt_extend pins s σ H _ _ v us _ I rx rv ⟨a, b, ks, ls, rfl, rfl, hk, hl, by rw [← rs.len, ← rs2.len]; exact hz, .non, put hd a (.lst (xs' ++ ys')), .write hk soft, rv_non, rh.write hk soft ⟨_, upd_same, (rs.append rs2).mono (.write hk soft)⟩, q⟩
  · exact q.elim
section
variable {o : Expr} {name : Str} {id : String} {apos cpos : Pos} {to : TED} {t : TAD} {r : D → List D → HpD → QD → Prop}
theorem tyV_lst {K : PySem.W.Frag} {H : Hp} {hd : HpD} {d : D} {x : V} (rd : Rv K H d x) (rh : RH K H hd) (h : ∃ a xs, d = .ref a ∧ hd a = some (.lst xs)) : tyV K "list" x H := by
  obtain ⟨a, xs, rfl, ha⟩ := h
  obtain ⟨vs, hv, _⟩ := of_lst rh ha
  rw [of_ref rd]
  exact .inl ⟨rfl, vs, .of hv⟩
theorem pd_lm (h0 : PE X (.Call (.Attribute o name apos) (e :: es) [] cpos) (tBM X.K "list" (mtU X id) (wE X o) (wA X (e :: es)))) (hm : MtD X id r) (ho : PD X o to) (ha : PAD X (e :: es) t) : PD X (.Call (.Attribute o name apos) (e :: es) [] cpos) (dM r to t) :=
  .of h0 fun σ H env hd Q rs rh q => (ho.w σ H env hd _ rs rh q).mono fun x H1 ⟨d, h1, t1, r1, rh1, ty, q1⟩ =>
    ⟨tyV_lst r1 rh1 ty, (ha.w σ H1 env h1 _ (rs.mono t1) rh1 q1).mono fun vs H2 ⟨ds, h2, t2, r2, rh2, q2⟩ => mtU_of hm (t1.trans t2) (r1.mono t2) r2 rh2 q2⟩
theorem pd_lm0 (h0 : PE X (.Call (.Attribute o name apos) [] [] cpos) (tBM0 X.K "list" (mtU X id) (wE X o))) (hm : MtD X id r) (ho : PD X o to) : PD X (.Call (.Attribute o name apos) [] [] cpos) (dM r to dNil) :=
  .of h0 fun σ H env hd Q rs rh q => (ho.w σ H env hd _ rs rh q).mono fun x H1 ⟨d, h1, t1, r1, rh1, ty, q1⟩ =>
    ⟨tyV_lst r1 rh1 ty, mtU_of hm t1 r1 rvs_nil rh1 q1⟩
end
end
end G
/-! G7: what is walked: lists, tuples, ranges, enumerate, zip (each over lists or tuples); sum, max, min of both. -/
namespace G
open PySem PySem.Spec PyProof.Rows L2

/-! ### a list (false) or a tuple (true) -/
def SqK (k : Bool) (K : PySem.W.Frag) (H : Hp) (a : Addr) (xs : List V) : Prop := match k with
  | false => SqL K H a xs
  | true => SqT K H a xs
def IsK (k : Bool) (h : Heap) (a : Addr) (items : Array Value) : Prop := match k with
  | false => h.IsList a items
  | true => h.IsTuple a items
def ItK (k : Bool) (h : Heap) (it a : Addr) (i : Nat) : Prop := match k with
  | false => h.IsListIter it a i
  | true => h.IsTupleIter it a i
def itO (k : Bool) (a : Addr) : Obj := match k with
  | false => { cls := .type "list_iterator", data := .fields #[.ref a, .int 0 0] }
  | true => { cls := .type "tuple_iterator", data := .fields #[.ref a, .int 0 0] }
section
variable {k : Bool} {h h' : Heap} {a it : Addr} {items : Array Value} {i : Nat}
theorem IsK.lt (x : IsK k h a items) : a < h.objs.size := by
  cases k with
  | false => obtain ⟨_, e, _⟩ := x; exact Heap.lt_size e
  | true => obtain ⟨_, e, _⟩ := x; exact Heap.lt_size e
theorem ItK.lt (x : ItK k h it a i) : it < h.objs.size := by
  cases k with
  | false => obtain ⟨_, e, _⟩ := x; exact Heap.lt_size e
  | true => obtain ⟨_, e, _⟩ := x; exact Heap.lt_size e
theorem IsK.at (x : IsK k h a items) (e : ∀ o, h.get? a = some o → h'.get? a = some o) : IsK k h' a items := by
  cases k with
  | false => exact Heap.IsList.at x e
  | true => exact Heap.IsTuple.at x e
theorem ItK.at (x : ItK k h it a i) (e : ∀ o, h.get? it = some o → h'.get? it = some o) : ItK k h' it a i := by
  cases k with
  | false => exact Heap.IsListIter.at x e
  | true => exact Heap.IsTupleIter.at x e
theorem ItK.cell (x : ItK k h it a i) : ∃ o, h.get? it = some o ∧ ∀ v, o.data ≠ .cell v := by
  cases k with
  | false => obtain ⟨o, e, _, d⟩ := x; exact ⟨o, e, fun v z => by rw [d] at z; cases z⟩
  | true => obtain ⟨o, e, _, d⟩ := x; exact ⟨o, e, fun v z => by rw [d] at z; cases z⟩
theorem itO_it {h : Heap} (e : h.get? it = some (itO k a)) : ItK k h it a 0 := by
  cases k with
  | false => exact ⟨_, e, rfl, rfl⟩
  | true => exact ⟨_, e, rfl, rfl⟩
theorem beginsK : Begins (.ref a) (itO k a) fun h => IsK k h a items := by
  cases k with
  | false => exact begins_list a items
  | true => exact begins_tuple a items
theorem drawsK {prog : Program} {w : World} {A : Around} (hh : A.handled = none) (hne : a ≠ it) : Draws prog w A it [it, a] items.size (fun i v => items[i]? = some v) (fun i h => ItK k h it a i ∧ IsK k h a items) := by
  cases k with
  | false => exact Draws.list hh it a hne items
  | true => exact Draws.tuple hh it a hne items
theorem walksK {prog : Program} {w : World} {A : Around} (hh : A.handled = none) (hne : a ≠ it) : Walks prog w A it [it, a] [it] items.size (fun i v => items[i]? = some v) (fun i h => ItK k h it a i ∧ IsK k h a items) := by
  cases k with
  | false => exact Walks.list hh it a hne items
  | true => exact Walks.tuple hh it a hne items
end
section
variable {X : Cx} {pins : List (Addr × Obj)} {σ : L2.St} {H : Hp} {s : Shared} {k : Bool} {a : Addr} {xs ys : List V}
theorem seqK (I : Inv X pins σ H s) (h : SqK k X.K H a xs) : ∃ its : List Value, Vals xs its ∧ IsK k s.heap a its.toArray ∧ xs.length ≤ sizeLine := by
  cases k with
  | false => obtain ⟨its, r, p, z⟩ := I.list h; exact ⟨its, r, p.isList, z⟩
  | true => obtain ⟨its, r, p, z⟩ := I.tuple h; exact ⟨its, r, p, z⟩
theorem seqK_inj (I : Inv X pins σ H s) (h : SqK k X.K H a xs) (h' : SqK k X.K H a ys) : xs = ys := by
  cases k with
  | false => exact I.list_inj h h'
  | true => exact I.tuple_inj h h'
end

/-! ### enumerate -/
theorem meets_enum1 {v : Value} {o : Obj} {H : Heap → Prop} (B : Begins v o H) :
    Meets (Builtin.«enumerate.__new__» ⟨[.type "enumerate", v], []⟩) (fun _ R s => H s.heap ∧
      R (.ok (.ret (.ref (s.heap.push o).objs.size))) { s with heap := (s.heap.push o).push { cls := .type "enumerate", data := .fields #[.none, .bool false, .ref s.heap.objs.size, rawInt 0, .none, .none] } }) :=
  .of_wp fun prog w A R s h => by
    obtain ⟨hp, g, d, tk, os⟩ := s
    obtain ⟨h1, h⟩ := h
    have hsub := sub_enumerate
    have q1 : ∀ {A' : Around} {E : Value → Shared → Prop} {Q : Value → Shared → Prop}, Q (.ref hp.objs.size) ⟨hp.push o, g, d, tk, os⟩ → wpAny (model prog w) A' (pyIter v) Q E ⟨hp, g, d, tk, os⟩ :=
      fun q => B.iter prog w _ _ ⟨hp, g, d, tk, os⟩ _ h1 q
    wp_walk using q1
    refine wpAny_stack_any fun st => wpAny_pure ?_
    split
    · rename_i c _ _ _ _ _
      cases (c == Value.type "enumerate")
      all_goals
        wp_walk using q1
        exact ⟨_, rfl, h⟩
    · wp_walk using q1
      exact ⟨_, rfl, h⟩
section
variable {prog : Program} {w : World} {A : Around} {E : Value → Shared → Prop} {s : Shared}
theorem call_enum1 {v : Value} {o : Obj} {H : Heap → Prop} {Q : Value → Shared → Prop} (B : Begins v o H) (h1 : H s.heap)
    (h : ∀ h', IsEnum h' (s.heap.objs.size + 1) s.heap.objs.size 0 .none → h'.get? s.heap.objs.size = some o → h'.objs.size = s.heap.objs.size + 2 →
      (∀ b o, s.heap.get? b = some o → h'.get? b = some o) → Q (.ref (s.heap.objs.size + 1)) { s with heap := h' }) :
    wpAny (model prog w) A (call (.type "enumerate") [v]) Q E s := by
  refine callType_new F.called_enumerate (by decide) (F.typeCall_enumerate_1 _) (F.newCall_enumerate_1 _) (fun obj => F.args_object_init_2 obj _) F.entry_enumerate_new (meets_enum1 B) ⟨h1, ?_⟩
  have hz : (s.heap.push o).objs.size = s.heap.objs.size + 1 := Heap.size_push ..
  show _ ∧ _
  rw [hz]
  have he := Heap.get?_push_size (s.heap.push o) (o := { cls := .type "enumerate", data := .fields #[.none, .bool false, .ref s.heap.objs.size, rawInt 0, .none, .none] }) rfl
  rw [hz] at he
  exact ⟨⟨_, he, rfl⟩, h _ he (Heap.get?_push_of_some _ (Heap.get?_push_size _ B.free)) (by rw [Heap.size_push, hz]) fun b o x => Heap.get?_push_of_some _ (Heap.get?_push_of_some _ x)⟩
end
def IteK (k : Bool) (K : PySem.W.Frag) (a : Addr) : It :=
  ⟨fun i H => ∃ xs x, SqK k K H a xs ∧ xs[i]? = some x,
   fun i H v H' => ∃ T x, v = .ref T ∧ H T = none ∧ H' = upd H T (.tup [.int (i : Nat), x]) ∧ ∀ xs, SqK k K H a xs → xs[i]? = some x,
   fun i H => ∃ xs, SqK k K H a xs ∧ i = xs.length⟩
theorem turn_enumK {P : Program} {w : World} {K : PySem.W.Frag} {elts : List Expr} {kk : Nat} {tpos : Pos} {k : Bool} (a e it : Addr) (hae : a ≠ e) (hai : a ≠ it) (hei : e ≠ it) :
    Turn P w K (.Tuple elts kk tpos) (IteK k K a) [e, it] e (fun i h => (∃ old, IsEnum h e it (i : Nat) old) ∧ ItK k h it a i) where
  mem := by simp
  obj := fun i h st b hb => by
    obtain ⟨⟨old, he⟩, hit⟩ := st
    have e' : b = e ∨ b = it := by simpa using hb
    rcases e' with rfl | rfl
    · exact ⟨_, he, fun v z => nomatch z⟩
    · exact hit.cell
  keep := fun i h h' st kp => ⟨⟨_, kp e (by simp) _ st.1.choose_spec⟩, st.2.at fun o q => kp it (by simp) o q⟩
  item := by
    intro X hP hw hK hc i pins s σ H E I hf st hg
    subst hP hw hK
    obtain ⟨⟨old, he⟩, hit⟩ := st
    obtain ⟨xs, x, hq, hx⟩ := hg
    obtain ⟨its, rv, p, hz⟩ := seqK I hq
    obtain ⟨u, hu, ru⟩ := rv.get hx
    have hil : i < its.toArray.size := by simpa using (List.getElem?_eq_some_iff.mp hu).1
    have D := drawsK (prog := X.prog) (w := X.w) (A := X.A.in1) (k := k) (items := its.toArray) (show X.A.in1.handled = none from I.ok.hd hc) hai
    refine wpAny_pyNext_enum_itemD D he ⟨hit, p⟩ hil hei (by simp; exact ⟨hei, Ne.symm hae⟩) fun y h' tk hy ho hst hT hsz hk => ?_
    have ey : y = u := by
      have : its[i]? = some y := by simpa using hy
      rw [hu] at this
      exact (Option.some.inj this).symm
    subst ey
    refine ⟨_, rfl, wpAny_letOwnedTupleGo_enum (s := { s with heap := h', toks := tk + 1 }) ho fun h'' he' sb => ?_⟩
    have el : e < s.heap.objs.size := Heap.lt_size he
    have tl : it < s.heap.objs.size := hit.lt
    have hT2 : h''.get? s.heap.objs.size = some { cls := .type "tuple", data := .seq #[.int i tk, y] } := (sb.2 _ (Nat.ne_of_gt el)).trans hT
    have new : ObjOk X.prog X.w (upd H s.heap.objs.size (.tup [.int (i : Nat), x])) h'' s.heap.objs.size (.tup [.int (i : Nat), x]) :=
      ⟨by show 2 ≤ sizeLine; decide, [.int i tk, y], .cons ⟨_, rfl⟩ (.cons ru .nil), ⟨_, hT2, rfl, _, rfl⟩⟩
    have J := I.turnedNew (t' := tk + 1) (ch := [e, it]) (fun b ob hb q => (sb.2 b (fun z => hb (by simp [z]))).trans (hk b ob (fun z => hb (by simp [z])) (fun z => hb (by simp [z])) q)) hf (Nat.le_refl _) new
    refine ⟨.ref s.heap.objs.size, _, J, rfl, ⟨_, x, rfl, I.hok.fresh (Nat.le_refl _), rfl, fun ys hy => by rw [seqK_inj I hy hq]; exact hx⟩, ⟨⟨y, ?_⟩, hst.1.at fun o q => (sb.2 it (Ne.symm hei)).trans q⟩, fun b hb => ?_⟩
    · rw [show ((i + 1 : Nat) : Int) = (i : Int) + 1 by omega]; exact he'
    · have hb' : b < s.heap.objs.size := by
        have e' : b = e ∨ b = it := by simpa using hb
        rcases e' with z | z
        · rw [z]; exact el
        · rw [z]; exact tl
      rw [upd_ne (Nat.ne_of_lt hb')]
      exact (hf b hb).1
  done := by
    intro X hP hw hK hc i pins s σ H E I hf st hg
    subst hP hw hK
    obtain ⟨⟨old, he⟩, hit⟩ := st
    obtain ⟨xs, hq, rfl⟩ := hg
    obtain ⟨its, rv, p, hz⟩ := seqK I hq
    have D := drawsK (prog := X.prog) (w := X.w) (A := X.A.in1) (k := k) (items := its.toArray) (show X.A.in1.handled = none from I.ok.hd hc) hai
    have hl : its.toArray.size = xs.length := by rw [List.size_toArray]; exact rv.length.symm
    obtain ⟨f0, f1, f2, f3, f4, f5⟩ := hf it (by simp)
    refine wpAny_pyNext_enum_endD D he ⟨by rw [hl]; exact hit, p⟩ fun h' hx => ⟨rfl, I.turned (t' := s.toks) (fun b o hb q => hx b o hb q) f0 f1 f3 f4 f5⟩
  self := fun A i s Q E st h => let ⟨⟨_, he⟩, _⟩ := st; wpAny_pyIter_enum he h

/-! ### zip -/
def ItzK (k1 k2 : Bool) (K : PySem.W.Frag) (a b : Addr) : It :=
  ⟨fun i H => ∃ (xs ys : List V) (x y : V), SqK k1 K H a xs ∧ SqK k2 K H b ys ∧ xs[i]? = some x ∧ ys[i]? = some y,
   fun i H v H' => ∃ T x y, v = .ref T ∧ H T = none ∧ H' = upd H T (.tup [x, y]) ∧ (∀ xs, SqK k1 K H a xs → xs[i]? = some x) ∧ ∀ ys, SqK k2 K H b ys → ys[i]? = some y,
   fun i H => ∃ xs ys : List V, SqK k1 K H a xs ∧ SqK k2 K H b ys ∧ i = min xs.length ys.length⟩
structure ZipOff (z TI TO i1 i2 a b : Addr) : Prop where
  sep : ZipSep2 z TI TO i1 i2 [i1, a] [i2, b]
  a1 : a ≠ i1
  b2 : b ≠ i2
  i1z : i1 ≠ z
  i2z : i2 ≠ z
theorem turn_zipK {P : Program} {w : World} {K : PySem.W.Frag} {elts : List Expr} {kk : Nat} {tpos : Pos} {k1 k2 : Bool} {a b z TI TO i1 i2 : Addr} (D : ZipOff z TI TO i1 i2 a b) :
    Turn P w K (.Tuple elts kk tpos) (ItzK k1 k2 K a b) [z, TI, TO, i1, i2] z (fun i h => IsZip h z TI TO .none ∧ IsTupOf2 h TI (.ref i1) (.ref i2) ∧ (∃ x y, IsTupOf2 h TO x y) ∧ ItK k1 h i1 a i ∧ ItK k2 h i2 b i) where
  mem := by simp
  obj := fun i h st c hc => by
    obtain ⟨hz, hTI, ⟨x, y, hTO⟩, h1, h2⟩ := st
    have e' : c = z ∨ c = TI ∨ c = TO ∨ c = i1 ∨ c = i2 := by simpa using hc
    rcases e' with rfl | rfl | rfl | rfl | rfl
    · exact ⟨_, hz, fun v q => nomatch q⟩
    · exact ⟨_, hTI, fun v q => nomatch q⟩
    · exact ⟨_, hTO, fun v q => nomatch q⟩
    · exact h1.cell
    · exact h2.cell
  keep := fun i h h' st kp => by
    obtain ⟨hz, hTI, ⟨x, y, hTO⟩, h1, h2⟩ := st
    exact ⟨kp z (by simp) _ hz, kp TI (by simp) _ hTI, ⟨x, y, kp TO (by simp) _ hTO⟩, h1.at fun o q => kp i1 (by simp) o q, h2.at fun o q => kp i2 (by simp) o q⟩
  item := by
    intro X hP hw hK hc i pins s σ H E I hf st hg
    subst hP hw hK
    obtain ⟨hz, hTI, ⟨x0, y0, hTO⟩, h1, h2⟩ := st
    obtain ⟨xs, ys, x, y, hqx, hqy, hx, hy⟩ := hg
    obtain ⟨its, rv, p, _⟩ := seqK I hqx
    obtain ⟨its2, rv2, p2, _⟩ := seqK I hqy
    obtain ⟨u, hu, ru⟩ := rv.get hx
    obtain ⟨u2, hu2, ru2⟩ := rv2.get hy
    have D1 := drawsK (prog := X.prog) (w := X.w) (A := X.A.in1) (k := k1) (items := its.toArray) (show X.A.in1.handled = none from I.ok.hd hc) D.a1
    have D2 := drawsK (prog := X.prog) (w := X.w) (A := X.A.in1) (k := k2) (items := its2.toArray) (show X.A.in1.handled = none from I.ok.hd hc) D.b2
    have zl : z < s.heap.objs.size := Heap.lt_size hz
    refine wpAny_pyNext_zipD2_item D.sep D1 D2 hz hTI hTO ⟨h1, p⟩ ⟨h2, p2⟩ (by simpa using (List.getElem?_eq_some_iff.mp hu).1) (by simpa using (List.getElem?_eq_some_iff.mp hu2).1) fun y1 y2 h' tk e1 e2 z' TO' st1 st2 hT hsz hk => ?_
    have q1 : y1 = u := by
      have : its[i]? = some y1 := by simpa using e1
      rw [hu] at this
      exact (Option.some.inj this).symm
    have q2 : y2 = u2 := by
      have : its2[i]? = some y2 := by simpa using e2
      rw [hu2] at this
      exact (Option.some.inj this).symm
    subst q1 q2
    refine ⟨_, rfl, wpAny_letOwnedTupleGo_zip (s := { s with heap := h', toks := tk }) z' fun h'' z'' sb => ?_⟩
    have hT2 : h''.get? s.heap.objs.size = some { cls := .type "tuple", data := .seq #[y1, y2] } := (sb.2 _ (Nat.ne_of_gt zl)).trans hT
    have new : ObjOk X.prog X.w (upd H s.heap.objs.size (.tup [x, y])) h'' s.heap.objs.size (.tup [x, y]) := ⟨by show 2 ≤ sizeLine; decide, [y1, y2], .cons ru (.cons ru2 .nil), ⟨_, hT2, rfl, _, rfl⟩⟩
    have J := I.turnedNew (t' := tk) (ch := [z, TI, TO, i1, i2]) (fun c o hb q => (sb.2 c (fun q' => hb (by simp [q']))).trans (hk c o (fun q' => hb (by simp [q'])) (fun q' => hb (by simp [q'])) (fun q' => hb (by simp [q'])) (fun q' => hb (by simp [q'])) q)) hf (Nat.le_refl _) new
    refine ⟨.ref s.heap.objs.size, _, J, rfl, ⟨_, x, y, rfl, I.hok.fresh (Nat.le_refl _), rfl, fun l hl => by rw [seqK_inj I hl hqx]; exact hx, fun l hl => by rw [seqK_inj I hl hqy]; exact hy⟩, ⟨z'', ?_, ⟨y1, y2, ?_⟩, ?_, ?_⟩, fun c hcm => ?_⟩
    · refine (sb.2 _ D.sep.TIz).trans (hk _ _ D.sep.TIz D.sep.TITO D.sep.TIi1 D.sep.TIi2 hTI)
    · exact (sb.2 _ D.sep.TOz).trans TO'
    · exact st1.1.at fun o q => (sb.2 _ D.i1z).trans q
    · exact st2.1.at fun o q => (sb.2 _ D.i2z).trans q
    · have hlt : c < s.heap.objs.size := by
        have e' : c = z ∨ c = TI ∨ c = TO ∨ c = i1 ∨ c = i2 := by simpa using hcm
        rcases e' with q | q | q | q | q
        · rw [q]; exact zl
        · rw [q]; exact Heap.lt_size hTI
        · rw [q]; exact Heap.lt_size hTO
        · rw [q]; exact h1.lt
        · rw [q]; exact h2.lt
      rw [upd_ne (Nat.ne_of_lt hlt)]
      exact (hf c hcm).1
  done := by
    intro X hP hw hK hc i pins s σ H E I hf st hg
    subst hP hw hK
    obtain ⟨hz, hTI, ⟨x0, y0, hTO⟩, h1, h2⟩ := st
    obtain ⟨xs, ys, hqx, hqy, rfl⟩ := hg
    obtain ⟨its, rv, p, _⟩ := seqK I hqx
    obtain ⟨its2, rv2, p2, _⟩ := seqK I hqy
    have l1 : its.toArray.size = xs.length := by rw [List.size_toArray]; exact rv.length.symm
    have l2 : its2.toArray.size = ys.length := by rw [List.size_toArray]; exact rv2.length.symm
    have D1 := drawsK (prog := X.prog) (w := X.w) (A := X.A.in1) (k := k1) (items := its.toArray) (show X.A.in1.handled = none from I.ok.hd hc) D.a1
    have D2 := drawsK (prog := X.prog) (w := X.w) (A := X.A.in1) (k := k2) (items := its2.toArray) (show X.A.in1.handled = none from I.ok.hd hc) D.b2
    exact wpAny_pyNext_zipD2_end D.sep D1 D2 hz hTI hTO ⟨h1, p⟩ ⟨h2, p2⟩ (by omega) (by omega) (by omega) fun h' tk hk => ⟨rfl, I.turnedL (t' := tk) (ch := [z, TI, TO, i1, i2]) (fun c o hb q =>
      hk c o (fun q' => hb (by simp [q'])) (fun q' => hb (by simp [q'])) (fun q' => hb (by simp [q'])) (fun q' => hb (by simp [q'])) q) hf⟩
  self := fun A i s Q E st h => wpAny_pyIter_zip st.1 h

/-! ### sources over data -/
section
variable {X : Cx} {tg e e2 : Expr} {te te2 : TED} {pos : Pos}
/-- the items of a list or tuple -/
def seqS (hd : HpD) : D → Option Src
  | .tup xs => some ⟨xs, fun _ => True⟩
  | .rl xs => some ⟨xs, fun _ => True⟩
  | .ref a => match hd a with
    | some (.lst xs) => some ⟨xs, fun h => h a = some (.lst xs)⟩
    | _ => none
  | _ => none
/-- what a source's sequence is in the heap below, now and later -/
theorem seqS_at {K : PySem.W.Frag} {H : Hp} {hd : HpD} {d : D} {v : V} {S : Src} (rh : RH K H hd) (r : Rv K H d v) (e : seqS hd d = some S) :
    ∃ k a, v = .ref a ∧ S.keeps hd ∧ ∀ H1 h1, Tx H H1 → RH K H1 h1 → S.keeps h1 → ∃ xs, SqK k K H1 a xs ∧ Rvs K H1 S.items xs := by
  cases d with
  | tup ds =>
    cases e
    obtain ⟨a, xs, rfl, h, rs⟩ := of_tup r
    exact ⟨true, a, rfl, trivial, fun H1 h1 t _ _ => ⟨xs, t.sqT h, rs.mono t⟩⟩
  | rl ds =>
    cases e
    obtain ⟨a, xs, rfl, h, rs⟩ := of_rl r
    exact ⟨false, a, rfl, trivial, fun H1 h1 t _ _ => ⟨xs, (t.rdL h).sq, rs.mono t⟩⟩
  | ref a =>
    simp only [seqS] at e
    split at e
    · rename_i ds hds
      cases e
      exact ⟨false, a, of_ref r, hds, fun H1 h1 t rh1 kp => by
        obtain ⟨xs, hx, rs⟩ := of_lst rh1 kp
        exact ⟨xs, .of hx, rs⟩⟩
    · cases e
  | _ => cases e
def srcO (o : Option Src) (hd : HpD) (R : Src → HpD → Prop) : Prop := match o with
  | some S => R S hd
  | none => False
theorem srcO_of {o : Option Src} {hd : HpD} {R : Src → HpD → Prop} (h : srcO o hd R) : ∃ S, o = some S ∧ R S hd := by
  cases o with
  | none => exact h.elim
  | some S => exact ⟨S, rfl, h⟩
def diSeq (te : TED) : TID := fun env hd R => te env hd fun d h1 => srcO (seqS h1 d) h1 R
theorem gives_list {K : PySem.W.Frag} {H : Hp} {a : Addr} {S : Src} (g : ∀ H1 h1, Tx H H1 → RH K H1 h1 → S.keeps h1 → ∃ xs, SqL K H1 a xs ∧ Rvs K H1 S.items xs) : Gives K H (Itl K a) S where
  goes := fun i H1 h1 t rh kp hi => by
    obtain ⟨xs, hx, rs⟩ := g H1 h1 t rh kp
    obtain ⟨v, hv, _⟩ := rs.get (List.getElem?_eq_getElem hi)
    exact ⟨xs, v, hx, hv⟩
  stops := fun H1 h1 t rh kp => by
    obtain ⟨xs, hx, rs⟩ := g H1 h1 t rh kp
    exact ⟨xs, hx, Nat.le_of_eq rs.len.symm⟩
  yields := fun i H1 h1 x H2 t rh kp hi y => by
    obtain ⟨xs, hx, rs⟩ := g H1 h1 t rh kp
    obtain ⟨rfl, y⟩ := y
    obtain ⟨d, hd, rd⟩ := rs.got (y xs hx)
    exact ⟨d, hd, .refl, rd, fun _ z => z⟩
theorem gives_tup {K : PySem.W.Frag} {H : Hp} {a : Addr} {S : Src} (g : ∀ H1 h1, Tx H H1 → RH K H1 h1 → S.keeps h1 → ∃ xs, SqT K H1 a xs ∧ Rvs K H1 S.items xs) : Gives K H (Itt K a) S where
  goes := fun i H1 h1 t rh kp hi => by
    obtain ⟨xs, hx, rs⟩ := g H1 h1 t rh kp
    obtain ⟨v, hv, _⟩ := rs.get (List.getElem?_eq_getElem hi)
    exact ⟨xs, v, hx, hv⟩
  stops := fun H1 h1 t rh kp => by
    obtain ⟨xs, hx, rs⟩ := g H1 h1 t rh kp
    exact ⟨xs, hx, Nat.le_of_eq rs.len.symm⟩
  yields := fun i H1 h1 x H2 t rh kp hi y => by
    obtain ⟨xs, hx, rs⟩ := g H1 h1 t rh kp
    obtain ⟨rfl, y⟩ := y
    obtain ⟨d, hd, rd⟩ := rs.got (y xs hx)
    exact ⟨d, hd, .refl, rd, fun _ z => z⟩
/-- a list or a tuple, whichever it is -/
def iAny (K : PySem.W.Frag) (tl : TE) : TI := fun σ H R => tl σ H fun x H1 => ∃ a, x = .ref a ∧ (((∃ xs, SqL K H1 a xs) ∧ R (Itl K a) H1) ∨ ((∃ xs, SqT K H1 a xs) ∧ R (Itt K a) H1))
theorem pi_any {te : TE} (he : PE X e te) : PI X tg e (iAny X.K te) := by
  refine ⟨fun pins s σ H R I h => ?_⟩
  refine thn (he.run pins s σ H _ I h) fun v s1 ⟨x, H1, I1, r1, a, ex, q⟩ => ?_
  subst ex
  cases r1
  rcases q with ⟨⟨xs, hq⟩, q⟩ | ⟨⟨xs, hq⟩, q⟩
  · obtain ⟨its, rv, p, hz⟩ := I1.list hq
    refine wpAny_pyIter_list p.isList ⟨s1.heap.objs.size, [s1.heap.objs.size], _, _, H1, rfl, I1.kept (t' := s1.toks) fun b o e => Heap.get?_push_of_some _ e, turn_list a _, ⟨_, Heap.get?_push_size _ rfl, rfl, rfl⟩, fun b hb => ?_, q⟩
    have e : b = s1.heap.objs.size := by simpa using hb
    rw [e]
    exact I1.fpOk (Nat.le_refl _) (I1.hok.fresh (Nat.le_refl _))
  · obtain ⟨its, rv, p, hz⟩ := I1.tuple hq
    refine wpAny_pyIter_tuple (show s1.heap.IsTuple a its.toArray from p) ⟨s1.heap.objs.size, [s1.heap.objs.size], _, _, H1, rfl, I1.kept (t' := s1.toks) fun b o e => Heap.get?_push_of_some _ e, turn_tuple a _, ⟨_, Heap.get?_push_size _ rfl, rfl, rfl⟩, fun b hb => ?_, q⟩
    have e : b = s1.heap.objs.size := by simpa using hb
    rw [e]
    exact I1.fpOk (Nat.le_refl _) (I1.hok.fresh (Nat.le_refl _))
theorem pid_seq (he : PD X e te) : PID X tg e (diSeq te) :=
  .of (pi_any pe_w) fun σ H env hd R rs rh q => (he.w σ H env hd _ rs rh q).mono fun x H1 ⟨d, h1, t1, r1, rh1, q1⟩ => by
    obtain ⟨S, hS, q1⟩ := srcO_of q1
    obtain ⟨k, a, ex, kp, g⟩ := seqS_at rh1 r1 hS
    obtain ⟨xs, hx, _⟩ := g H1 h1 .refl rh1 kp
    refine ⟨a, ex, ?_⟩
    cases k with
    | false => exact .inl ⟨⟨xs, hx⟩, S, h1, t1, rh1, gives_list g, q1⟩
    | true => exact .inr ⟨⟨xs, hx⟩, S, h1, t1, rh1, gives_tup g, q1⟩
/-- range(a), range(a, b) -/
def diRng1 (te : TED) : TID := fun env hd R => te env hd fun d h1 => match d with
  | .int n => (-(2 ^ 62) ≤ n ∧ n < 2 ^ 62) ∧ R ⟨(List.range n.toNat).map fun i => .int (i : Nat), fun _ => True⟩ h1
  | _ => False
theorem gives_rng {K : PySem.W.Frag} {H : Hp} {lo : Int} {n : Nat} : Gives K H (Itr lo n) ⟨(List.range n).map fun i => .int (lo + (i : Nat)), fun _ => True⟩ where
  goes := fun i H1 h1 _ _ _ hi => by
    have hi' : i < n := by simpa using hi
    exact hi'
  stops := fun H1 h1 _ _ _ => by show n ≤ _; simp
  yields := fun i H1 h1 x H2 _ _ _ hi y => by
    obtain ⟨rfl, rfl⟩ := y
    refine ⟨.int (lo + (i : Nat)), ?_, .refl, rv_int, fun _ z => z⟩
    have hi' : i < n := by simpa using hi
    show ((List.range n).map _)[i]? = _
    rw [List.getElem?_map, List.getElem?_range hi']
    rfl
theorem pid_range1 {p : Pos} (hg : Gl X "range") (hm : X.mg "range" = none) (he : PD X e te) (hs : starEach [e] X.env = [(false, eval e X.env)] := by rfl) : PID X tg (.Call (.Name "range" p) [e] [] pos) (diRng1 te) :=
  .of (pi_range1 hg hm (pa_cons pe_w pa_nil hs) hs) fun σ H env hd R rs rh q => (he.w σ H env hd _ rs rh q).mono fun x H1 ⟨d, h1, t1, r1, rh1, q1⟩ => by
    cases d with
    | int n =>
      obtain ⟨⟨b1, b2⟩, q1⟩ := q1
      have ex := of_int r1
      subst ex
      refine ⟨n, rfl, b1, b2, _, h1, t1, rh1, gives_rng, ?_⟩
      have e0 : ((List.range n.toNat).map fun i => D.int (0 + (i : Nat))) = (List.range n.toNat).map fun i => D.int (i : Nat) := List.map_congr_left fun i _ => by rw [Int.zero_add]
      rw [e0]
      exact q1
    | _ => exact q1.elim
def diRng2 (te te2 : TED) : TID := fun env hd R => te env hd fun d h1 => te2 env h1 fun d2 h2 => match d, d2 with
  | .int m, .int n => (-(2 ^ 62) ≤ m ∧ m < 2 ^ 62 ∧ -(2 ^ 62) ≤ n ∧ n < 2 ^ 62) ∧ R ⟨(List.range (n - m).toNat).map fun i => .int (m + (i : Nat)), fun _ => True⟩ h2
  | _, _ => False
theorem pid_range2 {p : Pos} (hg : Gl X "range") (hm : X.mg "range" = none) (he : PD X e te) (he2 : PD X e2 te2) (hs : starEach [e, e2] X.env = [(false, eval e X.env), (false, eval e2 X.env)] := by rfl) (hs2 : starEach [e2] X.env = [(false, eval e2 X.env)] := by rfl) :
    PID X tg (.Call (.Name "range" p) [e, e2] [] pos) (diRng2 te te2) :=
  .of (pi_range2 hg hm (pa_cons pe_w (pa_cons pe_w pa_nil hs2) (hs.trans (by rw [hs2]))) hs hs2) fun σ H env hd R rs rh q => (bin_d he he2 rs rh q).mono fun x H1 q1 => q1.mono fun y H2 ⟨d, d2, hd2, t, r1, r2, rh2, q2⟩ => by
    cases d with
    | int m =>
      cases d2 with
      | int n =>
        have ex := of_int r1
        have ey := of_int r2
        subst ex ey
        obtain ⟨b, q2⟩ := q2
        exact ⟨m, n, rfl, b, _, hd2, t, rh2, gives_rng, q2⟩
      | _ => exact q2.elim
    | _ => exact q2.elim
/-- enumerate(e) -/
def enumS (S : Src) : Src := ⟨S.items.zipIdx.map fun p => .tup [.int (p.2 : Nat), p.1], S.keeps⟩
def diEnum (te : TED) : TID := fun env hd R => te env hd fun d h1 => srcO (seqS h1 d) h1 fun S => R (enumS S)
theorem gives_enum {K : PySem.W.Frag} {H : Hp} {a : Addr} {k : Bool} {S : Src} (g : ∀ H1 h1, Tx H H1 → RH K H1 h1 → S.keeps h1 → ∃ xs, SqK k K H1 a xs ∧ Rvs K H1 S.items xs) : Gives K H (IteK k K a) (enumS S) where
  goes := fun i H1 h1 t rh kp hi => by
    obtain ⟨xs, hx, rs⟩ := g H1 h1 t rh kp
    have hi' : i < S.items.length := by simpa [enumS] using hi
    obtain ⟨v, hv, _⟩ := rs.get (List.getElem?_eq_getElem hi')
    exact ⟨xs, v, hx, hv⟩
  stops := fun H1 h1 t rh kp => by
    obtain ⟨xs, hx, rs⟩ := g H1 h1 t rh kp
    exact ⟨xs, hx, by simp [enumS, rs.len]⟩
  yields := fun i H1 h1 x H2 t rh kp hi y => by
    obtain ⟨xs, hx, rs⟩ := g H1 h1 t rh kp
    obtain ⟨T, v, rfl, hT, rfl, y⟩ := y
    obtain ⟨d, hd, rd⟩ := rs.got (y xs hx)
    refine ⟨.tup [.int (i : Nat), d], ?_, .new hT, rv_tup (.of upd_same) (rvs_cons rv_int (rvs_cons (rd.mono (.new hT)) rvs_nil)), fun _ z => z.more hT⟩
    simp [enumS, List.getElem?_zipIdx, hd]
theorem gives_zip {K : PySem.W.Frag} {H : Hp} {a b : Addr} {k1 k2 : Bool} {S S2 : Src} (g : ∀ H1 h1, Tx H H1 → RH K H1 h1 → S.keeps h1 → ∃ xs, SqK k1 K H1 a xs ∧ Rvs K H1 S.items xs)
    (g2 : ∀ H1 h1, Tx H H1 → RH K H1 h1 → S2.keeps h1 → ∃ xs, SqK k2 K H1 b xs ∧ Rvs K H1 S2.items xs) :
    Gives K H (ItzK k1 k2 K a b) ⟨List.zipWith (fun x y => .tup [x, y]) S.items S2.items, fun h => S.keeps h ∧ S2.keeps h⟩ where
  goes := fun i H1 h1 t rh kp hi => by
    obtain ⟨xs, hx, rs⟩ := g H1 h1 t rh kp.1
    obtain ⟨ys, hy, rs2⟩ := g2 H1 h1 t rh kp.2
    have hi' : i < S.items.length ∧ i < S2.items.length := by
      have : i < min S.items.length S2.items.length := by simpa using hi
      omega
    obtain ⟨v, hv, _⟩ := rs.get (List.getElem?_eq_getElem hi'.1)
    obtain ⟨u, hu, _⟩ := rs2.get (List.getElem?_eq_getElem hi'.2)
    exact ⟨xs, ys, v, u, hx, hy, hv, hu⟩
  stops := fun H1 h1 t rh kp => by
    obtain ⟨xs, hx, rs⟩ := g H1 h1 t rh kp.1
    obtain ⟨ys, hy, rs2⟩ := g2 H1 h1 t rh kp.2
    exact ⟨xs, ys, hx, hy, by simp [rs.len, rs2.len]⟩
  yields := fun i H1 h1 x H2 t rh kp hi y => by
    obtain ⟨xs, hx, rs⟩ := g H1 h1 t rh kp.1
    obtain ⟨ys, hy, rs2⟩ := g2 H1 h1 t rh kp.2
    obtain ⟨T, v, u, rfl, hT, rfl, y1, y2⟩ := y
    obtain ⟨d, hd, rd⟩ := rs.got (y1 xs hx)
    obtain ⟨d2, hd2, rd2⟩ := rs2.got (y2 ys hy)
    refine ⟨.tup [d, d2], ?_, .new hT, rv_tup (.of upd_same) (rvs_cons (rd.mono (.new hT)) (rvs_cons (rd2.mono (.new hT)) rvs_nil)), fun _ z => z.more hT⟩
    simp [List.getElem?_zipWith, hd, hd2]
def iEnumK (K : PySem.W.Frag) (ta : TA) : TI := fun σ H R => ta σ H fun vs H1 => ∃ k a xs, vs = [.ref a] ∧ SqK k K H1 a xs ∧ R (IteK k K a) H1
theorem pi_enumK {ta : TA} {p tpos : Pos} {elts : List Expr} {kk : Nat} (hg : Gl X "enumerate") (hm : X.mg "enumerate" = none) (ha : PA X [e] ta) (hs : starEach [e] X.env = [(false, eval e X.env)] := by rfl) :
    PI X (.Tuple elts kk tpos) (.Call (.Name "enumerate" p) [e] [] pos) (iEnumK X.K ta) := by
  refine ⟨fun pins s σ H R I h => ?_⟩
  refine Call_ (ld_blt I hg hm boot_enumerate (PyProof.Rows.callWith_type1 (thn (ha.run pos pins s σ H _ I h) fun us s1 ⟨vs, H1, I1, r1, k, a, xs, ex, hq, q⟩ => ?_) hs rfl))
  subst ex
  obtain ⟨u, rfl, ru⟩ := vals1 r1
  cases ru
  obtain ⟨its, rv, p', hz⟩ := seqK I1 hq
  have al := p'.lt
  refine call_enum1 (beginsK (k := k) (items := its.toArray)) p' fun h' he hit hsz hk => wpAny_pyIter_enum he ?_
  have I2 : Inv X pins σ H1 { s1 with heap := h' } := I1.kept (t' := s1.toks) hk
  refine ⟨s1.heap.objs.size + 1, [s1.heap.objs.size + 1, s1.heap.objs.size], _, _, H1, rfl, I2, turn_enumK a (s1.heap.objs.size + 1) s1.heap.objs.size (Nat.ne_of_lt (Nat.lt_succ_of_lt al)) (Nat.ne_of_lt al) (Nat.succ_ne_self _), ⟨⟨.none, he⟩, itO_it hit⟩, fun b hb => ?_, q⟩
  have e' : b = s1.heap.objs.size + 1 ∨ b = s1.heap.objs.size := by simpa using hb
  have hle : s1.heap.objs.size ≤ b := by
    rcases e' with z | z
    · rw [z]; exact Nat.le_succ _
    · rw [z]; exact Nat.le_refl _
  exact I1.fpOk hle (I1.hok.fresh hle)
theorem pid_enum {p tpos : Pos} {elts : List Expr} {kk : Nat} (hg : Gl X "enumerate") (hm : X.mg "enumerate" = none) (he : PD X e te) (hs : starEach [e] X.env = [(false, eval e X.env)] := by rfl) :
    PID X (.Tuple elts kk tpos) (.Call (.Name "enumerate" p) [e] [] pos) (diEnum te) :=
  .of (pi_enumK hg hm (pa_cons pe_w pa_nil hs) hs) fun σ H env hd R rs rh q => (he.w σ H env hd _ rs rh q).mono fun x H1 ⟨d, h1, t1, r1, rh1, q1⟩ => by
    obtain ⟨S, hS, q1⟩ := srcO_of q1
    obtain ⟨k, a, ex, kp, g⟩ := seqS_at rh1 r1 hS
    obtain ⟨xs, hx, _⟩ := g H1 h1 .refl rh1 kp
    subst ex
    exact ⟨k, a, xs, rfl, hx, enumS S, h1, t1, rh1, gives_enum g, q1⟩
/-- zip(a, b) -/
def diZip (te te2 : TED) : TID := fun env hd R => te env hd fun d h1 => te2 env h1 fun d2 h2 => srcO (seqS h2 d) h2 fun S h => srcO (seqS h d2) h fun S2 => R ⟨List.zipWith (fun x y => .tup [x, y]) S.items S2.items, fun h => S.keeps h ∧ S2.keeps h⟩
def iZipK (K : PySem.W.Frag) (ta : TA) : TI := fun σ H R => ta σ H fun vs H1 => ∃ k1 k2 a b xs ys, vs = [.ref a, .ref b] ∧ SqK k1 K H1 a xs ∧ SqK k2 K H1 b ys ∧ R (ItzK k1 k2 K a b) H1
theorem zip_off {N a b : Addr} (ha : a < N) (hb : b < N) : ZipOff (N + 4) (N + 2) (N + 3) N (N + 1) a b := by
  refine ⟨zip_sep2 (fun x hx => ?_) (fun x hx => ?_), Nat.ne_of_lt ha, Nat.ne_of_lt (Nat.lt_succ_of_lt hb), ?_, ?_⟩
  · rw [List.mem_singleton.mp hx]; exact ha
  · rw [List.mem_singleton.mp hx]; exact hb
  · exact Nat.ne_of_lt (Nat.lt_add_of_pos_right (by decide))
  · exact Nat.ne_of_lt (Nat.add_lt_add_left (by decide) _)
theorem pi_zipK {ta : TA} {p tpos : Pos} {elts : List Expr} {kk : Nat} (hg : Gl X "zip") (hm : X.mg "zip" = none) (ha : PA X [e, e2] ta)
    (hs : starEach [e, e2] X.env = (false, eval e X.env) :: starEach [e2] X.env := by rfl) (hpl : (backTo pos (starEach [e2] X.env)).any (·.1) = false := by rfl) :
    PI X (.Tuple elts kk tpos) (.Call (.Name "zip" p) [e, e2] [] pos) (iZipK X.K ta) := by
  refine ⟨fun pins s σ H R I h => ?_⟩
  refine Call_ (ld_blt I hg hm PyProof.Rows.boot_zip (PyProof.Rows.callWith_type1 (thn (ha.run pos pins s σ H _ I h) fun us s1 ⟨vs, H1, I1, r1, k1, k2, a, b, xs, ys, ex, hqx, hqy, q⟩ => ?_) hs hpl))
  subst ex
  obtain ⟨u, u', rfl, ru, ru'⟩ := vals2 r1
  cases ru
  cases ru'
  obtain ⟨its, rv, p1, _⟩ := seqK I1 hqx
  obtain ⟨its2, rv2, p2, _⟩ := seqK I1 hqy
  refine zip_begins2 (beginsK (k := k1) (items := its.toArray)) (beginsK (k := k2) (items := its2.toArray)) p1 p2 fun h' hz hTI hTO h1 h2 hsz hk => wpAny_pyIter_zip hz ?_
  have I2 : Inv X pins σ H1 { s1 with heap := h' } := I1.kept (t' := s1.toks) hk
  refine ⟨s1.heap.objs.size + 4, [s1.heap.objs.size + 4, s1.heap.objs.size + 2, s1.heap.objs.size + 3, s1.heap.objs.size, s1.heap.objs.size + 1], _, _, H1, rfl, I2, turn_zipK (zip_off p1.lt p2.lt), ⟨hz, hTI, ⟨_, _, hTO⟩, itO_it h1, itO_it h2⟩, fun c hcm => ?_, q⟩
  have e' : c = s1.heap.objs.size + 4 ∨ c = s1.heap.objs.size + 2 ∨ c = s1.heap.objs.size + 3 ∨ c = s1.heap.objs.size ∨ c = s1.heap.objs.size + 1 := by simpa using hcm
  have hle : s1.heap.objs.size ≤ c := by
    rcases e' with z | z | z | z | z <;> rw [z]
    · exact Nat.le_add_right _ _
    · exact Nat.le_add_right _ _
    · exact Nat.le_add_right _ _
    · exact Nat.le_refl _
    · exact Nat.le_add_right _ _
  exact I1.fpOk hle (I1.hok.fresh hle)
theorem pid_zip {p tpos : Pos} {elts : List Expr} {kk : Nat} (hg : Gl X "zip") (hm : X.mg "zip" = none) (he : PD X e te) (he2 : PD X e2 te2)
    (hs : starEach [e, e2] X.env = (false, eval e X.env) :: starEach [e2] X.env := by rfl) (hs2 : starEach [e2] X.env = (false, eval e2 X.env) :: starEach [] X.env := by rfl) (hpl : (backTo pos (starEach [e2] X.env)).any (·.1) = false := by rfl) :
    PID X (.Tuple elts kk tpos) (.Call (.Name "zip" p) [e, e2] [] pos) (diZip te te2) :=
  .of (pi_zipK hg hm (pa_cons pe_w (pa_cons pe_w pa_nil hs2) hs) hs hpl) fun σ H env hd R rs rh q => (bin_d he he2 rs rh q).mono fun x H1 q1 => q1.mono fun y H2 ⟨d, d2, h2, t, r1, r2, rh2, q2⟩ => by
    obtain ⟨S, hS, q2⟩ := srcO_of q2
    obtain ⟨S2, hS2, q2⟩ := srcO_of q2
    obtain ⟨k1, a, ex, kp, g⟩ := seqS_at rh2 r1 hS
    obtain ⟨k2, b, ey, kp2, g2⟩ := seqS_at rh2 r2 hS2
    obtain ⟨xs, hx, _⟩ := g H2 h2 .refl rh2 kp
    obtain ⟨ys, hy, _⟩ := g2 H2 h2 .refl rh2 kp2
    subst ex ey
    exact ⟨k1, k2, a, b, xs, ys, rfl, hx, hy, _, h2, t, rh2, gives_zip g g2, q2⟩
end
end G
/-! G8: comprehensions, displays of dicts, built-ins. -/
namespace G
open PySem PySem.Spec PyProof.Rows L2

/-! ### targets of a comprehension: its own names alone -/
def Off (vs : List Nat) (σ σ2 : L2.St) : Prop := σ2.length = σ.length ∧ ∀ j : Nat, j ∉ vs → σ2[j]? = σ[j]?
theorem off_wipe : ∀ {vs : List Nat} {σ σ2 : L2.St}, Off vs σ σ2 → L2.wipe σ2 vs = L2.wipe σ vs := by
  have gen : ∀ (vs : List Nat) (σ : L2.St) (j : Nat), (L2.wipe σ vs)[j]? = if j ∈ vs then (if j < σ.length then some none else none) else σ[j]? := by
    intro vs
    induction vs with
    | nil => intro σ j; simp [L2.wipe]
    | cons v vs ih =>
      intro σ j
      unfold L2.wipe
      rw [List.getElem?_set, L2.wipe_length, ih]
      by_cases h : v = j
      · subst h; simp
      · simp [h, Ne.symm h]
  intro vs σ σ2 h
  apply List.ext_getElem?
  intro j
  rw [gen, gen, h.1]
  by_cases hj : j ∈ vs
  · rw [if_pos hj, if_pos hj]
  · rw [if_neg hj, if_neg hj, h.2 j hj]
structure PGO (X : Cx) (tg : Expr) (vs : List Nat) (t : TGD) : Prop where
  w : ∀ (σ : L2.St) (H : Hp) (env : EnvD) (hd : HpD) (d : D) (v : V) (Q : EnvD → HpD → Prop), RS X.K σ H env → RH X.K H hd → Rv X.K H d v → t d env hd Q → wG X tg v σ H (fun σ2 H2 => Off vs σ σ2 ∧ postS X.K H Q σ2 H2)
structure PGsO (X : Cx) (ts : List Expr) (vs : List Nat) (t : TGsD) : Prop where
  w : ∀ (σ : L2.St) (H : Hp) (env : EnvD) (hd : HpD) (ds : List D) (us : List V) (Q : EnvD → HpD → Prop), RS X.K σ H env → RH X.K H hd → Rvs X.K H ds us → t ds env hd Q → wGs X ts us σ H (fun σ2 H2 => Off vs σ σ2 ∧ postS X.K H Q σ2 H2)
section
variable {X : Cx} {tg : Expr} {ts : List Expr} {vs : List Nat} {pos : Pos}
theorem pgo_name {i : Nat} (h : PG X tg (gName i)) (hi : i ∈ vs) : PGO X tg vs (gdName i) := ⟨fun σ H env hd d v Q rs rh r q pins s u I ru => h.run pins s σ H v u _ I ru
  ⟨⟨by rw [List.length_set], fun j hj => List.getElem?_set_ne (by rintro rfl; exact hj hi)⟩, postS_mk (rs.set i r) rh q⟩⟩
theorem pgso_nil : PGsO X [] vs gdNil := ⟨fun σ H env hd ds us Q rs rh r q pins s u I ru => by
  cases ds with
  | nil =>
    simp only [Rvs] at r
    exact pgs_nil.run pins s σ H us u _ I ru ⟨r, ⟨rfl, fun _ _ => rfl⟩, postS_mk rs rh q⟩
  | cons _ _ => exact q.elim⟩
theorem pgso_cons {t : TGD} {u : TGsD} (h1 : PGO X tg vs t) (h2 : PGsO X ts vs u) (hs : (assignEach (tg :: ts) X.env).map (·.2) = assign tg X.env :: (assignEach ts X.env).map (·.2) := by rfl) : PGsO X (tg :: ts) vs (gdCons t u) :=
  ⟨fun σ H env hd ds us Q rs rh r q pins s u I ru => by
    cases ds with
    | nil => exact q.elim
    | cons d ds =>
      simp only [Rvs] at r
      obtain ⟨v, vs', rfl, r1, r2⟩ := r
      refine (pgs_cons pg_w pgs_w hs).run pins s σ H _ u _ I ru ⟨v, vs', rfl, (h1.w σ H env hd d v _ rs rh r1 q).mono fun σ1 H1 ⟨o1, env1, hd1, t1, rs1, rh1, q1⟩ => ?_⟩
      exact (h2.w σ1 H1 env1 hd1 ds vs' Q rs1 rh1 (r2.mono t1) q1).mono fun σ2 H2 ⟨o2, z⟩ => ⟨⟨o2.1.trans o1.1, fun j hj => (o2.2 j hj).trans (o1.2 j hj)⟩, z.tr t1⟩⟩
theorem pgo_tup {k n : Nat} {t : TGsD} (hc : X.calm = true) (h : PGsO X ts vs t) (hn : (assignEach ts X.env).length = n := by rfl) (hst : (assignEach ts X.env).findIdx? (·.1) = none := by rfl) : PGO X (.Tuple ts k pos) vs (gdTup n t) :=
  ⟨fun σ H env hd d v Q rs rh r q pins s u I ru => by
    cases d with
    | tup ds =>
      obtain ⟨hl, q⟩ := q
      obtain ⟨a, xs, rfl, ht, r⟩ := of_tup r
      exact (pg_tup hc pgs_w hn hst).run pins s σ H _ u _ I ru ⟨a, xs, rfl, ht, by rw [← r.len]; exact hl, h.w σ H env hd ds xs Q rs rh r q⟩
    | _ => exact q.elim⟩
end

/-! ### a comprehension of one for -/
def wipeD (env : EnvD) : List Nat → EnvD
  | [] => env
  | v :: vs => (wipeD env vs).set v none
theorem rs_wipe {K : PySem.W.Frag} {σ : L2.St} {H : Hp} {env : EnvD} (h : RS K σ H env) : ∀ vs : List Nat, RS K (L2.wipe σ vs) H (wipeD env vs)
  | [] => h
  | v :: vs => (rs_wipe h vs).wipe v
structure PTsD (X : Cx) (ifs : List Expr) (t : TTD) : Prop where
  w : ∃ t0 : TT, PTs X ifs t0 ∧ (∀ σ H Q Q', (∀ o H', Q o H' → Q' o H') → t0 σ H Q → t0 σ H Q') ∧ ∀ (σ : L2.St) (H : Hp) (env : EnvD) (hd : HpD) (Q : QB), RS X.K σ H env → RH X.K H hd → t env hd Q → t0 σ H (postB X.K H Q)
def dYes : TTD := fun _ hd Q => Q true hd
theorem ptsd_nil {X : Cx} : PTsD X [] dYes := ⟨tYes, pts_nil, fun σ H Q Q' k h => k _ _ h, fun σ H env hd Q rs rh q => ⟨hd, .refl, rh, q⟩⟩
theorem ptsd_one {X : Cx} {c : Expr} {t : TTD} (h : PTD X c t) : PTsD X [c] t := ⟨wT X c, pts_one pt_w, fun σ H Q Q' k h => wT.mono h k, fun σ H env hd Q rs rh q => h.w σ H env hd Q rs rh q⟩
/-- one item: what is added -/
def lcB (g : TGD) (tt : TTD) (te : TED) (d : D) (env : EnvD) (h : HpD) (k : Option D → HpD → Prop) : Prop :=
  g d env h fun e2 h2 => tt e2 h2 fun b h3 => ifP b (te e2 h3 fun y h4 => k (some y) h4) (k none h3)
/-- the list at p behind a turn -/
def lcK (p : Addr) (P : HpD → Prop) : Option D → HpD → Prop
  | some y, h => ∃ acc, h p = some (.lst acc) ∧ acc.length < sizeLine ∧ ∃ h2, Sub h2 (put h p (.lst (acc ++ [y]))) ∧ P h2
  | none, h => ∃ h2, Sub h2 h ∧ P h2
def dLc (ti : TID) (g : TGD) (tt : TTD) (te : TED) (vs : List Nat) : TED := fun env hd Q => ti env hd fun S h1 => ∀ p, h1 p = none → ∃ P : Nat → HpD → Prop, P 0 (put h1 p (.lst [])) ∧
  (∀ i h, i ≤ S.items.length → P i h → S.keeps h) ∧ (∀ i d h, S.items[i]? = some d → P i h → lcB g tt te d (wipeD env vs) h (lcK p (P (i + 1)))) ∧ ∀ h, P S.items.length h → Q (.ref p) h
section
variable {X : Cx} {elt tg iter : Expr} {ifs : List Expr} {scope : Scope} {own : List (Str × Nat)} {pos : Pos} {ti : TID} {g : TGD} {tt : TTD} {te : TED}
/-- how the layer's reading of a comprehension is met -/
theorem lc_met (hi : PID X tg iter ti) (hg : ∀ (s : Shared) (H : Hp) (C : Addr) (cl : List (Str × Addr)) (fp : List Addr), PGO (X.blk s H scope (compEnvC scope cl C X.env) fp) tg (own.map (·.2)) g)
    (ht : ∀ (s : Shared) (H : Hp) (C : Addr) (cl : List (Str × Addr)) (fp : List Addr), PTsD (X.blk s H scope (compEnvC scope cl C X.env) fp) ifs tt)
    (he : ∀ (s : Shared) (H : Hp) (C : Addr) (cl : List (Str × Addr)) (fp : List Addr), PD (X.blk s H scope (compEnvC scope cl C X.env) fp) elt te) :
    ∃ (g0 : TG) (tt0 : TT) (te0 : TE), (∀ (s : Shared) (H : Hp) (C : Addr) (cl : List (Str × Addr)) (fp : List Addr), PG (X.blk s H scope (compEnvC scope cl C X.env) fp) tg g0) ∧
      (∀ (s : Shared) (H : Hp) (C : Addr) (cl : List (Str × Addr)) (fp : List Addr), PTs (X.blk s H scope (compEnvC scope cl C X.env) fp) ifs tt0) ∧
      (∀ (s : Shared) (H : Hp) (C : Addr) (cl : List (Str × Addr)) (fp : List Addr), PE (X.blk s H scope (compEnvC scope cl C X.env) fp) elt te0) ∧
      ∀ (σ : L2.St) (H : Hp) (env : EnvD) (hd : HpD) (Q : QD) (Q0 : VK), RS X.K σ H env → RH X.K H hd → dLc ti g tt te (own.map (·.2)) env hd Q → (∀ v H', post X.K H Q v H' → Q0 v H') → tLc (wI X tg iter) g0 tt0 te0 (own.map (·.2)) σ H Q0 := by
  let C0 := fun (s : Shared) (H : Hp) (C : Addr) (cl : List (Str × Addr)) (fp : List Addr) => X.blk s H scope (compEnvC scope cl C X.env) fp
  let g0 : TG := fun v σ H Q => ∀ s H0 C cl fp, wG (C0 s H0 C cl fp) tg v σ H Q
  let te0 : TE := fun σ H Q => ∀ s H0 C cl fp, wE (C0 s H0 C cl fp) elt σ H Q
  let tt0 : TT := fun σ H Q => ∀ s H0 C cl fp pins s', Inv (C0 s H0 C cl fp) pins σ H s' →
    wpAny (model X.prog X.w) X.A (forIn ifs true fun c r => if r = true then do let ok ← isTrue c (C0 s H0 C cl fp).env (eval c (C0 s H0 C cl fp).env); pure (ForInStep.yield ok) else pure (ForInStep.yield r)) (TP (C0 s H0 C cl fp) pins σ Q) (C0 s H0 C cl fp).xe s'
  refine ⟨g0, tt0, te0, fun s H C cl fp => ⟨fun pins s' σ H' v u Q I r h => h s H C cl fp pins s' u I r⟩, fun s H C cl fp => ⟨fun pins s' σ H' Q I h => h s H C cl fp pins s' I⟩, fun s H C cl fp => ⟨fun pins s' σ H' Q I h => h s H C cl fp pins s' I⟩, ?_⟩
  intro σ H env hd Q Q0 rs rh q k0
  refine fun pins s I => thn (hi.w σ H env hd _ rs rh q pins s I) fun v s1 h1 => thn h1 fun itv s2 h2 => ?_
  obtain ⟨it, fp, tn, J, H2, e, I2, T, st2, f2, S, hd2, t2, rh2, gv, q2⟩ := h2
  refine ⟨it, fp, tn, J, H2, e, I2, T, st2, f2, fun p hp => ?_⟩
  obtain ⟨P, p0, keep, turn, done⟩ := q2 p (rh2.none hp)
  have tp : Tx H2 (upd H2 p (.lst [])) := .new hp
  refine ⟨fun i m H3 => m = S.items.length - i ∧ i ≤ S.items.length ∧ ∃ h3, Tx H2 H3 ∧ RH X.K H3 h3 ∧ P i h3, ⟨_, rfl, Nat.zero_le _, _, tp, rh2.new (o := .lst []) hp (ro_new hp rvs_nil), p0⟩, ?_⟩
  rintro i m H3 ⟨rfl, hi', h3, t3, rh3, p3⟩
  have kp := keep i h3 hi' p3
  by_cases hlt : i < S.items.length
  · refine .inr ⟨gv.goes i H3 h3 t3 rh3 kp hlt, fun H4 => i + 1 ≤ S.items.length ∧ ∃ h4, Tx H2 H4 ∧ RH X.K H4 h4 ∧ P (i + 1) h4, ?_, ?_⟩
    · rintro H4 ⟨l4, h4, t4, rh4, p4⟩
      exact ⟨_, by omega, rfl, l4, h4, t4, rh4, p4⟩
    · intro x H4 y4
      obtain ⟨d, hd4, t4, r4, k4⟩ := gv.yields i H3 h3 x H4 t3 rh3 kp hlt y4
      have t34 := t3.trans t4
      have body := turn i d h3 hd4 p3
      have rs4 : RS X.K (L2.wipe σ (own.map (·.2))) H4 (wipeD env (own.map (·.2))) := rs_wipe (rs.mono (t2.trans t34)) _
      intro s0 H0 C cl fp'
      refine ((hg s0 H0 C cl fp').w _ H4 _ h3 d x _ rs4 (k4 h3 rh3) r4 body).mono fun σ5 H5 ⟨o5, env5, h5, t5, rs5, rh5, q5⟩ => ⟨?_, ?_⟩
      · rw [off_wipe o5]
        exact off_wipe ⟨L2.wipe_length _ _, fun j hj => by
          have : ∀ (vs : List Nat) (σ : L2.St), j ∉ vs → (L2.wipe σ vs)[j]? = σ[j]? := by
            intro vs
            induction vs with
            | nil => intro σ _; rfl
            | cons v vs ih =>
              intro σ h
              unfold L2.wipe
              rw [List.getElem?_set_ne (fun z => h (by rw [z]; exact List.mem_cons_self)), ih σ fun z => h (List.mem_cons_of_mem _ z)]
          exact this _ _ hj⟩
      · intro s0 H0 C cl fp' pins' s' I'
        obtain ⟨t0, ht0, mono0, k0'⟩ := (ht s0 H0 C cl fp').w
        refine ht0.run pins' s' σ5 H5 _ I' (mono0 _ _ _ _ (fun b H6 ⟨h6, t6, rh6, q6⟩ => ?_) (k0' σ5 H5 env5 h5 _ rs5 rh5 q5))
        have t56 := t5.trans t6
        cases b with
        | true =>
          intro s0 H0 C cl fp'
          refine ((he s0 H0 C cl fp').w σ5 H6 env5 h6 _ (rs5.mono t6) rh6 (q6.1 rfl)).mono fun y H7 ⟨dy, h7, t7, ry, rh7, acc, ha, hz, h8, sb, p8⟩ => ?_
          obtain ⟨vs, hv, rvs⟩ := of_lst rh7 ha
          refine ⟨vs, hv, by rw [← rvs.len]; exact hz, hlt, h8, ((t34.trans t56).trans t7).trans (.write hv trivial), ?_, p8⟩
          have tw : Tx H7 (upd H7 p (.lst (vs ++ [y]))) := .write hv trivial
          exact (RH.write (o := .lst (acc ++ [dy])) rh7 hv trivial ⟨_, upd_same, (rvs.append (rvs_cons ry rvs_nil)).mono tw⟩).forget sb
        | false =>
          obtain ⟨h8, sb, p8⟩ := q6.2 rfl
          exact ⟨hlt, h8, t34.trans t56, rh6.forget sb, p8⟩
  · have e' : i = S.items.length := by omega
    subst e'
    exact .inl ⟨gv.stops H3 h3 t3 rh3 kp, k0 _ _ ⟨.ref p, h3, t2.trans t3, rv_ref, rh3, done h3 p3⟩⟩
theorem pd_lc (hc : X.calm = true) (hN : X.N.Nodup) (hi : PID X tg iter ti) (ok : BlkOk X.N X.env.scope scope own)
    (hg : ∀ (s : Shared) (H : Hp) (C : Addr) (cl : List (Str × Addr)) (fp : List Addr), PGO (X.blk s H scope (compEnvC scope cl C X.env) fp) tg (own.map (·.2)) g)
    (ht : ∀ (s : Shared) (H : Hp) (C : Addr) (cl : List (Str × Addr)) (fp : List Addr), PTsD (X.blk s H scope (compEnvC scope cl C X.env) fp) ifs tt)
    (he : ∀ (s : Shared) (H : Hp) (C : Addr) (cl : List (Str × Addr)) (fp : List Addr), PD (X.blk s H scope (compEnvC scope cl C X.env) fp) elt te) (hs : ∀ x, foldedSetIterable iter X.env x = pure x := by intro _; rfl) :
    PD X (.ListComp elt [⟨tg, iter, ifs, 0⟩] scope pos) (dLc ti g tt te (own.map (·.2))) := by
  obtain ⟨g0, tt0, te0, h1, h2, h3, h4⟩ := lc_met hi hg ht he
  exact .of (pe_lc hc hN pi_w ok h1 h2 h3 hs) fun σ H env hd Q rs rh q => h4 σ H env hd Q _ rs rh q fun _ _ z => z
theorem psd_setLc {i : Nat} {y : Str} {py spos : Pos} (hc : X.calm = true) (hN : X.N.Nodup) (hy : X.N[i]? = some y) (hyl : X.env.scope.names.lookup y = some .local)
    (hsw : swapsWith (.ListComp elt [⟨tg, iter, ifs, 0⟩] scope pos) (some (.Name y py)) spos.line X.env = pure true) (hi : PID X tg iter ti) (ok : BlkOk X.N X.env.scope scope own)
    (hg : ∀ (s : Shared) (H : Hp) (C : Addr) (cl : List (Str × Addr)) (fp : List Addr), PGO (X.blk s H scope (compEnvC scope cl C X.env) fp) tg (own.map (·.2)) g)
    (ht : ∀ (s : Shared) (H : Hp) (C : Addr) (cl : List (Str × Addr)) (fp : List Addr), PTsD (X.blk s H scope (compEnvC scope cl C X.env) fp) ifs tt)
    (he : ∀ (s : Shared) (H : Hp) (C : Addr) (cl : List (Str × Addr)) (fp : List Addr), PD (X.blk s H scope (compEnvC scope cl C X.env) fp) elt te) (hs : ∀ x, foldedSetIterable iter X.env x = pure x := by intro _; rfl) :
    PSD X (.Assign [.Name y py] (.ListComp elt [⟨tg, iter, ifs, 0⟩] scope pos) spos) (dAsg (dLc ti g tt te (own.map (·.2))) (gdName i)) := by
  obtain ⟨g0, tt0, te0, h1, h2, h3, h4⟩ := lc_met hi hg ht he
  exact .of (ps_setLc hc hN hy hyl hsw pi_w ok h1 h2 h3 hs) fun σ H env hd D rs rh q => h4 σ H env hd _ _ rs rh q fun v H' ⟨d, h, t, r, rh', q'⟩ => ⟨env.set i (some d), h, t, (rs.mono t).set i r, rh', q'⟩
end

/-! ### comprehensions whose turns leave the heap as it was, but for what is forgotten -/
theorem lc_pure {ti : TID} {g : TGD} {tt : TTD} {te : TED} {vs : List Nat} {env : EnvD} {Q : QD} {S : Src} {h1 : HpD} (f : D → Option D) (hk : ∀ h, Sub h1 h → S.keeps h) (hz : S.items.length ≤ sizeLine)
    (body : ∀ (i : Nat) (d : D) (h : HpD) (k : Option D → HpD → Prop), S.items[i]? = some d → Sub h1 h → (∀ h', Sub h h' → k (f d) h') → lcB g tt te d (wipeD env vs) h k) (done : ∀ p, h1 p = none → Q (.ref p) (put h1 p (.lst (S.items.filterMap f)))) :
    ∀ p, h1 p = none → ∃ P : Nat → HpD → Prop, P 0 (put h1 p (.lst [])) ∧ (∀ i h, i ≤ S.items.length → P i h → S.keeps h) ∧
      (∀ i d h, S.items[i]? = some d → P i h → lcB g tt te d (wipeD env vs) h (lcK p (P (i + 1)))) ∧ ∀ h, P S.items.length h → Q (.ref p) h := by
  intro p hp
  have sub0 : ∀ acc, Sub h1 (put h1 p (.lst acc)) := fun acc => .new hp
  refine ⟨fun i h => h = put h1 p (.lst ((S.items.take i).filterMap f)), rfl, ?_, ?_, ?_⟩
  · rintro i h _ rfl
    exact hk _ (sub0 _)
  · rintro i d h hd rfl
    refine body i d _ _ hd (sub0 _) fun h' sb => ?_
    have et : S.items.take (i + 1) = S.items.take i ++ [d] := by rw [List.take_add_one, hd]; rfl
    have hl : ((S.items.take i).filterMap f).length < sizeLine := by
      have h1 := List.length_filterMap_le f (S.items.take i)
      have h2 : i < S.items.length := (List.getElem?_eq_some_iff.mp hd).1
      rw [List.length_take] at h1
      omega
    have hat : h' p = some (.lst ((S.items.take i).filterMap f)) := sb p _ put_same
    cases hf : f d with
    | none =>
      refine ⟨_, sb, ?_⟩
      show put h1 p _ = put h1 p _
      rw [et, List.filterMap_append]
      simp [hf]
    | some y =>
      refine ⟨_, hat, hl, put h1 p (.lst ((S.items.take i).filterMap f ++ [y])), ?_, ?_⟩
      · intro b o hb
        by_cases hbp : b = p
        · subst hbp
          rw [put_same] at hb ⊢
          exact hb
        · rw [put_ne hbp] at hb ⊢
          exact sb b o (by rw [put_ne hbp]; exact hb)
      · show put h1 p _ = put h1 p _
        rw [et, List.filterMap_append]
        simp [hf]
  · rintro h rfl
    rw [List.take_length]
    exact done p hp
end G
/-! G9: built-ins over data. -/
namespace G
open PySem PySem.Spec PyProof.Rows L2
section
variable {X : Cx}
theorem rvs1 {K : PySem.W.Frag} {H : Hp} {d : D} {xs : List V} (r : Rvs K H [d] xs) : ∃ x, xs = [x] ∧ Rv K H d x := by
  simp only [Rvs] at r
  obtain ⟨v, vs, rfl, r1, rfl⟩ := r
  exact ⟨v, rfl, r1⟩
theorem rvs2 {K : PySem.W.Frag} {H : Hp} {d d2 : D} {xs : List V} (r : Rvs K H [d, d2] xs) : ∃ x y, xs = [x, y] ∧ Rv K H d x ∧ Rv K H d2 y := by
  simp only [Rvs] at r
  obtain ⟨v, vs, rfl, r1, v2, vs2, rfl, r2, rfl⟩ := r
  exact ⟨v, v2, rfl, r1, r2⟩
def lenD : List D → HpD → QD → Prop
  | [.tup xs], hd, Q => Q (.int xs.length) hd
  | [.rl xs], hd, Q => Q (.int xs.length) hd
  | [.ref a], hd, Q => ∃ xs, hd a = some (.lst xs) ∧ Q (.int xs.length) hd
  | [.str x], hd, Q => x.length ≤ sizeLine ∧ Q (.int x.length) hd
  | _, _, _ => False
theorem call_lenDD : CallD X (.builtin "len") lenD := .of call_len fun H xs ds hd Q rs rh q => by
  unfold lenD at q
  split at q
  · obtain ⟨x, rfl, r⟩ := rvs1 rs
    obtain ⟨a, vs, rfl, h, r⟩ := of_tup r
    exact ⟨_, vs.length, rfl, .inr ⟨vs, h, rfl⟩, by rw [← r.len]; exact post_mk rv_int rh q⟩
  · obtain ⟨x, rfl, r⟩ := rvs1 rs
    obtain ⟨a, vs, rfl, h, r⟩ := of_rl r
    exact ⟨_, vs.length, rfl, .inl ⟨vs, h.sq, rfl⟩, by rw [← r.len]; exact post_mk rv_int rh q⟩
  · obtain ⟨x, rfl, r⟩ := rvs1 rs
    have := of_ref r
    subst this
    obtain ⟨xs, ha, q⟩ := q
    obtain ⟨vs, hv, r⟩ := of_lst rh ha
    exact ⟨_, vs.length, rfl, .inl ⟨vs, .of hv, rfl⟩, by rw [← r.len]; exact post_mk rv_int rh q⟩
  · obtain ⟨x, rfl, r⟩ := rvs1 rs
    have := of_str r
    subst this
    exact ⟨_, _, rfl, ⟨q.1, rfl⟩, post_mk rv_int rh q.2⟩
  · exact q.elim
def int1D : List D → HpD → QD → Prop
  | [.int i], hd, Q => Q (.int i) hd
  | _, _, _ => False
theorem call_intD : CallD X (.type "int") int1D := .of call_int1 fun H xs ds hd Q rs rh q => by
  unfold int1D at q
  split at q
  · obtain ⟨x, rfl, r⟩ := rvs1 rs
    exact .inl ⟨_, by rw [of_int r], post_mk rv_int rh q⟩
  · exact q.elim
def absD : List D → HpD → QD → Prop
  | [.int i], hd, Q => Q (.int (i.natAbs : Int)) hd
  | _, _, _ => False
theorem call_absD : CallD X (.builtin "abs") absD := .of call_abs fun H xs ds hd Q rs rh q => by
  unfold absD at q
  split at q
  · rename_i i
    obtain ⟨x, rfl, r⟩ := rvs1 rs
    have e : (if i < 0 then -i else i) = (i.natAbs : Int) := by split <;> omega
    exact ⟨_, by rw [of_int r], by rw [e]; exact post_mk rv_int rh q⟩
  · exact q.elim
def max2D : List D → HpD → QD → Prop
  | [.int i, .int j], hd, Q => Q (.int (max i j)) hd
  | _, _, _ => False
def min2D : List D → HpD → QD → Prop
  | [.int i, .int j], hd, Q => Q (.int (min i j)) hd
  | _, _, _ => False
theorem call_max2D (hc : X.calm = true) : CallD X (.builtin "max") max2D := .of (call_max2 hc) fun H xs ds hd Q rs rh q => by
  unfold max2D at q
  split at q
  · rename_i i j
    obtain ⟨x, y, rfl, r1, r2⟩ := rvs2 rs
    have e : (if j > i then j else i) = max i j := by split <;> omega
    exact ⟨_, _, by rw [of_int r1, of_int r2], by rw [e]; exact post_mk rv_int rh q⟩
  · exact q.elim
theorem call_min2D (hc : X.calm = true) : CallD X (.builtin "min") min2D := .of (call_min2 hc) fun H xs ds hd Q rs rh q => by
  unfold min2D at q
  split at q
  · rename_i i j
    obtain ⟨x, y, rfl, r1, r2⟩ := rvs2 rs
    have e : (if j < i then j else i) = min i j := by split <;> omega
    exact ⟨_, _, by rw [of_int r1, of_int r2], by rw [e]; exact post_mk rv_int rh q⟩
  · exact q.elim
def gcdD : List D → HpD → QD → Prop
  | [.int i, .int j], hd, Q => Q (.int ((Nat.gcd i.natAbs j.natAbs : Nat) : Int)) hd
  | _, _, _ => False
theorem call_gcdD : CallD X (.builtin "math.gcd") gcdD := .of cr_gcd fun H xs ds hd Q rs rh q => by
  unfold gcdD at q
  split at q
  · obtain ⟨x, y, rfl, r1, r2⟩ := rvs2 rs
    exact ⟨_, _, by rw [of_int r1, of_int r2], post_mk rv_int rh q⟩
  · exact q.elim
theorem pd_callBfun {x : Str} {p pos : Pos} {e : Expr} {es : List Expr} {t : TAD} {id : String} {r : List D → HpD → QD → Prop} (hc : CallD X (.builtin id) r) (hg : Gl X x) (hm : X.mg x = some (.builtin id)) (ha : PAD X (e :: es) t) (hdb : (x == ("__debug__" : Str)) = false := by decide)
    (he : starEach (e :: es) X.env = (false, eval e X.env) :: starEach es X.env := by rfl) (hpl : (backTo pos (starEach es X.env)).any (·.1) = false := by rfl) : PD X (.Call (.Name x p) (e :: es) [] pos) (dCB r t) :=
  pd_cb hc (pe_callBfun call_u hg hm pa_w hdb he hpl) ha
/-- the ints of a list or a tuple -/
def intsAt (hd : HpD) (d : D) : Option (List Int) := (seqS hd d).bind fun S => intsOf S.items
theorem intsAt_k {K : PySem.W.Frag} {H : Hp} {hd : HpD} {d : D} {v : V} {ns : List Int} (rh : RH K H hd) (r : Rv K H d v) (e : intsAt hd d = some ns) : ∃ k a, v = .ref a ∧ SqK k K H a (ns.map V.int) := by
  unfold intsAt at e
  cases hS : seqS hd d with
  | none => rw [hS] at e; cases e
  | some S =>
    rw [hS] at e
    obtain ⟨k, a, rfl, kp, g⟩ := seqS_at rh r hS
    obtain ⟨xs, hx, rs⟩ := g H hd .refl rh kp
    rw [intsOf_rvs e rs] at hx
    exact ⟨k, a, rfl, hx⟩
def intsO (o : Option (List Int)) (P : List Int → Prop) : Prop := match o with
  | some ns => P ns
  | none => False
theorem intsO_of {o : Option (List Int)} {P : List Int → Prop} (h : intsO o P) : ∃ ns, o = some ns ∧ P ns := by
  cases o with
  | none => exact h.elim
  | some ns => exact ⟨ns, rfl, h⟩
def sumD : List D → HpD → QD → Prop
  | [d], hd, Q => intsO (intsAt hd d) fun ns => Q (.int ns.sum) hd
  | _, _, _ => False
theorem presum_ints : ∀ (ns : List Int), preSum (fun i => ns.getD i 0) ns.length = ns.sum := by
  intro ns
  have gen : ∀ (ns : List Int) (k : Nat), k ≤ ns.length → preSum (fun i => ns.getD i 0) k = (ns.take k).sum := by
    intro ns k
    induction k with
    | zero => intro _; simp [preSum]
    | succ k ih =>
      intro hk
      have hk' : k < ns.length := hk
      rw [sum_take (List.getElem?_eq_getElem hk'), ← ih (Nat.le_of_lt hk')]
      show preSum _ k + ns.getD k 0 = _
      rw [List.getD_eq_getElem?_getD, List.getElem?_eq_getElem hk']
      rfl
  rw [gen ns _ (Nat.le_refl _), List.take_length]
theorem iterK_any {prog : Program} {w : World} {A : Around} {E : Value → Shared → Prop} {s : Shared} {k : Bool} {l : Addr} {items : Array Value} {Q : Value → Shared → Prop} (hl : IsK k s.heap l items)
    (h : ∀ s₂ : Shared, s₂ = { s with heap := s.heap.push (itO k l) } → (ItK k s₂.heap s.heap.objs.size l 0 ∧ IsK k s₂.heap l items) → (∀ b ∈ [s.heap.objs.size, l], b < s₂.heap.objs.size) → l ≠ s.heap.objs.size → Q (.ref s.heap.objs.size) s₂) :
    wpAny (model prog w) A (pyIter (.ref l)) Q E s := by
  have hlt := hl.lt
  refine (beginsK (k := k) (a := l) (items := items)).iter prog w A E s Q hl (h _ rfl ⟨itO_it (Heap.get?_push_size _ (beginsK (k := k) (a := l) (items := items)).free), hl.at fun o e => Heap.get?_push_of_some _ e⟩ (fun b hb => ?_) (Nat.ne_of_lt hlt))
  show b < (s.heap.push _).objs.size
  rw [Heap.size_push]
  rcases List.mem_cons.mp hb with rfl | hb
  · exact Nat.lt_succ_self _
  · rw [List.mem_singleton.mp hb]
    exact Nat.lt_succ_of_lt hlt
theorem ints_at {ns : List Int} {its : List Value} (hi : IntsAre its ns) {i : Nat} {v : Value} (h : its.toArray[i]? = some v) : ∃ t, v = .int (ns.getD i 0) t := by
  have h' : its[i]? = some v := by simpa using h
  clear h
  induction hi generalizing i with
  | nil => simp at h'
  | cons n t _ ih =>
    cases i with
    | zero =>
      simp at h'
      exact ⟨t, by rw [← h']; rfl⟩
    | succ i =>
      simp at h'
      obtain ⟨t, e⟩ := ih h'
      exact ⟨t, by rw [e]; rfl⟩
theorem call_sumD (hc : X.calm = true) : CallD X (.builtin "sum") sumD := by
  intro pins s σ H xs us ds hd Q I rx rd rh q
  unfold sumD at q
  split at q
  · obtain ⟨x, rfl, r⟩ := rvs1 rd
    obtain ⟨ns, e, q⟩ := intsO_of q
    obtain ⟨k, a, rfl, hk⟩ := intsAt_k rh r e
    obtain ⟨u, rfl, ru⟩ := vals1 rx
    cases ru
    obtain ⟨its, rv, p, hz⟩ := seqK I hk
    have hi := intsAre_of rv
    have hn : its.toArray.size = ns.length := by rw [List.size_toArray, hi.length]
    refine call_sum_walkG (iterK_any p fun s₂ e2 st hfp hne => ?_)
    subst e2
    refine ⟨_, _, _, _, _, _, fun i => ns.getD i 0, rfl, walksK (A := X.A.in1) (k := k) (items := its.toArray) (I.ok.hd hc) hne, st, hfp, fun i v hv => ints_at hi hv, fun h' tk t' kp => ?_⟩
    refine ⟨.int ns.sum, H, I.kept fun b o eo => kp b o (fun hm => ?_) (Heap.get?_push_of_some _ eo), ?_, post_mk rv_int rh q⟩
    · rw [List.mem_singleton.mp hm] at eo
      exact absurd (Heap.lt_size eo) (Nat.lt_irrefl _)
    · exact ⟨t', by rw [hn, presum_ints]⟩
  · exact q.elim
/-- the greatest, the least of a list that is not empty -/
def maxL (ns : List Int) : Int := ns.foldl max (ns.headD 0)
def minL (ns : List Int) : Int := ns.foldl min (ns.headD 0)
theorem maxL_is {ns : List Int} {m : Int} (h : m ∈ ns) (k : ∀ y ∈ ns, y ≤ m) : m = maxL ns := by
  have up : ∀ (ns : List Int) (a : Int), a ≤ ns.foldl max a ∧ (∀ y ∈ ns, y ≤ ns.foldl max a) ∧ (ns.foldl max a = a ∨ ns.foldl max a ∈ ns) := by
    intro ns
    induction ns with
    | nil => intro a; simp
    | cons n ns ih =>
      intro a
      obtain ⟨h1, h2, h3⟩ := ih (max a n)
      simp only [List.foldl_cons, List.mem_cons]
      refine ⟨by omega, ?_, ?_⟩
      · rintro y (rfl | hy)
        · omega
        · exact h2 y hy
      · rcases h3 with h3 | h3
        · by_cases q : a ≤ n
          · right; left; rw [h3]; omega
          · left; rw [h3]; omega
        · right; right; exact h3
  unfold maxL
  cases ns with
  | nil => cases h
  | cons n ns =>
    obtain ⟨h1, h2, h3⟩ := up (n :: ns) n
    have a := h2 m h
    rcases h3 with h3 | h3
    · have b := k n List.mem_cons_self
      simp only [List.headD_cons] at *
      omega
    · have b := k _ h3
      simp only [List.headD_cons] at *
      omega
theorem minL_is {ns : List Int} {m : Int} (h : m ∈ ns) (k : ∀ y ∈ ns, m ≤ y) : m = minL ns := by
  have up : ∀ (ns : List Int) (a : Int), ns.foldl min a ≤ a ∧ (∀ y ∈ ns, ns.foldl min a ≤ y) ∧ (ns.foldl min a = a ∨ ns.foldl min a ∈ ns) := by
    intro ns
    induction ns with
    | nil => intro a; simp
    | cons n ns ih =>
      intro a
      obtain ⟨h1, h2, h3⟩ := ih (min a n)
      simp only [List.foldl_cons, List.mem_cons]
      refine ⟨by omega, ?_, ?_⟩
      · rintro y (rfl | hy)
        · omega
        · exact h2 y hy
      · rcases h3 with h3 | h3
        · by_cases q : a ≤ n
          · left; rw [h3]; omega
          · right; left; rw [h3]; omega
        · right; right; exact h3
  unfold minL
  cases ns with
  | nil => cases h
  | cons n ns =>
    obtain ⟨h1, h2, h3⟩ := up (n :: ns) n
    have a := h2 m h
    rcases h3 with h3 | h3
    · have b := k n List.mem_cons_self
      simp only [List.headD_cons] at *
      omega
    · have b := k _ h3
      simp only [List.headD_cons] at *
      omega
def max1D : List D → HpD → QD → Prop
  | [d], hd, Q => intsO (intsAt hd d) fun ns => ns ≠ [] ∧ Q (.int (maxL ns)) hd
  | _, _, _ => False
def min1D : List D → HpD → QD → Prop
  | [d], hd, Q => intsO (intsAt hd d) fun ns => ns ≠ [] ∧ Q (.int (minL ns)) hd
  | _, _, _ => False
theorem getD_in {ns : List Int} {j : Nat} (h : j < ns.length) : ns.getD j 0 ∈ ns := by
  rw [List.getD_eq_getElem?_getD, List.getElem?_eq_getElem h]
  exact List.getElem_mem h
theorem call_max1D (hc : X.calm = true) : CallD X (.builtin "max") max1D := by
  intro pins s σ H xs us ds hd Q I rx rd rh q
  unfold max1D at q
  split at q
  · obtain ⟨x, rfl, r⟩ := rvs1 rd
    obtain ⟨ns, e, hne, q⟩ := intsO_of q
    obtain ⟨k, a, rfl, hk⟩ := intsAt_k rh r e
    obtain ⟨u, rfl, ru⟩ := vals1 rx
    cases ru
    obtain ⟨its, rv, p, hz⟩ := seqK I hk
    have hi := intsAre_of rv
    have hn : its.toArray.size = ns.length := by rw [List.size_toArray, hi.length]
    have pos : 0 < ns.length := List.length_pos_iff.mpr hne
    refine call_max_walk (iterK_any p fun s₂ e2 st hfp hna => ?_)
    subst e2
    refine ⟨_, _, _, _, _, _, _, rfl, walksK (A := X.A.in1) (k := k) (items := its.toArray) (I.ok.hd hc) hna, st, hfp, by rw [hn]; exact pos, CmpOf.ints_gt (fun i => ns.getD i 0) (fun i v hv => ints_at hi hv), fun v h' tk hv kp => ?_⟩
    obtain ⟨t, ev⟩ := ints_at hi hv
    obtain ⟨b1, b2⟩ := argBest_gt (fun i => ns.getD i 0) (its.toArray.size - 1)
    have em : ns.getD (argBest (fun i j => decide (ns.getD i 0 > ns.getD j 0)) (its.toArray.size - 1)) 0 = maxL ns := by
      refine maxL_is (getD_in (by omega)) fun y hy => ?_
      obtain ⟨j, hj, ej⟩ := List.mem_iff_getElem.mp hy
      have := b2 j (by omega)
      rw [List.getD_eq_getElem?_getD, List.getElem?_eq_getElem hj] at this
      rw [← ej]
      exact this
    refine ⟨.int (maxL ns), H, I.kept fun b o eo => kp b o (fun hm => ?_) (Heap.get?_push_of_some _ eo), ⟨t, by rw [ev, em]⟩, post_mk rv_int rh q⟩
    rw [List.mem_singleton.mp hm] at eo
    exact absurd (Heap.lt_size eo) (Nat.lt_irrefl _)
  · exact q.elim
theorem call_min1D (hc : X.calm = true) : CallD X (.builtin "min") min1D := by
  intro pins s σ H xs us ds hd Q I rx rd rh q
  unfold min1D at q
  split at q
  · obtain ⟨x, rfl, r⟩ := rvs1 rd
    obtain ⟨ns, e, hne, q⟩ := intsO_of q
    obtain ⟨k, a, rfl, hk⟩ := intsAt_k rh r e
    obtain ⟨u, rfl, ru⟩ := vals1 rx
    cases ru
    obtain ⟨its, rv, p, hz⟩ := seqK I hk
    have hi := intsAre_of rv
    have hn : its.toArray.size = ns.length := by rw [List.size_toArray, hi.length]
    have pos : 0 < ns.length := List.length_pos_iff.mpr hne
    refine call_min_walk (iterK_any p fun s₂ e2 st hfp hna => ?_)
    subst e2
    refine ⟨_, _, _, _, _, _, _, rfl, walksK (A := X.A.in1) (k := k) (items := its.toArray) (I.ok.hd hc) hna, st, hfp, by rw [hn]; exact pos, CmpOf.ints_lt (fun i => ns.getD i 0) (fun i v hv => ints_at hi hv), fun v h' tk hv kp => ?_⟩
    obtain ⟨t, ev⟩ := ints_at hi hv
    obtain ⟨b1, b2⟩ := argBest_lt (fun i => ns.getD i 0) (its.toArray.size - 1)
    have em : ns.getD (argBest (fun i j => decide (ns.getD i 0 < ns.getD j 0)) (its.toArray.size - 1)) 0 = minL ns := by
      refine minL_is (getD_in (by omega)) fun y hy => ?_
      obtain ⟨j, hj, ej⟩ := List.mem_iff_getElem.mp hy
      have := b2 j (by omega)
      rw [List.getD_eq_getElem?_getD (i := j), List.getElem?_eq_getElem hj] at this
      rw [← ej]
      exact this
    refine ⟨.int (minL ns), H, I.kept fun b o eo => kp b o (fun hm => ?_) (Heap.get?_push_of_some _ eo), ⟨t, by rw [ev, em]⟩, post_mk rv_int rh q⟩
    rw [List.mem_singleton.mp hm] at eo
    exact absurd (Heap.lt_size eo) (Nat.lt_irrefl _)
  · exact q.elim
/-- bools of a list -/
def blsOf : List D → Option (List Bool)
  | [] => some []
  | .bl i :: r => (blsOf r).map (i :: ·)
  | _ => none
theorem blsOf_rvs {K : PySem.W.Frag} {H : Hp} : ∀ {ds : List D} {ns : List Bool} {vs : List V}, blsOf ds = some ns → Rvs K H ds vs → vs = ns.map V.bl
  | [], _, _, e, r => by
    simp only [blsOf, Option.some.injEq] at e
    subst e
    simp only [Rvs] at r
    exact r
  | .bl i :: ds, _, _, e, r => by
    simp only [blsOf, Option.map_eq_some_iff] at e
    obtain ⟨ns, e1, rfl⟩ := e
    simp only [Rvs] at r
    obtain ⟨v, vs, rfl, r1, r2⟩ := r
    rw [of_bl r1, blsOf_rvs e1 r2]
    rfl
theorem blsOf_map : ∀ ns : List Bool, blsOf (ns.map D.bl) = some ns
  | [] => rfl
  | n :: ns => by
    show (blsOf (ns.map D.bl)).map (n :: ·) = _
    rw [blsOf_map ns]
    rfl
def allD : List D → HpD → QD → Prop
  | [.ref a], hd, Q => ∃ bs : List Bool, hd a = some (.lst (bs.map D.bl)) ∧ Q (.bl (bs.all id)) hd
  | _, _, _ => False
def anyD : List D → HpD → QD → Prop
  | [.ref a], hd, Q => ∃ bs : List Bool, hd a = some (.lst (bs.map D.bl)) ∧ Q (.bl (bs.any id)) hd
  | _, _, _ => False
theorem call_allD (hc : X.calm = true) : CallD X (.builtin "all") allD := .of (cr_all hc) fun H xs ds hd Q rs rh q => by
  unfold allD at q
  split at q
  · obtain ⟨x, rfl, r⟩ := rvs1 rs
    obtain ⟨bs, ha, q⟩ := q
    obtain ⟨vs, hv, r'⟩ := of_lst rh ha
    rw [blsOf_rvs (blsOf_map bs) r'] at hv
    exact ⟨_, bs, by rw [of_ref r], .of hv, post_mk rv_bl rh q⟩
  · exact q.elim
theorem call_anyD (hc : X.calm = true) : CallD X (.builtin "any") anyD := .of (cr_any hc) fun H xs ds hd Q rs rh q => by
  unfold anyD at q
  split at q
  · obtain ⟨x, rfl, r⟩ := rvs1 rs
    obtain ⟨bs, ha, q⟩ := q
    obtain ⟨vs, hv, r'⟩ := of_lst rh ha
    rw [blsOf_rvs (blsOf_map bs) r'] at hv
    exact ⟨_, bs, by rw [of_ref r], .of hv, post_mk rv_bl rh q⟩
  · exact q.elim
/-- tuple(x), list(x) -/
def tupleD : List D → HpD → QD → Prop
  | [.tup xs], hd, Q => Q (.tup xs) hd
  | [.rl xs], hd, Q => Q (.tup xs) hd
  | [.ref a], hd, Q => ∃ xs, hd a = some (.lst xs) ∧ Q (.tup xs) hd
  | _, _, _ => False
theorem call_tupleD : CallD X (.type "tuple") tupleD := .of call_tuple_of fun H xs ds hd Q rs rh q => by
  unfold tupleD at q
  split at q
  · obtain ⟨x, rfl, r⟩ := rvs1 rs
    obtain ⟨a, vs, rfl, h, r⟩ := of_tup r
    exact ⟨a, vs, rfl, .inr ⟨h, post_mk (rv_tup h r) rh q⟩⟩
  · obtain ⟨x, rfl, r⟩ := rvs1 rs
    obtain ⟨a, vs, rfl, h, r⟩ := of_rl r
    exact ⟨a, vs, rfl, .inl ⟨h.sq, fun l hl => post_tup rh hl r q⟩⟩
  · obtain ⟨x, rfl, r⟩ := rvs1 rs
    obtain ⟨xs, ha, q⟩ := q
    obtain ⟨vs, hv, r'⟩ := of_lst rh ha
    exact ⟨_, vs, by rw [of_ref r], .inl ⟨.of hv, fun l hl => post_tup rh hl r' q⟩⟩
  · exact q.elim
def listD : List D → HpD → QD → Prop
  | [.tup xs], hd, Q => ∀ p, hd p = none → Q (.ref p) (put hd p (.lst xs))
  | [.rl xs], hd, Q => ∀ p, hd p = none → Q (.ref p) (put hd p (.lst xs))
  | [.ref a], hd, Q => ∃ xs, hd a = some (.lst xs) ∧ ∀ p, hd p = none → Q (.ref p) (put hd p (.lst xs))
  | _, _, _ => False
theorem call_listD' : CallD X (.type "list") listD := .of call_list_of fun H xs ds hd Q rs rh q => by
  unfold listD at q
  split at q
  · obtain ⟨x, rfl, r⟩ := rvs1 rs
    obtain ⟨a, vs, rfl, h, r⟩ := of_tup r
    exact ⟨a, vs, rfl, .inr h, fun l hl => post_new rh hl r q⟩
  · obtain ⟨x, rfl, r⟩ := rvs1 rs
    obtain ⟨a, vs, rfl, h, r⟩ := of_rl r
    exact ⟨a, vs, rfl, .inl h.sq, fun l hl => post_new rh hl r q⟩
  · obtain ⟨x, rfl, r⟩ := rvs1 rs
    obtain ⟨xs, ha, q⟩ := q
    obtain ⟨vs, hv, r'⟩ := of_lst rh ha
    exact ⟨_, vs, by rw [of_ref r], .inl (.of hv), fun l hl => post_new rh hl r' q⟩
  · exact q.elim

/-! ### isinstance with a built-in class -/
def kindD (hd : HpD) : D → Option String
  | .non => some "NoneType"
  | .bl _ => some "bool"
  | .int _ => some "int"
  | .str _ => some "str"
  | .tup _ => some "tuple"
  | .rl _ => some "list"
  | .ref a => match hd a with
    | some (.lst _) => some "list"
    | some (.dct _) => some "dict"
    | _ => none
  | .ty _ => none
def isIntD : D → Bool
  | .int _ | .bl _ => true
  | _ => false
def isBoolD : D → Bool
  | .bl _ => true
  | _ => false
def isStrD : D → Bool
  | .str _ => true
  | _ => false
def isTupD : D → Bool
  | .tup _ => true
  | _ => false
theorem ty_of {K : PySem.W.Frag} {H : Hp} {hd : HpD} {d : D} {v : V} {n : String} (rh : RH K H hd) (r : Rv K H d v) (e : kindD hd d = some n) : TyX K H v (.type n) := by
  cases d with
  | non => cases e; rw [of_non r]; exact .base .non
  | bl b => cases e; rw [of_bl r]; exact .base (.bl b)
  | int b => cases e; rw [of_int r]; exact .base (.int b)
  | str b => cases e; rw [of_str r]; exact .base (.str b)
  | tup ds =>
    cases e
    obtain ⟨a, vs, rfl, (h | ⟨o, h⟩) | ⟨o, its, n, h1, h2, _⟩, r⟩ := of_tup r
    · exact .base (.tup h)
    · exact .fTuple h
    · exact .kTuple h1 h2
  | rl ds =>
    cases e
    obtain ⟨a, vs, rfl, h, r⟩ := of_rl r
    rcases h with ⟨o, h⟩ | ((h | ⟨o, h⟩) | ⟨o, its, n, h1, h2, _⟩)
    · exact .base (.frz h)
    · cases h
    · cases h
    · exact .kList h1 h2
  | ref a =>
    rw [of_ref r]
    simp only [kindD] at e
    split at e
    · rename_i ds hds
      cases e
      obtain ⟨vs, hv, _⟩ := of_lst rh hds
      exact .base (.lst hv)
    · rename_i ds hds
      cases e
      obtain ⟨vs, hv, _⟩ := rh _ _ hds
      exact .base (.dK hv)
    · cases e
  | ty n => cases e
def isiD (T : String) (p : D → Bool) : List D → HpD → QD → Prop
  | [d, .ty n], hd, Q => n = T ∧ (kindD hd d).isSome = true ∧ Q (.bl (p d)) hd
  | _, _, _ => False
theorem kind_cases {hd : HpD} {d : D} {n : String} (e : kindD hd d = some n) (T : String) (p : D → Bool)
    (h : (kitB "NoneType" T = some (p .non)) ∧ (∀ b, kitB "bool" T = some (p (.bl b))) ∧ (∀ b, kitB "int" T = some (p (.int b))) ∧ (∀ b, kitB "str" T = some (p (.str b))) ∧ (∀ b, kitB "tuple" T = some (p (.tup b))) ∧ (∀ b, kitB "list" T = some (p (.rl b))) ∧ (∀ b, kitB "list" T = some (p (.ref b))) ∧ (∀ b, kitB "dict" T = some (p (.ref b)))) :
    kitB n T = some (p d) := by
  obtain ⟨h1, h2, h3, h4, h5, h6, h7, h8⟩ := h
  cases d with
  | non => cases e; exact h1
  | bl b => cases e; exact h2 b
  | int b => cases e; exact h3 b
  | str b => cases e; exact h4 b
  | tup b => cases e; exact h5 b
  | rl b => cases e; exact h6 b
  | ref a =>
    simp only [kindD] at e
    split at e
    · cases e; exact h7 a
    · cases e; exact h8 a
    · cases e
  | ty b => cases e
theorem call_isiD {T : String} {p : D → Bool} (h : ∀ hd d n, kindD hd d = some n → kitB n T = some (p d)) : CallD X (.builtin "isinstance") (isiD T p) := .of call_isi fun H xs ds hd Q rs rh q => by
  unfold isiD at q
  split at q
  · rename_i d n
    obtain ⟨rfl, hk, q⟩ := q
    obtain ⟨x, y, rfl, r1, r2⟩ := rvs2 rs
    obtain ⟨m, em⟩ := Option.isSome_iff_exists.mp hk
    exact ⟨x, y, .type m, .type n, p d, rfl, by rw [of_ty r2]; exact .ty n, ty_of rh r1 em, kit_ty (h hd d m em), post_mk rv_bl rh q⟩
  · exact q.elim
theorem kit_int : ∀ hd d n, kindD hd d = some n → kitB n "int" = some (isIntD d) := by
  intro hd d n e
  have h_bool : kitB "bool" "int" = some true := by decide +kernel
  have h_int : kitB "int" "int" = some true := by decide +kernel
  have h_str : kitB "str" "int" = some false := by decide +kernel
  have h_tuple : kitB "tuple" "int" = some false := by decide +kernel
  have h_list : kitB "list" "int" = some false := by decide +kernel
  have h_dict : kitB "dict" "int" = some false := by decide +kernel
  exact kind_cases e "int" isIntD ⟨by decide +kernel, fun _ => h_bool, fun _ => h_int, fun _ => h_str, fun _ => h_tuple, fun _ => h_list, fun _ => h_list, fun _ => h_dict⟩
theorem kit_bool : ∀ hd d n, kindD hd d = some n → kitB n "bool" = some (isBoolD d) := by
  intro hd d n e
  have h_bool : kitB "bool" "bool" = some true := by decide +kernel
  have h_int : kitB "int" "bool" = some false := by decide +kernel
  have h_str : kitB "str" "bool" = some false := by decide +kernel
  have h_tuple : kitB "tuple" "bool" = some false := by decide +kernel
  have h_list : kitB "list" "bool" = some false := by decide +kernel
  have h_dict : kitB "dict" "bool" = some false := by decide +kernel
  exact kind_cases e "bool" isBoolD ⟨by decide +kernel, fun _ => h_bool, fun _ => h_int, fun _ => h_str, fun _ => h_tuple, fun _ => h_list, fun _ => h_list, fun _ => h_dict⟩
theorem kit_str : ∀ hd d n, kindD hd d = some n → kitB n "str" = some (isStrD d) := by
  intro hd d n e
  have h_bool : kitB "bool" "str" = some false := by decide +kernel
  have h_int : kitB "int" "str" = some false := by decide +kernel
  have h_str : kitB "str" "str" = some true := by decide +kernel
  have h_tuple : kitB "tuple" "str" = some false := by decide +kernel
  have h_list : kitB "list" "str" = some false := by decide +kernel
  have h_dict : kitB "dict" "str" = some false := by decide +kernel
  exact kind_cases e "str" isStrD ⟨by decide +kernel, fun _ => h_bool, fun _ => h_int, fun _ => h_str, fun _ => h_tuple, fun _ => h_list, fun _ => h_list, fun _ => h_dict⟩
theorem kit_tup : ∀ hd d n, kindD hd d = some n → kitB n "tuple" = some (isTupD d) := by
  intro hd d n e
  have h_bool : kitB "bool" "tuple" = some false := by decide +kernel
  have h_int : kitB "int" "tuple" = some false := by decide +kernel
  have h_str : kitB "str" "tuple" = some false := by decide +kernel
  have h_tuple : kitB "tuple" "tuple" = some true := by decide +kernel
  have h_list : kitB "list" "tuple" = some false := by decide +kernel
  have h_dict : kitB "dict" "tuple" = some false := by decide +kernel
  exact kind_cases e "tuple" isTupD ⟨by decide +kernel, fun _ => h_bool, fun _ => h_int, fun _ => h_str, fun _ => h_tuple, fun _ => h_list, fun _ => h_list, fun _ => h_dict⟩
end
end G
/-! G10: repr of plain data, displays of dicts. -/
namespace G
open PySem PySem.Spec PyProof.Rows L2

/-! ### repr -/
mutual
theorem hasDict_plain : ∀ {d : D}, plainD d = true → (toP d).hasDict = false
  | .non, _ => by simp only [toP, PyData.hasDict]
  | .bl _, _ => by simp only [toP, PyData.hasDict]
  | .int _, _ => by simp only [toP, PyData.hasDict]
  | .str _, _ => by simp only [toP, PyData.hasDict]
  | .tup ds, h => by
    simp only [toP, PyData.hasDict]
    exact hasDicts_plain (by simpa only [plainD] using h)
  | .rl ds, h => by
    simp only [toP, PyData.hasDict]
    exact hasDicts_plain (by simpa only [plainD] using h)
  | .ref _, h => by simp [plainD] at h
  | .ty _, h => by simp [plainD] at h
theorem hasDicts_plain : ∀ {ds : List D}, plainDs ds = true → PyData.hasDictAll (toPs ds) = false
  | [], _ => by simp only [toPs, PyData.hasDictAll]
  | d :: ds, h => by
    simp only [plainDs, Bool.and_eq_true] at h
    simp only [toPs, PyData.hasDictAll, hasDict_plain h.1, hasDicts_plain h.2, Bool.or_self]
end
mutual
/-- how long a repr is at most, how deep the data, whether its ints are of a size to be shown -/
def cost : D → Nat
  | .non => 8
  | .bl _ => 8
  | .int _ => 2000
  | .str x => (reprText x).length
  | .tup ds => costs ds + 8
  | .rl ds => costs ds + 8
  | .ref _ => 0
  | .ty _ => 0
def costs : List D → Nat
  | [] => 0
  | d :: ds => cost d + 2 + costs ds
end
mutual
def deep : D → Nat
  | .tup ds => deeps ds + 1
  | .rl ds => deeps ds + 1
  | .non | .bl _ | .int _ | .str _ | .ref _ | .ty _ => 0
def deeps : List D → Nat
  | [] => 0
  | d :: ds => max (deep d) (deeps ds)
end
mutual
def okInts : D → Bool
  | .int i => decide (i.natAbs.log2 < 1920)
  | .tup ds => okIntss ds
  | .rl ds => okIntss ds
  | .non | .bl _ | .str _ | .ref _ | .ty _ => true
def okIntss : List D → Bool
  | [] => true
  | d :: ds => okInts d && okIntss ds
end
mutual
theorem deep_is : ∀ {d : D}, plainD d = true → (toP d).depth = deep d
  | .non, _ => by simp only [toP, PyData.depth, deep]
  | .bl _, _ => by simp only [toP, PyData.depth, deep]
  | .int _, _ => by simp only [toP, PyData.depth, deep]
  | .str _, _ => by simp only [toP, PyData.depth, deep]
  | .tup ds, h => by
    simp only [toP, PyData.depth, deep, deeps_is (ds := ds) (by simpa only [plainD] using h)]
  | .rl ds, h => by
    simp only [toP, PyData.depth, deep, deeps_is (ds := ds) (by simpa only [plainD] using h)]
  | .ref _, h => by simp [plainD] at h
  | .ty _, h => by simp [plainD] at h
theorem deeps_is : ∀ {ds : List D}, plainDs ds = true → PyData.depthAll (toPs ds) = deeps ds
  | [], _ => by simp only [toPs, PyData.depthAll, deeps]
  | d :: ds, h => by
    simp only [plainDs, Bool.and_eq_true] at h
    simp only [toPs, PyData.depthAll, deeps, deep_is h.1, deeps_is h.2]
end
mutual
theorem show_ok : ∀ {d : D}, plainD d = true → okInts d = true → (toP d).showable = true
  | .non, _, _ => by simp only [toP, PyData.showable]
  | .bl _, _, _ => by simp only [toP, PyData.showable]
  | .int _, _, h => by
    simp only [toP, PyData.showable]
    simpa only [okInts] using h
  | .str _, _, _ => by simp only [toP, PyData.showable]
  | .tup ds, h, k => by
    simp only [toP, PyData.showable]
    exact shows_ok (by simpa only [plainD] using h) (by simpa only [okInts] using k)
  | .rl ds, h, k => by
    simp only [toP, PyData.showable]
    exact shows_ok (by simpa only [plainD] using h) (by simpa only [okInts] using k)
  | .ref _, h, _ => by simp [plainD] at h
  | .ty _, h, _ => by simp [plainD] at h
theorem shows_ok : ∀ {ds : List D}, plainDs ds = true → okIntss ds = true → PyData.showableAll (toPs ds) = true
  | [], _, _ => by simp only [toPs, PyData.showableAll]
  | d :: ds, h, k => by
    simp only [plainDs, Bool.and_eq_true] at h
    simp only [okIntss, Bool.and_eq_true] at k
    simp only [toPs, PyData.showableAll, show_ok h.1 k.1, shows_ok h.2 k.2, Bool.and_self]
end
theorem listText_le : ∀ ts : List Str, (listText ts).length ≤ piled ts + 2 := by
  have gen : ∀ (ts : List Str) (k : Nat) (acc : Str), (textFrom k acc ts).length ≤ acc.length + piled ts := by
    intro ts
    induction ts with
    | nil => intro k acc; simp [textFrom, piled]
    | cons t ts ih =>
      intro k acc
      unfold textFrom
      refine Nat.le_trans (ih _ _) ?_
      rw [piled_cons]
      split
      all_goals
        have e2 : (Str.ofString ", ").length = 2 := rfl
        have e0 : (Str.ofString "").length = 0 := rfl
        simp only [strLen_append, e2, e0]
        omega
  intro ts
  unfold listText
  rw [strLen_append]
  have := gen ts 0 "["
  have e1 : (("[" : String) : Str).length = 1 := rfl
  have e2 : (("]" : String) : Str).length = 1 := rfl
  rw [e1] at this
  rw [e2]
  omega
theorem tupleText_le (ts : List Str) : (tupleText ts).length ≤ piled ts + 4 := by
  unfold tupleText
  rw [strLen_append, strLen_append]
  have e1 : (("(" : String) : Str).length = 1 := rfl
  have e3 : (((if ts.length == 1 then ",)" else ")" : String) : Str)).length ≤ 2 := by split <;> decide +kernel
  rw [e1]
  by_cases h : ts = []
  · subst h
    have : (Str.join ", " ([] : List Str)).length = 0 := by decide +kernel
    omega
  · have := join_length_add ts h
    omega
mutual
theorem shown_le : ∀ {d : D}, plainD d = true → okInts d = true → (toP d).shown.length ≤ cost d
  | .non, _, _ => by simp only [toP, PyData.shown, cost]; decide +kernel
  | .bl b, _, _ => by simp only [toP, PyData.shown, cost]; cases b <;> decide +kernel
  | .int i, _, h => by
    simp only [toP, PyData.shown, cost]
    have := int_text_length_le (a := i) (k := 1920) (by decide) (by simpa [okInts] using h)
    show (Str.ofString (toString i)).length ≤ 2000
    rw [PySem.ofString_length]
    omega
  | .str x, _, _ => by simp only [toP, PyData.shown, cost]; exact Nat.le_refl _
  | .tup ds, h, k => by
    simp only [toP, PyData.shown, cost]
    have h1 := showns_le (ds := ds) (by simpa only [plainD] using h) (by simpa only [okInts] using k)
    have h2 := tupleText_le (PyData.shownAll (toPs ds))
    omega
  | .rl ds, h, k => by
    simp only [toP, PyData.shown, cost]
    have h1 := showns_le (ds := ds) (by simpa only [plainD] using h) (by simpa only [okInts] using k)
    have h2 := listText_le (PyData.shownAll (toPs ds))
    omega
  | .ref _, h, _ => by simp [plainD] at h
  | .ty _, h, _ => by simp [plainD] at h
theorem showns_le : ∀ {ds : List D}, plainDs ds = true → okIntss ds = true → piled (PyData.shownAll (toPs ds)) ≤ costs ds
  | [], _, _ => by simp [toPs, PyData.shownAll, costs, piled]
  | d :: ds, h, k => by
    simp only [plainDs, Bool.and_eq_true] at h
    simp only [okIntss, Bool.and_eq_true] at k
    simp only [toPs, PyData.shownAll, costs, piled_cons]
    have h1 := shown_le h.1 k.1
    have h2 := showns_le h.2 k.2
    omega
end
/-- data whose repr is known: the text is that of toP -/
structure Shows (d : D) : Prop where
  plain : plainD d = true
  okI : okInts d = true
  small : cost d ≤ 16000000
  flat : deep d ≤ 50
def reprD (d : D) : Str := (toP d).shown
def rpD : List D → HpD → QD → Prop
  | [d], hd, Q => Shows d ∧ Q (.str (reprD d)) hd
  | _, _, _ => False
section
variable {X : Cx}
theorem call_reprD (quiet : Quiet X.A) (hu : X.A.units + 64 < cLine) : CallD X (.builtin "repr") rpD := by
  intro pins s σ H xs us ds hd Q I rx rd rh q
  unfold rpD at q
  split at q
  · rename_i d
    obtain ⟨sh, q⟩ := q
    obtain ⟨x, rfl, r⟩ := rvs1 rd
    obtain ⟨u, rfl, ru⟩ := vals1 rx
    have hs := show_ok sh.plain sh.okI
    have hz := shown_le sh.plain sh.okI
    have hl : (toP d).shown.length ≤ sizeLine := by rw [sizeLine_eq]; exact Nat.le_trans hz (Nat.le_trans sh.small (by decide))
    have hdp := deep_is sh.plain
    obtain ⟨as, rds⟩ := Dp.reads I (toP d) x u (dp_of sh.plain r) ru
    have fin : ∀ (h' : Heap) (tk : Nat) (t : Tok), (∀ b o, s.heap.get? b = some o → h'.get? b = some o) → EP X pins σ (post X.K H Q) (.str (toP d).shown t) { s with heap := h', toks := tk } :=
      fun h' tk t kp => ⟨.str (reprD d), H, I.kept kp, ⟨t, rfl⟩, post_mk rv_str rh q⟩
    have viaRef : ∀ a, u = .ref a → wpAny (model X.prog X.w) X.A (call (.builtin "repr") [u]) (EP X pins σ (post X.K H Q)) X.xe s := fun a e => by
      subst e
      refine repr_of_reads' rds hs (PyData.noDict_hsm (hasDict_plain sh.plain)) quiet ?_ (fun b o e => e) (fun h' u tk kp => fin h' tk u kp) hl
      have := sh.flat
      omega
    cases d with
    | non =>
      have := of_non r
      subst this
      cases ru
      exact PySem.P.repr_of_none (fin s.heap _ _ fun _ _ e => e)
    | bl b =>
      have := of_bl r
      subst this
      cases ru
      exact PySem.P.repr_of_bool (fin s.heap _ _ fun _ _ e => e)
    | int i =>
      have := of_int r
      subst this
      obtain ⟨t, rfl⟩ := ru
      exact PySem.P.repr_of_int (by simpa [okInts] using sh.okI) (fin s.heap _ _ fun _ _ e => e)
    | str z =>
      have := of_str r
      subst this
      obtain ⟨t, rfl⟩ := ru
      exact PySem.P.repr_of_str (fin s.heap _ _ fun _ _ e => e) hl
    | tup ds =>
      obtain ⟨a, vs, rfl, _⟩ := of_tup r
      exact viaRef a ru
    | rl ds =>
      obtain ⟨a, vs, rfl, _⟩ := of_rl r
      exact viaRef a ru
    | ref a => exact absurd sh.plain (by simp [plainD])
    | ty a => exact absurd sh.plain (by simp [plainD])
  · exact q.elim
end

/-! ### {k: v, ..} with written keys -/
def dPairs : List (TED × TED) → EnvD → HpD → (List (D × D) → HpD → Prop) → Prop
  | [], _, hd, Q => Q [] hd
  | (tk, tv) :: r, env, hd, Q => tk env hd fun x h1 => tv env h1 fun y h2 => dPairs r env h2 fun ps h3 => Q ((x, y) :: ps) h3
def keysD : List (D × D) → Option (List (Key × D))
  | [] => some []
  | (k, v) :: r => match keyD k, keysD r with
    | some k, some r => some ((k, v) :: r)
    | _, _ => none
def dDisp (trs : List (TED × TED)) : TED := fun env hd Q => ∀ p, hd p = none → dPairs trs env (put hd p (.dct [])) fun ps h2 => h2 p = some (.dct []) ∧ ps.length ≤ 15 ∧ match keysD ps with
  | some kvs => Q (.ref p) (put h2 p (.dct (kvs.foldl (fun acc kv => dputK acc kv.1 kv.2) [])))
  | none => False
def postP (K : PySem.W.Frag) (H : Hp) (Q : List (D × D) → HpD → Prop) : List (V × V) → Hp → Prop := fun ps H' => ∃ qs h, Tx H H' ∧ Paired (fun p q => Rv K H' p.1 q.1 ∧ Rv K H' p.2 q.2) qs ps ∧ RH K H' h ∧ Q qs h
structure PPD (X : Cx) (pos : Pos) (keys : List (Option Expr)) (values : List Expr) (trs : List (TED × TED)) : Prop where
  w : ∃ l : List (Expr × Expr), PPs X pos keys values (l.map fun p => (wE X p.1, wE X p.2)) ∧ ∀ (σ : L2.St) (H : Hp) (env : EnvD) (hd : HpD) (Q : List (D × D) → HpD → Prop), RS X.K σ H env → RH X.K H hd → dPairs trs env hd Q →
    tPairs (l.map fun p => (wE X p.1, wE X p.2)) σ H (postP X.K H Q)
section
variable {X : Cx} {pos : Pos} {k v : Expr} {ks : List (Option Expr)} {vs : List Expr} {tk tv : TED} {trs : List (TED × TED)}
theorem wPairs_mono {X : Cx} : ∀ {l : List (Expr × Expr)} {σ : L2.St} {H : Hp} {Q Q' : List (V × V) → Hp → Prop}, (∀ ps H', Q ps H' → Q' ps H') → tPairs (l.map fun p => (wE X p.1, wE X p.2)) σ H Q → tPairs (l.map fun p => (wE X p.1, wE X p.2)) σ H Q'
  | [], _, _, _, _, k, h => k _ _ h
  | p :: l, _, _, _, _, k, h => wE.mono h fun _ _ h1 => wE.mono h1 fun _ _ h2 => wPairs_mono (fun _ _ z => k _ _ z) h2
theorem ppd_nil : PPD X pos [] [] [] := ⟨[], pps_nil, fun σ H env hd Q rs rh q => ⟨[], hd, .refl, .nil, rh, q⟩⟩
theorem ppd_cons (hk : PD X k tk) (hv : PD X v tv) (hr : PPD X pos ks vs trs) : PPD X pos (some k :: ks) (v :: vs) ((tk, tv) :: trs) := by
  obtain ⟨l, hp, hq⟩ := hr.w
  refine ⟨(k, v) :: l, pps_cons pe_w pe_w hp, fun σ H env hd Q rs rh q => ?_⟩
  refine (hk.w σ H env hd _ rs rh q).mono fun x H1 ⟨d, h1, t1, r1, rh1, q1⟩ => ?_
  refine (hv.w σ H1 env h1 _ (rs.mono t1) rh1 q1).mono fun y H2 ⟨e, h2, t2, r2, rh2, q2⟩ => ?_
  refine wPairs_mono (fun ps H3 ⟨qs, h3, t3, r3, rh3, q3⟩ => ?_) (hq σ H2 env h2 _ (rs.mono (t1.trans t2)) rh2 q2)
  exact ⟨(d, e) :: qs, h3, (t1.trans t2).trans t3, .cons ⟨r1.mono (t2.trans t3), r2.mono t3⟩ r3, rh3, q3⟩
theorem keysD_rf {K : PySem.W.Frag} {H : Hp} : ∀ {qs : List (D × D)} {ps : List (V × V)} {kvs : List (Key × D)}, Paired (fun p q => Rv K H p.1 q.1 ∧ Rv K H p.2 q.2) qs ps → keysD qs = some kvs → ∃ ks : List (Key × V), ps = ks.map (fun kv => (kV kv.1, kv.2)) ∧ RF K H kvs ks
  | [], _, _, r, e => by
    cases r
    cases e
    exact ⟨[], rfl, .nil⟩
  | (k, v) :: qs, _, _, r, e => by
    cases r with
    | @cons _ p _ ps h t =>
      unfold keysD at e
      split at e
      · rename_i k' r' ek er
        cases e
        obtain ⟨ks, rfl, rf⟩ := keysD_rf t er
        obtain ⟨p1, p2⟩ := p
        have hv : p1 = kV k' := keyD_v ek h.1
        subst hv
        exact ⟨(k', p2) :: ks, rfl, .cons ⟨rfl, h.2⟩ rf⟩
      · cases e
theorem rf_merge {K : PySem.W.Frag} {H : Hp} {more : List (Key × D)} {ks : List (Key × V)} (r : RF K H more ks) : ∀ {kvs : List (Key × D)} {ls : List (Key × V)}, RF K H kvs ls → RF K H (more.foldl (fun acc kv => dputK acc kv.1 kv.2) kvs) (mergeK ls ks) := by
  induction r with
  | nil => intro kvs ls q; exact q
  | @cons p q ps qs h t ih =>
    intro kvs ls r0
    have := rf_put r0 p.1 h.2
    rw [h.1] at this
    have e := ih this
    show RF K H (ps.foldl _ (dputK kvs p.1 p.2)) (mergeK (putK ls q.1 q.2) qs)
    rw [h.1]
    exact e
theorem pd_disp {keys : List (Option Expr)} {values : List Expr} (h : PPD X pos keys values trs) (hall : keys.all (·.isSome) = true := by rfl) (hl : keys.length = values.length := by rfl) (h0 : keys ≠ [] := by exact List.cons_ne_nil _ _)
    (h15 : keys.length ≤ 15 := by decide) : PD X (.Dict keys values pos) (dDisp trs) := by
  obtain ⟨l, hp, hq⟩ := h.w
  refine .of (pe_disp hp hall hl h0 h15) fun σ H env hd Q rs rh q => fun p hn => ?_
  have q := q p (rh.none hn)
  refine wPairs_mono (fun ps H2 ⟨qs, h2, t2, r2, rh2, e, hz, q2⟩ => ?_) (hq σ _ env _ _ (rs.mono (.new hn)) (rh.new hn (o := .dct []) ⟨[], upd_same, .nil⟩) q)
  obtain ⟨ks, hk, rk⟩ := rh2 _ _ e
  cases rk
  split at q2
  · rename_i kvs ek
    obtain ⟨ks, rfl, rf⟩ := keysD_rf r2 ek
    have soft : Soft (.dK []) := trivial
    refine ⟨hk, ks, rfl, ?_, .ref p, _, ((Tx.new hn).trans t2).trans (.write hk soft), rv_ref, rh2.write (o := .dct _) hk soft ⟨_, upd_same, (rf_merge rf .nil).mono (.write hk soft)⟩, q2⟩
    have h1 := Paired.length r2
    rw [List.length_map] at h1
    omega
  · exact q2.elim
end
end G
/-! G11: names of built-ins, a def known by name, calls of built-ins with keywords. -/
namespace G
open PySem PySem.Spec PyProof.Rows L2

theorem bt_len : bootBuiltins "len" = some (.builtin "len") := by decide +kernel
theorem bt_abs : bootBuiltins "abs" = some (.builtin "abs") := by decide +kernel
theorem bt_sum : bootBuiltins "sum" = some (.builtin "sum") := by decide +kernel
theorem bt_max : bootBuiltins "max" = some (.builtin "max") := by decide +kernel
theorem bt_min : bootBuiltins "min" = some (.builtin "min") := by decide +kernel
theorem bt_all : bootBuiltins "all" = some (.builtin "all") := by decide +kernel
theorem bt_any : bootBuiltins "any" = some (.builtin "any") := by decide +kernel
theorem bt_repr : bootBuiltins "repr" = some (.builtin "repr") := by decide +kernel
theorem bt_isinstance : bootBuiltins "isinstance" = some (.builtin "isinstance") := by decide +kernel
theorem bt_sorted : bootBuiltins "sorted" = some (.builtin "sorted") := by decide +kernel
theorem bt_int : bootBuiltins "int" = some (.type "int") := by decide +kernel
theorem bt_bool : bootBuiltins "bool" = some (.type "bool") := by decide +kernel
theorem bt_str : bootBuiltins "str" = some (.type "str") := by decide +kernel
theorem bt_tuple : bootBuiltins "tuple" = some (.type "tuple") := by decide +kernel
theorem bt_list : bootBuiltins "list" = some (.type "list") := by decide +kernel

theorem rv_ty {K : PySem.W.Frag} {H : Hp} {n : String} : Rv K H (.ty n) (.ty n) := by simp only [Rv]
theorem room_le {k k' : Nat} {A : Around} (h : Room k A) (l : k' ≤ k) : Room k' A := ⟨h.hd, by have := h.dp; omega, by have := h.un; omega⟩
theorem room_64 {k : Nat} {A : Around} (h : Room k A) : A.units + 64 < cLine := by have := h.un; omega
theorem room_1 {k : Nat} {A : Around} (h : Room k A) : A.units + 1 < cLine := by have := h.un; omega
theorem room_0 {k : Nat} {A : Around} (h : Room k A) : A.units < cLine := by have := h.un; omega

/-- a def by its name, and what it promises -/
structure Kn (P : Program) (w : World) (K : PySem.W.Frag) (mg : Str → Option Value) (base : Heap) (x : Str) (st : Stmt) (k : Nat) (ps : List Str) (sp : SpD) (f : Addr) (fd : FuncData) : Prop where
  F : Fun K x x st f fd
  g : FnG P w K mg base CX0 k f fd ps (spV K sp)
  b : Binds K fd ps []
  m : mg x = some (.ref f)
section
variable {X : Cx} {x : Str} {st : Stmt} {k k' : Nat} {ps ks : List Str} {sp : SpD} {f : Addr} {fd : FuncData} {a e : Expr} {es : List Expr} {kws : List Keyword} {p pos : Pos} {t tk : TAD} {idx : List Nat} {n : Nat}
theorem pk_call (C : Kn X.prog X.w X.K X.mg X.base x st k ps sp f fd) (hr : Room k' X.A) (hq : Quiet X.A) (ha : PAD X (a :: es) t) (hl : k ≤ k' := by decide) (hg : Gl X x := by rfl) (hdb : (x == ("__debug__" : Str)) = false := by decide)
    (he : starEach (a :: es) X.env = (false, eval a X.env) :: starEach es X.env := by rfl) (hpl : (backTo pos (starEach es X.env)).any (·.1) = false := by rfl) : PD X (.Call (.Name x p) (a :: es) [] pos) (dCall sp t) :=
  pd_call C.g (room_le hr hl) hq C.b hg C.m C.F.kp ha hdb he hpl
theorem pk_callK (C : Kn X.prog X.w X.K X.mg X.base x st k ps sp f fd) (hr : Room k' X.A) (hq : Quiet X.A) (hb : KB X.K fd ps 0 ks idx) (ha : PKD X kws tk) (hl : k ≤ k' := by decide) (hg : Gl X x := by rfl)
    (hall : (backToKw pos (keywordEach kws X.env)).all (·.1.isSome) = true := by rfl) (hks : (backToKw pos (keywordEach kws X.env)).filterMap (·.1) = ks := by rfl)
    (hdb : (x == ("__debug__" : Str)) = false := by decide) (hpl : ((backTo pos (starEach [] X.env)).any (·.1) || (backToKw pos (keywordEach kws X.env)).any (·.1.isNone)) = false := by rfl) :
    PD X (.Call (.Name x p) [] kws pos) (dCallK sp 0 ks.length idx dNil tk) := pd_callK C.g (room_le hr hl) hq hb hg C.m C.F.kp ha hall hks hdb hpl
theorem pk_callPK (C : Kn X.prog X.w X.K X.mg X.base x st k ps sp f fd) (hr : Room k' X.A) (hq : Quiet X.A) (hb : KB X.K fd ps n ks idx) (ha : PAD X (a :: es) t) (hkw : PKD X kws tk) (hl : k ≤ k' := by decide) (hg : Gl X x := by rfl)
    (hall : (backToKw pos (keywordEach kws X.env)).all (·.1.isSome) = true := by rfl) (hks : (backToKw pos (keywordEach kws X.env)).filterMap (·.1) = ks := by rfl)
    (hdb : (x == ("__debug__" : Str)) = false := by decide) (he : starEach (a :: es) X.env = (false, eval a X.env) :: starEach es X.env := by rfl)
    (hpl : ((backTo pos (starEach (a :: es) X.env)).any (·.1) || (backToKw pos (keywordEach kws X.env)).any (·.1.isNone)) = false := by rfl) :
    PD X (.Call (.Name x p) (a :: es) kws pos) (dCallK sp n ks.length idx t tk) := pd_callPK C.g (room_le hr hl) hq hb hg C.m C.F.kp ha hkw hall hks hdb he hpl

/-! ### built-ins with keywords -/
def CallKD (X : Cx) (f : Value) (ks : List Str) (r : List D → List D → HpD → QD → Prop) : Prop :=
  ∀ (pins : List (Addr × Obj)) (s : Shared) (σ : L2.St) (H : Hp) (xs ys : List V) (us ws : List Value) (ds es : List D) (hd : HpD) (Q : QD), Inv X pins σ H s → Vals xs us → Vals ys ws → Rvs X.K H ds xs → Rvs X.K H es ys → RH X.K H hd → r ds es hd Q →
    wpAny (model X.prog X.w) X.A (call f us (ks.zip ws)) (EP X pins σ (post X.K H Q)) X.xe s
def dCBK (r : List D → List D → HpD → QD → Prop) (t tk : TAD) : TED := fun env hd Q => t env hd fun us h1 => tk env h1 fun ws h2 => r us ws h2 Q
theorem pd_callBK {r : List D → List D → HpD → QD → Prop} {id : String} (hc : CallKD X (.builtin id) ks r) (hg : Gl X x) (hm : X.mg x = none) (hv : bootBuiltins x = some (.builtin id)) (ha : PAD X (a :: es) t) (hkw : PKD X kws tk)
    (hall : (backToKw pos (keywordEach kws X.env)).all (·.1.isSome) = true := by rfl) (hks : (backToKw pos (keywordEach kws X.env)).filterMap (·.1) = ks := by rfl) (hn : x ≠ "__name__" := by decide)
    (hdb : (x == ("__debug__" : Str)) = false := by decide) (he : starEach (a :: es) X.env = (false, eval a X.env) :: starEach es X.env := by rfl)
    (hpl : (backTo pos (starEach (a :: es) X.env)).any (·.1) = false := by rfl) (hpk : (backToKw pos (keywordEach kws X.env)).any (·.1.isNone) = false := by rfl) :
    PD X (.Call (.Name x p) (a :: es) kws pos) (dCBK r t tk) := by
  refine ⟨fun σ H env hd Q rs rh q pins s I => ?_⟩
  refine wpAny_Call_Name_kw (ld_blt I hg hm hv ?_ hn hdb)
  refine PyProof.Rows.callWith_builtin_kwB hpl hpk (evalArgs_kw2 hall (thn (ha.w σ H env hd _ rs rh q pos pins s I) fun us s0 ⟨us', H0, I0, r0, ds0, h0, t0, rd0, rh0, q0⟩ => ?_) he)
  refine thn (hkw.w σ H0 env h0 _ (rs.mono t0) rh0 q0 pos pins s0 I0) fun ws s1 ⟨vs, H1, I1, r, ds, h1, t1, rd, rh1, q1⟩ => ?_
  rw [hks, List.nil_append]
  exact thn (hc pins s1 σ H1 _ _ _ _ _ _ h1 Q I1 r0 r (rd0.mono t1) rd rh1 q1) fun _ _ ⟨v', H', I', r', q'⟩ => ⟨v', H', I', r', q'.tr (t0.trans t1)⟩
/-- max(xs, default=d) of ints -/
def dfl (e : D) : List Int → D
  | [] => e
  | n :: ns => .int (maxL (n :: ns))
def maxDfD : List D → List D → HpD → QD → Prop
  | [d], [e], hd, Q => intsO (intsAt hd d) fun ns => Q (dfl e ns) hd
  | _, _, _, _ => False
theorem moved_is {wr : List Addr} {s s' : Shared} (m : Moved wr (fun a b => b = a) s s') : s' = { s with heap := s'.heap, toks := s'.toks } := by
  obtain ⟨h1, h2, h3, h4, h5⟩ := m
  cases s
  cases s'
  simp only at h2 h3 h4
  subst h2 h3 h4
  rfl
theorem call_maxDfD (hc : X.calm = true) : CallKD X (.builtin "max") ["default"] maxDfD := by
  intro pins s σ H xs ys us ws ds es hd Q I rx ry rd re rh q
  unfold maxDfD at q
  split at q
  · rename_i d e
    obtain ⟨x, rfl, r⟩ := rvs1 rd
    obtain ⟨y, rfl, r2⟩ := rvs1 re
    obtain ⟨ns, en, q0⟩ := intsO_of q
    obtain ⟨k, a, rfl, hk⟩ := intsAt_k rh r en
    obtain ⟨u, rfl, ru⟩ := vals1 rx
    obtain ⟨u2, rfl, ru2⟩ := vals1 ry
    cases ru
    obtain ⟨its, rv, p, hz⟩ := seqK I hk
    have hi := intsAre_of rv
    have hn : its.toArray.size = ns.length := by rw [List.size_toArray, hi.length]
    show wpAny _ _ (call (.builtin "max") [.ref a] [(Str.ofString "default", u2)]) _ _ _
    refine call_max_walkD (iterK_any p fun s₂ e2 st hfp hna => ?_)
    subst e2
    have old : ∀ b o, s.heap.get? b = some o → b ∉ [s.heap.objs.size] := fun b o eo hm => by
      rw [List.mem_singleton.mp hm] at eo
      exact absurd (Heap.lt_size eo) (Nat.lt_irrefl _)
    have fin : ∀ {d' : D} {v : V} {u : Value} {s' : Shared}, Moved [s.heap.objs.size] (fun a b => b = a) { s with heap := s.heap.push (itO k a), toks := s.toks } s' → Rv X.K H d' v → RelV v u → Q d' hd → EP X pins σ (post X.K H Q) u s' := fun {d' v u s'} m rv' ru' q' => by
      have es := moved_is m
      rw [es]
      exact ⟨v, H, I.kept (h' := s'.heap) (t' := s'.toks) fun b o eo => m.heap b o (old b o eo) (Heap.get?_push_of_some _ eo), ru', post_mk rv' rh q'⟩
    refine ⟨_, _, _, _, _, _, _, s.heap, (fun i j => decide (ns.getD i 0 > ns.getD j 0)), rfl, (walksK (A := X.A.in1) (k := k) (items := its.toArray) (I.ok.hd hc) hna).toS, st, hfp, old, fun b o eo => Heap.get?_push_of_some _ eo, fun h0 s' m => ?_, fun h0 => ⟨fun i j vi vj s3 Q3 E3 _ h1 h2 h3 => CmpOf.ints_gt (fun i => ns.getD i 0) (fun i v hv => ints_at hi hv) i j vi vj s3 Q3 E3 h1 h2 h3, fun v s' hv m => ?_⟩⟩
    · have : ns = [] := List.eq_nil_of_length_eq_zero (by omega)
      subst this
      exact fin m r2 ru2 q0
    · obtain ⟨t, ev⟩ := ints_at hi hv
      obtain ⟨b1, b2⟩ := argBest_gt (fun i => ns.getD i 0) (its.toArray.size - 1)
      have hne : ns ≠ [] := fun e0 => by
        rw [e0, List.length_nil] at hn
        omega
      have em : ns.getD (argBest (fun i j => decide (ns.getD i 0 > ns.getD j 0)) (its.toArray.size - 1)) 0 = maxL ns := by
        refine maxL_is (getD_in (by omega)) fun y hy => ?_
        obtain ⟨j, hj, ej⟩ := List.mem_iff_getElem.mp hy
        have := b2 j (by omega)
        rw [List.getD_eq_getElem?_getD, List.getElem?_eq_getElem hj] at this
        rw [← ej]
        exact this
      exact fin m rv_int (⟨t, by rw [ev, em]⟩ : RelV (.int (maxL ns)) v) (by
        cases ns with
        | nil => exact absurd rfl hne
        | cons n ns => exact q0)
  · exact q.elim
end
end G
/-! G12: what the package's looks tell of data. -/
namespace G
open PySem PySem.Spec PyProof.Rows L2

def dNoT : TID := fun _ _ _ => False
theorem rq0 {Q : QD} {d : D} {h : HpD} (q : Q d h) : RQ Q d h := ⟨h, .refl, q⟩
theorem rq1 {Q : QD} {d : D} {h h2 : HpD} (s : Sub h2 h) (q : Q d h2) : RQ Q d h := ⟨h2, s, q⟩
/-! every part of d is of a known kind -/
mutual
def knownD (hd : HpD) : D → Bool
  | .tup ds => decide (ds.length ≤ 1000000) && knownDs hd ds
  | .rl ds => decide (ds.length ≤ 1000000) && knownDs hd ds
  | .ref a => (kindD hd (.ref a)).isSome
  | .ty _ => false
  | .non | .bl _ | .int _ | .str _ => true
def knownDs (hd : HpD) : List D → Bool
  | [] => true
  | d :: ds => knownD hd d && knownDs hd ds
end
theorem known_kind {hd : HpD} {d : D} (h : knownD hd d = true) : (kindD hd d).isSome = true := by
  cases d with
  | ref a => simpa only [knownD] using h
  | ty n => simp [knownD] at h
  | _ => rfl
theorem knowns_all {hd : HpD} : ∀ {ds : List D}, knownDs hd ds = true ↔ ∀ d ∈ ds, knownD hd d = true
  | [] => by simp [knownDs]
  | d :: ds => by simp [knownDs, knowns_all (ds := ds)]
theorem kind_sub {hd hd' : HpD} (s : Sub hd hd') {d : D} {n : String} (h : kindD hd d = some n) : kindD hd' d = some n := by
  cases d with
  | ref a =>
    simp only [kindD] at h ⊢
    cases e : hd a with
    | none => rw [e] at h; cases h
    | some o => rw [e] at h; rw [s a o e]; exact h
  | _ => exact h
mutual
theorem known_sub {hd hd' : HpD} (s : Sub hd hd') : ∀ {d : D}, knownD hd d = true → knownD hd' d = true
  | .non, _ | .bl _, _ | .int _, _ | .str _, _ => by simp only [knownD]
  | .ty _, h => by simp [knownD] at h
  | .ref a, h => by
    simp only [knownD] at h ⊢
    obtain ⟨n, e⟩ := Option.isSome_iff_exists.mp h
    rw [kind_sub s e]
    rfl
  | .tup ds, h => by
    simp only [knownD, Bool.and_eq_true] at h ⊢
    exact ⟨h.1, knowns_sub s h.2⟩
  | .rl ds, h => by
    simp only [knownD, Bool.and_eq_true] at h ⊢
    exact ⟨h.1, knowns_sub s h.2⟩
theorem knowns_sub {hd hd' : HpD} (s : Sub hd hd') : ∀ {ds : List D}, knownDs hd ds = true → knownDs hd' ds = true
  | [], _ => rfl
  | d :: ds, h => by
    simp only [knownDs, Bool.and_eq_true] at h ⊢
    exact ⟨known_sub s h.1, knowns_sub s h.2⟩
end
def isI : D → Bool
  | .int _ => true
  | _ => false
theorem isI_is (d : D) : isI d = (isIntD d && !isBoolD d) := by cases d <;> rfl
def isF (n : Int) : D → Bool
  | .int i => decide (i ≥ n)
  | _ => false
def isTn (n : Int) : D → Bool
  | .tup ds => decide ((ds.length : Int) = n)
  | _ => false
def isW : D → Bool
  | .tup ds => decide ((ds.length : Int) > 0) && ds.all (isF 1)
  | _ => false
def isPk : D → Bool
  | .tup [a, b, c] => isF 0 a && isF 0 b && isF 1 c
  | _ => false
def momD : D → Int
  | .tup (.int a :: _) => a
  | _ => 0
def flowD : D → Int
  | .tup (_ :: .int a :: _) => a
  | _ => 0
def ascD (ds : List D) : Bool := (ds.zip ds.tail).all fun p => decide (momD p.1 ≤ momD p.2)
def isArr : D → Bool
  | .tup ds => ds.all isPk && ascD ds
  | _ => false
def isArrW (n : Int) : D → Bool
  | .tup ds => isArr (.tup ds) && ds.all fun p => decide (flowD p < n)
  | _ => false
def lenT : D → Int
  | .tup ds => ds.length
  | _ => 0
def isFl (ws d : D) : Bool := match d with
  | .int i => decide (i ≥ 0) && decide (i < lenT ws)
  | _ => false

theorem small_size {n : Nat} (h : n ≤ 1000000) : n ≤ sizeLine := by
  rw [sizeLine_eq]
  omega
theorem gcd_ok (t : Int) {b : Int} (hb : 0 < b ∧ b < 2 ^ 9000) : 0 < ((Nat.gcd t.natAbs b.natAbs : Nat) : Int) ∧ ((Nat.gcd t.natAbs b.natAbs : Nat) : Int) < 2 ^ 9000 := by
  have h0 : 0 < b.natAbs := by omega
  have h1 : 0 < Nat.gcd t.natAbs b.natAbs := Nat.gcd_pos_of_pos_right _ h0
  have h2 : Nat.gcd t.natAbs b.natAbs ≤ b.natAbs := Nat.le_of_dvd h0 (Nat.gcd_dvd_right _ _)
  generalize (2 : Int) ^ 9000 = N at hb ⊢
  omega

theorem szl {α : Type} {ds : List α} (h : Nat.ble ds.length 1000000 = true := by rfl) : ds.length ≤ sizeLine := small_size (Nat.le_of_ble_eq_true h)
theorem known_tup {hd : HpD} {ds : List D} (h : knownD hd (.tup ds) = true) : ds.length ≤ 1000000 ∧ ∀ d ∈ ds, knownD hd d = true := by
  simp only [knownD, Bool.and_eq_true, decide_eq_true_eq] at h
  exact ⟨h.1, knowns_all.mp h.2⟩
theorem known_of {hd : HpD} {ds : List D} (h : ds.length ≤ 1000000) (k : ∀ d ∈ ds, knownD hd d = true) : knownD hd (.tup ds) = true := by
  simp only [knownD, Bool.and_eq_true, decide_eq_true_eq]
  exact ⟨h, knowns_all.mpr k⟩
theorem mem_at {α : Type} {l : List α} {i : Nat} {x : α} (h : l[i]? = some x) : x ∈ l := List.mem_of_getElem? h
theorem filterMap_some {α β : Type} (g : α → β) : ∀ l : List α, l.filterMap (fun x => some (g x)) = l.map g
  | [] => rfl
  | x :: l => by simp
/-- a comprehension by its items -/
theorem lc_do {g : TGD} {tt : TTD} {te : TED} {vs : List Nat} {env : EnvD} {R : Addr → HpD → Prop} {S : Src} {h1 : HpD} (f : D → Option D) (hk : ∀ h, Sub h1 h → S.keeps h) (hz : S.items.length ≤ sizeLine)
    (body : ∀ (i : Nat) (d : D) (h : HpD) (k : Option D → HpD → Prop), S.items[i]? = some d → Sub h1 h → (∀ h', Sub h h' → k (f d) h') → lcB g tt te d (wipeD env vs) h k) (done : ∀ p, h1 p = none → R p (put h1 p (.lst (S.items.filterMap f)))) :
    ∀ p, h1 p = none → ∃ P : Nat → HpD → Prop, P 0 (put h1 p (.lst [])) ∧ (∀ i h, i ≤ S.items.length → P i h → S.keeps h) ∧
      (∀ i d h, S.items[i]? = some d → P i h → lcB g tt te d (wipeD env vs) h (lcK p (P (i + 1)))) ∧ ∀ h, P S.items.length h → R p h :=
  lc_pure (ti := dNoT) (Q := fun d h => match d with | .ref p => R p h | _ => False) f hk hz body done
theorem isTup_of {d : D} (e : isTupD d = true) : ∃ ds, d = .tup ds := by
  cases d with
  | tup ds => exact ⟨ds, rfl⟩
  | _ => cases e
theorem isTn_of {n : Int} {d : D} (e : isTn n d = true) : ∃ ds, d = .tup ds ∧ (ds.length : Int) = n := by
  cases d with
  | tup ds => exact ⟨ds, rfl, of_decide_eq_true e⟩
  | _ => cases e
theorem len3 {ds : List D} (h : (ds.length : Int) = 3) : ∃ a b c, ds = [a, b, c] := by
  match ds, h with
  | [a, b, c], _ => exact ⟨a, b, c, rfl⟩
  | [], h => simp at h
  | [_], h => simp at h
  | [_, _], h => simp at h
  | _ :: _ :: _ :: _ :: r, h => simp at h; omega
theorem isW_of {d : D} (e : isW d = true) : ∃ ds, d = .tup ds ∧ ds ≠ [] ∧ ∀ x ∈ ds, isF 1 x = true := by
  cases d with
  | tup ds =>
    simp only [isW, Bool.and_eq_true, decide_eq_true_eq, List.all_eq_true] at e
    exact ⟨ds, rfl, fun h => by subst h; simp at e, e.2⟩
  | _ => cases e
theorem isF_of {n : Int} {d : D} (e : isF n d = true) : ∃ i, d = .int i ∧ n ≤ i := by
  cases d with
  | int i => exact ⟨i, rfl, of_decide_eq_true e⟩
  | _ => cases e
theorem isPk_of {d : D} (e : isPk d = true) : ∃ m f l : Int, d = .tup [.int m, .int f, .int l] ∧ 0 ≤ m ∧ 0 ≤ f ∧ 1 ≤ l := by
  unfold isPk at e
  split at e
  · simp only [Bool.and_eq_true] at e
    obtain ⟨⟨h1, h2⟩, h3⟩ := e
    obtain ⟨m, rfl, _⟩ := isF_of h1
    obtain ⟨f, rfl, _⟩ := isF_of h2
    obtain ⟨l, rfl, _⟩ := isF_of h3
    exact ⟨m, f, l, rfl, by assumption, by assumption, by assumption⟩
  · cases e
theorem cut_tail (ds : List D) : cutD ds (some 1) none = ds.tail := by
  unfold cutD
  rw [show HT.sIx ds.length 0 (some 1) = min 1 ds.length from HT.sIx_nat ds.length 0 1, HT.sIx_none]
  cases ds with
  | nil => rfl
  | cons x r =>
    rw [show min 1 (x :: r).length = 1 by rw [List.length_cons]; omega]
    show (List.take ((x :: r).length - 1) r) = r
    rw [List.length_cons, Nat.add_sub_cancel]
    exact List.take_length

/-! ### typed data -/
abbrev P3 := Int × Int × Int
def tI (ns : List Int) : D := .tup (ns.map .int)
def pk (p : P3) : D := .tup [.int p.1, .int p.2.1, .int p.2.2]
def tP (ps : List P3) : D := .tup (ps.map pk)
def fr (t b : Int) : D := .tup [.int (t / ((Nat.gcd t.natAbs b.natAbs : Nat) : Int)), .int (b / ((Nat.gcd t.natAbs b.natAbs : Nat) : Int))]
structure GW (ns : List Int) : Prop where
  ne : ns ≠ []
  len : ns.length ≤ 1000
  at_ : ∀ n ∈ ns, 1 ≤ n ∧ n ≤ 1000
structure GP (k : Nat) (ps : List P3) : Prop where
  len : ps.length ≤ 1000
  at_ : ∀ p ∈ ps, 0 ≤ p.1 ∧ p.1 ≤ 1000000 ∧ 0 ≤ p.2.1 ∧ p.2.1 < k ∧ 1 ≤ p.2.2 ∧ p.2.2 ≤ 1000
  asc : (ps.map (·.1)).Pairwise (· ≤ ·)
theorem seqS_tI {hd : HpD} {ns : List Int} : seqS hd (tI ns) = some ⟨ns.map .int, fun _ => True⟩ := rfl
theorem known_tI {hd : HpD} {ns : List Int} (h : ns.length ≤ 1000) : knownD hd (tI ns) = true := by
  refine known_of (by rw [List.length_map]; omega) fun d hd' => ?_
  obtain ⟨n, _, rfl⟩ := List.mem_map.mp hd'
  rfl
theorem known_pk {hd : HpD} (p : P3) : knownD hd (pk p) = true := rfl
theorem known_tP {hd : HpD} {ps : List P3} (h : ps.length ≤ 1000) : knownD hd (tP ps) = true := by
  refine known_of (by rw [List.length_map]; omega) fun d hd' => ?_
  obtain ⟨n, _, rfl⟩ := List.mem_map.mp hd'
  rfl
theorem isW_tI {ns : List Int} (h : GW ns) : isW (tI ns) = true := by
  show (_ && _) = true
  rw [Bool.and_eq_true]
  refine ⟨decide_eq_true ?_, List.all_eq_true.mpr fun d hd => ?_⟩
  · have := List.length_pos_iff.mpr h.ne
    rw [List.length_map]
    omega
  · obtain ⟨n, hn, rfl⟩ := List.mem_map.mp hd
    exact decide_eq_true (h.at_ n hn).1
theorem pairs_asc : ∀ {ms : List Int}, ms.Pairwise (· ≤ ·) → ∀ p ∈ ms.zip ms.tail, p.1 ≤ p.2
  | [], _ => by simp
  | [_], _ => by simp
  | a :: b :: r, h => by
    intro p hp
    simp only [List.tail_cons, List.zip_cons_cons, List.mem_cons] at hp
    rcases hp with rfl | hp
    · exact (List.pairwise_cons.mp h).1 b (by simp)
    · exact pairs_asc (List.pairwise_cons.mp h).2 p (by simpa using hp)
theorem isArrW_tP {k : Nat} {ps : List P3} (h : GP k ps) : isArrW k (tP ps) = true := by
  show ((_ && _) && _) = true
  rw [Bool.and_eq_true, Bool.and_eq_true]
  refine ⟨⟨List.all_eq_true.mpr fun d hd => ?_, List.all_eq_true.mpr fun d hd => ?_⟩, List.all_eq_true.mpr fun d hd => ?_⟩
  · obtain ⟨p, hp, rfl⟩ := List.mem_map.mp hd
    obtain ⟨h1, _, h2, _, h3, _⟩ := h.at_ p hp
    show (decide _ && decide _ && decide _) = true
    simp [h1, h2, h3]
  · rw [← List.map_tail, List.zip_map] at hd
    obtain ⟨⟨p, q⟩, hpq, rfl⟩ := List.mem_map.mp hd
    have h2 := pairs_asc h.asc (p.1, q.1)
    rw [← List.map_tail, List.zip_map] at h2
    exact decide_eq_true (h2 (List.mem_map.mpr ⟨(p, q), hpq, rfl⟩))
  · obtain ⟨p, hp, rfl⟩ := List.mem_map.mp hd
    exact decide_eq_true (h.at_ p hp).2.2.2.1
theorem sum_le {b : Int} (hb : 0 ≤ b) : ∀ {ns : List Int}, (∀ n ∈ ns, n ≤ b) → ns.sum ≤ b * ns.length
  | [], _ => by simp
  | n :: ns, h => by
    have := sum_le hb (ns := ns) fun m hm => h m (List.mem_cons_of_mem _ hm)
    have h1 := h n List.mem_cons_self
    rw [List.sum_cons, List.length_cons]
    have e : b * ((ns.length + 1 : Nat) : Int) = b * ns.length + b := by rw [Int.natCast_add, Int.mul_add]; simp
    omega
theorem sum_pos : ∀ {ns : List Int}, (∀ n ∈ ns, 1 ≤ n) → (ns.length : Int) ≤ ns.sum
  | [], _ => by simp
  | n :: ns, h => by
    have := sum_pos (ns := ns) fun m hm => h m (List.mem_cons_of_mem _ hm)
    have h1 := h n List.mem_cons_self
    rw [List.sum_cons, List.length_cons]
    omega
theorem GW.sum {ns : List Int} (h : GW ns) : 0 < ns.sum ∧ ns.sum ≤ 1000000 := by
  have h1 := sum_pos fun n hn => (h.at_ n hn).1
  have h2 := sum_le (b := 1000) (by decide) fun n hn => (h.at_ n hn).2
  have h3 := List.length_pos_iff.mpr h.ne
  have h4 := h.len
  omega
theorem pow9000 {n : Int} (h : n ≤ 1000000000) : n < 2 ^ 9000 := by
  have : (1000000000 : Int) < 2 ^ 9000 := by
    have h1 : (2 : Int) ^ 9000 = 2 ^ 30 * 2 ^ 8970 := by rw [← Int.pow_add]
    have h2 : (0 : Int) < 2 ^ 8970 := Int.pow_pos (by decide)
    rw [h1]
    generalize (2 : Int) ^ 8970 = N at h2
    omega
  generalize (2 : Int) ^ 9000 = N at this ⊢
  omega
/-! ### ints in lists and tuples -/
theorem ints_l {hd : HpD} {p : Addr} {ns : List Int} {P : List Int → Prop} (e : hd p = some (.lst (ns.map .int))) (q : P ns) : intsO (intsAt hd (.ref p)) P := by
  have : intsAt hd (.ref p) = some ns := by
    simp only [intsAt, seqS, e]
    exact intsOf_map ns
  rw [this]
  exact q
theorem ints_t {hd : HpD} {ns : List Int} {P : List Int → Prop} (q : P ns) : intsO (intsAt hd (tI ns)) P := by
  have : intsAt hd (tI ns) = some ns := intsOf_map ns
  rw [this]
  exact q
theorem atI_get {l : List D} {i : Nat} {x : D} (h : l[i]? = some x) : atI l (i : Int) = some x := atI_nat h

def lenD3 : D → D
  | .tup [_, _, l] => l
  | _ => .non
theorem filter_pk (ps : List P3) (f : Int) : (ps.map pk).filterMap (fun x => if flowD x = f then some (lenD3 x) else none) = ((ps.filter fun p => decide (p.2.1 = f)).map (·.2.2)).map .int := by
  induction ps with
  | nil => rfl
  | cons p ps ih =>
    have e1 : flowD (pk p) = p.2.1 := rfl
    have e2 : lenD3 (pk p) = .int p.2.2 := rfl
    rw [List.map_cons, List.filterMap_cons, ih, e1, e2]
    by_cases h : p.2.1 = f
    · rw [List.filter_cons_of_pos (by simpa using h)]
      simp [h]
    · rw [List.filter_cons_of_neg (by simpa using h)]
      simp [h]
theorem isFl_ok {ns : List Int} {f : Nat} (h : f < ns.length) : isFl (.tup (ns.map .int)) (.int f) = true := by
  simp only [isFl, lenT, List.length_map, Bool.and_eq_true, decide_eq_true_eq]
  omega
theorem getO_mk {o : Option D} {d : D} {hd : HpD} {Q : QD} (e : o = some d) (q : Q d hd) : getO o hd Q := by
  rw [e]
  exact q
end G
/-! G13: what a law draws. -/
namespace G
open PySem PySem.Spec PyProof.Rows L2

/-- the keys of a law's deck, by the law's kind -/
def dkL : Nat → Key
  | 0 => .inr "left"
  | _ => .inr "cells"
def kM : Key := .inr "mixed"
def dkD : Nat → Key
  | 1 => .inr "turn"
  | _ => .inr "draws"
theorem kLM : ∀ f : Nat, (dkL f = kM) = False
  | 0 => eq_false (by decide +kernel)
  | _ + 1 => eq_false (show ¬ (dkL 1 = kM) by decide +kernel)
theorem kLD : ∀ f : Nat, (dkL f = dkD f) = False
  | 0 => eq_false (by decide +kernel)
  | 1 => eq_false (by decide +kernel)
  | _ + 2 => eq_false (show ¬ (dkL 2 = dkD 2) by decide +kernel)
theorem kMD : ∀ f : Nat, (kM = dkD f) = False
  | 0 => eq_false (by decide +kernel)
  | 1 => eq_false (by decide +kernel)
  | _ + 2 => eq_false (show ¬ (kM = dkD 2) by decide +kernel)
def deckO (f : Nat) (q : Addr) (m n : Int) : OD := .dct [(dkL f, .ref q), (kM, .int m), (dkD f, .int n)]
theorem deck_put {f : Nat} {a b c v : D} : dputK [(dkL f, a), (kM, b), (dkD f, c)] (dkD f) v = [(dkL f, a), (kM, b), (dkD f, v)] := by simp [dputK, kLD, kMD]
theorem deck_new {f : Nat} {a b c : D} : ([(dkL f, a), (kM, b), (dkD f, c)] : List (Key × D)).foldl (fun acc kv => dputK acc kv.1 kv.2) [] = [(dkL f, a), (kM, b), (dkD f, c)] := by
  simp [dputK, kLM, kLD, kMD]
/-- the deck at p, its cells at q -/
structure Dk (f : Nat) (hd : HpD) (p q : Addr) : Prop where
  ne : p ≠ q
  dct : ∃ m n : Int, hd p = some (deckO f q m n)
  lst : ∃ ns : List Int, hd q = some (.lst (ns.map .int)) ∧ ns.length ≤ 63
/-- all but the deck is kept -/
def Kp (p q : Addr) (hd h : HpD) : Prop := ∀ a o, a ≠ p → a ≠ q → hd a = some o → h a = some o
section
variable {f : Nat} {hd h h2 : HpD} {p q r : Addr} {o : OD}
theorem Kp.refl : Kp p q hd hd := fun _ _ _ _ e => e
theorem Kp.trans (a : Kp p q hd h) (b : Kp p q h h2) : Kp p q hd h2 := fun c o h1 h2 e => b c o h1 h2 (a c o h1 h2 e)
theorem Kp.new (k : Kp p q hd h) (e : h r = none) : Kp p q hd (put h r o) := fun c u h1 h2 ec => by
  have := k c u h1 h2 ec
  rw [put_ne (by rintro rfl; rw [e] at this; cases this)]
  exact this
theorem Kp.own (k : Kp p q hd h) (e : hd r = none) : Kp p q hd (put h r o) := fun c u h1 h2 ec => by
  rw [put_ne (by rintro rfl; rw [e] at ec; cases ec)]
  exact k c u h1 h2 ec
theorem Kp.put_p (k : Kp p q hd h) : Kp p q hd (put h p o) := fun c u h1 h2 ec => by
  rw [put_ne h1]
  exact k c u h1 h2 ec
theorem Kp.put_q (k : Kp p q hd h) : Kp p q hd (put h q o) := fun c u h1 h2 ec => by
  rw [put_ne h2]
  exact k c u h1 h2 ec
theorem Dk.off (d : Dk f hd p q) (e : hd r = none) : r ≠ p ∧ r ≠ q := by
  obtain ⟨m, n, h1⟩ := d.dct
  obtain ⟨ns, h2, _⟩ := d.lst
  exact ⟨fun z => (by rw [z, h1] at e; cases e), fun z => (by rw [z, h2] at e; cases e)⟩
theorem Dk.put (d : Dk f hd p q) (h1 : r ≠ p) (h2 : r ≠ q) : Dk f (put hd r o) p q :=
  ⟨d.ne, let ⟨m, n, e⟩ := d.dct; ⟨m, n, by rw [put_ne (Ne.symm h1)]; exact e⟩, let ⟨ns, e, l⟩ := d.lst; ⟨ns, by rw [put_ne (Ne.symm h2)]; exact e, l⟩⟩
theorem Dk.new (d : Dk f hd p q) (e : hd r = none) : Dk f (G.put hd r o) p q := d.put (d.off e).1 (d.off e).2
theorem Dk.sub (d : Dk f hd p q) (s : Sub hd h) : Dk f h p q :=
  ⟨d.ne, let ⟨m, n, e⟩ := d.dct; ⟨m, n, s _ _ e⟩, let ⟨ns, e, l⟩ := d.lst; ⟨ns, s _ _ e, l⟩⟩
end
/-- a comparison of a list of ints with [] -/
theorem toPs_ints (ns : List Int) : toPs (ns.map D.int) = ns.map PyData.int := by
  induction ns with
  | nil => rfl
  | cons n ns ih => rw [List.map_cons, List.map_cons, ← ih]; simp only [toPs, toP]
theorem plain_ints (ns : List Int) : plainDs (ns.map D.int) = true := by
  induction ns with
  | nil => rfl
  | cons n ns ih => rw [List.map_cons]; simp only [plainDs, plainD, ih, Bool.and_self]
theorem lay_ints (ns : List Int) : PyData.canLayAll0 (ns.map PyData.int) = true := by
  induction ns with
  | nil => simp only [List.map_nil, PyData.canLayAll0]
  | cons n ns ih => rw [List.map_cons]; simp only [PyData.canLayAll0, PyData.canLay0, ih, Bool.and_self]
theorem depth_ints (ns : List Int) : PyData.depthAll (ns.map PyData.int) = 0 := by
  induction ns with
  | nil => simp only [List.map_nil, PyData.depthAll]
  | cons n ns ih => rw [List.map_cons]; simp only [PyData.depthAll, PyData.depth, ih, Nat.max_self]
theorem shaped_ints (ns : List Int) : SeqAt.shaped (.list (ns.map PyData.int)) = true := by
  unfold SeqAt.shaped
  simp only [PyData.canLay0, PyData.depth, lay_ints, depth_ints]
  decide
theorem eqv_ints_nil (ns : List Int) : PyData.eqv (.list (ns.map PyData.int)) (.list []) = ns.isEmpty := by
  cases ns <;> simp [PyData.eqv, PyData.eqvAll]
theorem eq_nil {neg : Bool} {hd : HpD} {a b : Addr} {ns : List Int} {Q : QD} (ha : hd a = some (.lst (ns.map .int))) (hb : hd b = some (.lst [])) (q : Q (.bl (if neg = true then !ns.isEmpty else ns.isEmpty)) hd) : eqD neg (.ref a) (.ref b) hd Q := by
  refine ⟨.list (ns.map PyData.int), .list [], ?_, ?_, shaped_ints ns, shaped_ints [], ?_⟩
  · simp only [resD, ha, plain_ints, if_true, toPs_ints]
  · simp only [resD, hb, plainDs, if_true, toPs]
  · rw [eqv_ints_nil]
    exact q
/-- an int between two -/
def okI (lo hi : Int) : D → Bool
  | .int i => decide (lo ≤ i) && decide (i ≤ hi)
  | _ => false
theorem okI_of {lo hi : Int} {d : D} (h : okI lo hi d = true) : ∃ i, d = .int i ∧ lo ≤ i ∧ i ≤ hi := by
  cases d with
  | int i => simp only [okI, Bool.and_eq_true, decide_eq_true_eq] at h; exact ⟨i, rfl, h⟩
  | _ => cases h
theorem okI_mem {lo hi : Int} {d : D} {ds : List D} (h : ds.all (okI lo hi) = true) (m : d ∈ ds) : ∃ i, d = .int i ∧ lo ≤ i ∧ i ≤ hi := okI_of (List.all_eq_true.mp h d m)
/-- a comprehension whose turns change something -/
theorem lc_fx {g : TGD} {tt : TTD} {te : TED} {vs : List Nat} {env : EnvD} {R : Addr → HpD → Prop} {S : Src} {h1 : HpD} (J : Nat → List D → HpD → Prop) (hz : S.items.length ≤ sizeLine)
    (hk : ∀ i acc h, J i acc h → S.keeps h) (h0 : ∀ p, h1 p = none → J 0 [] (put h1 p (.lst []))) (hp : ∀ i acc h p o, h1 p = none → J i acc h → J i acc (put h p o))
    (body : ∀ (i : Nat) (d : D) (acc : List D) (h : HpD) (p : Addr) (k : Option D → HpD → Prop), S.items[i]? = some d → h1 p = none → h p = some (.lst acc) → J i acc h →
      (∀ y h', h' p = some (.lst acc) → J (i + 1) (acc ++ [y]) h' → k (some y) h') → (∀ h', h' p = some (.lst acc) → J (i + 1) acc h' → k none h') → lcB g tt te d (wipeD env vs) h k)
    (done : ∀ p acc h, h1 p = none → h p = some (.lst acc) → acc.length ≤ S.items.length → J S.items.length acc h → R p h) :
    ∀ p, h1 p = none → ∃ P : Nat → HpD → Prop, P 0 (put h1 p (.lst [])) ∧ (∀ i h, i ≤ S.items.length → P i h → S.keeps h) ∧
      (∀ i d h, S.items[i]? = some d → P i h → lcB g tt te d (wipeD env vs) h (lcK p (P (i + 1)))) ∧ ∀ h, P S.items.length h → R p h := by
  intro p hn
  refine ⟨fun i h => ∃ acc, h p = some (.lst acc) ∧ acc.length ≤ i ∧ J i acc h, ⟨[], put_same, Nat.le_refl _, h0 p hn⟩, fun i h _ ⟨acc, _, _, j⟩ => hk i acc h j, ?_, fun h ⟨acc, e, l, j⟩ => done p acc h hn e l j⟩
  rintro i d h hd ⟨acc, e, l, j⟩
  have hi : i < S.items.length := (List.getElem?_eq_some_iff.mp hd).1
  refine body i d acc h p _ hd hn e j (fun y h' e' j' => ⟨acc, e', by omega, _, .refl, acc ++ [y], put_same, by simp only [List.length_append, List.length_cons, List.length_nil]; omega, hp _ _ _ _ _ hn j'⟩) fun h' e' j' => ⟨h', .refl, acc, e', by omega, j'⟩
theorem natAbs_emod {a b : Int} (ha : 0 ≤ a) (hb : 0 ≤ b) : (a % b).natAbs = a.natAbs % b.natAbs := by
  obtain ⟨m, rfl⟩ := Int.eq_ofNat_of_zero_le ha
  obtain ⟨n, rfl⟩ := Int.eq_ofNat_of_zero_le hb
  rw [← Int.natCast_emod]
  rfl
theorem seq_l {h : HpD} {p : Addr} {xs : List D} {R : Src → HpD → Prop} (e : h p = some (.lst xs)) (r : R ⟨xs, fun h' => h' p = some (.lst xs)⟩ h) : srcO (seqS h (.ref p)) h R := by
  have : seqS h (.ref p) = some ⟨xs, fun h' => h' p = some (.lst xs)⟩ := by simp only [seqS, e]
  rw [this]
  exact r
theorem cut_ints (ns : List Int) (lo hi : Option Int) : ∃ ms : List Int, cutD (ns.map .int) lo hi = ms.map .int ∧ ms.length ≤ ns.length := by
  refine ⟨(ns.drop (HT.sIx (ns.map D.int).length 0 lo)).take (HT.sIx (ns.map D.int).length (ns.map D.int).length hi - HT.sIx (ns.map D.int).length 0 lo), ?_, ?_⟩
  · unfold cutD
    rw [List.map_take, List.map_drop]
  · rw [List.length_take, List.length_drop]
    omega
theorem emod_big (a : Int) {b : Int} (h : 0 < b) (h2 : b ≤ 2147483647) : -(2 ^ 64) < a % b ∧ a % b < 2 ^ 64 := by
  have h3 := Int.emod_nonneg a (b := b) (by omega)
  have h4 := Int.emod_lt_of_pos a h
  exact ⟨by omega, by omega⟩
theorem ne_fresh {h : HpD} {a b : Addr} {o : OD} (e : h a = some o) (f : h b = none) : a ≠ b := fun z => by
  rw [z, f] at e
  cases e
/-- drawn weights -/
structure DW (ns : List Int) : Prop where
  ne : ns ≠ []
  len : ns.length ≤ 8
  at_ : ∀ n ∈ ns, 1 ≤ n ∧ n ≤ 12
theorem DW.gw {ns : List Int} (h : DW ns) : GW ns := ⟨h.ne, by have := h.len; omega, fun n hn => by have := h.at_ n hn; omega⟩
theorem rep_ints (w : Int) (k : Int) : D.tup (List.replicate k.toNat [D.int w]).flatten = tI (List.replicate k.toNat w) := by
  unfold tI
  rw [List.map_replicate, List.flatten_replicate_singleton]
theorem all_snoc {α : Type} {P : α → Prop} {l : List α} {x : α} (h : ∀ n ∈ l, P n) (k : P x) : ∀ n ∈ l ++ [x], P n := by
  intro n hn
  rcases List.mem_append.mp hn with h' | h'
  · exact h n h'
  · rw [List.mem_singleton.mp h']; exact k
/-- drawn arrivals: of k flows -/
structure DP (k : Nat) (ps : List P3) : Prop where
  len : ps.length ≤ 30
  at_ : ∀ p ∈ ps, 0 ≤ p.1 ∧ p.1 ≤ 2000 ∧ 0 ≤ p.2.1 ∧ p.2.1 < k ∧ 1 ≤ p.2.2 ∧ p.2.2 ≤ 60
  asc : (ps.map (·.1)).Pairwise (· ≤ ·)
theorem DP.gp {k : Nat} {ps : List P3} (h : DP k ps) : GP k ps := ⟨by have := h.len; omega, fun n hn => by have := h.at_ n hn; omega, h.asc⟩
theorem pair_snoc {ms : List Int} {m : Int} (h : ms.Pairwise (· ≤ ·)) (k : ∀ x ∈ ms, x ≤ m) : (ms ++ [m]).Pairwise (· ≤ ·) := by
  rw [List.pairwise_append]
  refine ⟨h, List.pairwise_singleton _ _, fun a ha b hb => ?_⟩
  rw [List.mem_singleton.mp hb]
  exact k a ha

theorem maxL_cons0 {L : List Int} (hne : L ≠ []) (h : ∀ x ∈ L, 0 ≤ x) : maxL (0 :: L) = maxL L := by
  cases L with
  | nil => exact absurd rfl hne
  | cons a r =>
    have h0 := h a List.mem_cons_self
    show (List.foldl max (max 0 0) (a :: r)) = List.foldl max (max a a) r
    rw [List.foldl_cons, Int.max_self, Int.max_self, Int.max_eq_right h0]
theorem dfl0 {L : List Int} (h : ∀ x ∈ L, 0 ≤ x) : dfl (.int 0) L = .int (maxL (0 :: L)) := by
  cases L with
  | nil => rfl
  | cons a r => exact congrArg D.int (maxL_cons0 (List.cons_ne_nil _ _) h).symm
theorem maxL_le {L : List Int} {b : Int} (h0 : 0 ≤ b) (h : ∀ x ∈ L, 0 ≤ x ∧ x ≤ b) : 0 ≤ maxL (0 :: L) ∧ maxL (0 :: L) ≤ b := by
  have go : ∀ (l : List Int) (a : Int), 0 ≤ a → a ≤ b → (∀ x ∈ l, 0 ≤ x ∧ x ≤ b) → 0 ≤ l.foldl max a ∧ l.foldl max a ≤ b := by
    intro l
    induction l with
    | nil => intro a h1 h2 _; exact ⟨h1, h2⟩
    | cons x l ih =>
      intro a h1 h2 h3
      rw [List.foldl_cons]
      have := h3 x List.mem_cons_self
      exact ih _ (by omega) (by omega) fun y hy => h3 y (List.mem_cons_of_mem _ hy)
  exact go (0 :: L) 0 (by omega) h0 fun x hx => by
    rcases List.mem_cons.mp hx with rfl | hx
    · exact ⟨by omega, h0⟩
    · exact h x hx
/-! ### data whose repr is short -/
structure Sh (c k : Nat) (d : D) : Prop where
  pl : plainD d = true
  ok : okInts d = true
  c_ : cost d ≤ c
  k_ : deep d ≤ k
structure Shs (c k : Nat) (ds : List D) : Prop where
  pl : plainDs ds = true
  ok : okIntss ds = true
  c_ : costs ds ≤ c
  k_ : deeps ds ≤ k
theorem Sh.shows {c k : Nat} {d : D} (h : Sh c k d) (hc : c ≤ 16000000 := by decide) (hk : k ≤ 50 := by decide) : Shows d := ⟨h.pl, h.ok, Nat.le_trans h.c_ hc, Nat.le_trans h.k_ hk⟩
theorem log_small {i : Int} (h1 : -1000000000000000000 ≤ i) (h2 : i ≤ 1000000000000000000) : i.natAbs.log2 < 1920 := by
  by_cases h : i.natAbs = 0
  · rw [h]; decide
  · have : i.natAbs < 2 ^ 60 := by omega
    exact Nat.lt_trans ((Nat.log2_lt h).mpr this) (by decide)
theorem sh_int {i : Int} (h1 : -1000000000000000000 ≤ i) (h2 : i ≤ 1000000000000000000) : Sh 2000 0 (.int i) := ⟨rfl, by simpa only [okInts, decide_eq_true_eq] using log_small h1 h2, Nat.le_refl _, Nat.le_refl _⟩
theorem shs_nil : Shs 0 0 [] := ⟨rfl, rfl, Nat.le_refl _, Nat.le_refl _⟩
theorem shs_cons {c k c' k' : Nat} {d : D} {ds : List D} (h : Sh c k d) (h' : Shs c' k' ds) : Shs (c + 2 + c') (max k k') (d :: ds) :=
  ⟨by simp only [plainDs, h.pl, h'.pl, Bool.and_self], by simp only [okIntss, h.ok, h'.ok, Bool.and_self], by have := h.c_; have := h'.c_; simp only [costs]; omega, by have := h.k_; have := h'.k_; simp only [deeps]; omega⟩
theorem sh_tup {c k : Nat} {ds : List D} (h : Shs c k ds) : Sh (c + 8) (k + 1) (.tup ds) :=
  ⟨by simp only [plainD, h.pl], by simp only [okInts, h.ok], by have := h.c_; simp only [cost]; omega, by have := h.k_; simp only [deep]; omega⟩
theorem shs_all {c k : Nat} : ∀ {ds : List D}, (∀ d ∈ ds, Sh c k d) → Shs ((c + 2) * ds.length) k ds
  | [], _ => ⟨rfl, rfl, Nat.le_refl _, Nat.zero_le _⟩
  | d :: ds, h => by
    have a := h d List.mem_cons_self
    have b := shs_all (ds := ds) fun x hx => h x (List.mem_cons_of_mem _ hx)
    have := shs_cons a b
    rw [Nat.max_self] at this
    rw [List.length_cons, Nat.mul_add, Nat.mul_one, Nat.add_comm]
    exact this
theorem Sh.le {c k c' k' : Nat} {d : D} (h : Sh c k d) (hc : c ≤ c') (hk : k ≤ k') : Sh c' k' d := ⟨h.pl, h.ok, Nat.le_trans h.c_ hc, Nat.le_trans h.k_ hk⟩
theorem gcd_div {t b : Int} (h0 : 0 ≤ t) (hb : 0 < b) : 0 ≤ t / ((Nat.gcd t.natAbs b.natAbs : Nat) : Int) ∧ t / ((Nat.gcd t.natAbs b.natAbs : Nat) : Int) ≤ t := by
  have hg : 0 < Nat.gcd t.natAbs b.natAbs := Nat.gcd_pos_of_pos_right _ (by omega)
  exact ⟨Int.ediv_nonneg h0 (by omega), Int.ediv_le_self _ h0⟩
theorem sh_fr {t b : Int} (h0 : 0 ≤ t) (h1 : t ≤ 1000000000000000000) (hb : 0 < b) (h2 : b ≤ 1000000000000000000) : Sh 4012 1 (fr t b) := by
  obtain ⟨a1, a2⟩ := gcd_div h0 hb
  have hg : 0 < Nat.gcd t.natAbs b.natAbs := Nat.gcd_pos_of_pos_right _ (by omega)
  have b1 : 0 ≤ b / ((Nat.gcd t.natAbs b.natAbs : Nat) : Int) := Int.ediv_nonneg (by omega) (by omega)
  have b2 : b / ((Nat.gcd t.natAbs b.natAbs : Nat) : Int) ≤ b := Int.ediv_le_self _ (by omega)
  exact (sh_tup (shs_cons (sh_int (by omega) (by omega)) (shs_cons (sh_int (by omega) (by omega)) shs_nil))).le (by decide) (by decide)
theorem enum_at {ns : List Int} {f : Nat} {d : D} (h : (enumS ⟨ns.map .int, fun _ => True⟩).items[f]? = some d) : ∃ w : Int, d = .tup [.int (f : Nat), .int w] ∧ ns[f]? = some w := by
  have h : ((ns.map D.int).zipIdx.map fun p => D.tup [.int (p.2 : Nat), p.1])[f]? = some d := h
  rw [List.getElem?_map, List.getElem?_zipIdx, List.getElem?_map] at h
  cases e : ns[f]? with
  | none => rw [e] at h; cases h
  | some w =>
    rw [e] at h
    refine ⟨w, ?_, rfl⟩
    simpa using h.symm
end G
/-! G14: from the claim to the law's def. -/
namespace G
open PySem PySem.Spec PyProof.Rows L2
theorem law_sp {K : PySem.W.Frag} {H : Hp} {a : Addr} {ns : List Int} {sp : SpD} {E : XK} (h : (∃ o, H a = some (.frz o (.lst (ns.map V.int)))) ∨ (H = (fun _ => none) ∧ SqL K H a (ns.map V.int)))
    (hs : sp [.rl (ns.map .int)] (fun _ => none) (fun d _ => d = .bl true) noX) : spV K sp [.ref a] H (fun v _ => v = .bl true) E := by
  have r : RdL K H a (ns.map V.int) := by
    rcases h with h | ⟨e, h⟩
    · exact .inl h
    · exact .inr (by rw [e] at h; exact h)
  refine ⟨[.rl (ns.map .int)], fun _ => none, fun d _ => d = .bl true, noX, rvs_cons (d := .rl (ns.map .int)) ?_ rvs_nil, (fun _ _ q => (nomatch q)), hs, fun v H' ⟨d, hd, t, r', rh, e⟩ => ?_, fun c dd H' z => (xpost_no z).elim⟩
  · simp only [Rv]
    exact ⟨a, _, rfl, r, rvs_ints ns⟩
  · subst e
    exact of_bl r'
end G
/-! G15: stretches, equality of nests of ints. -/
namespace G
open PySem PySem.Spec PyProof.Rows L2
/-! nests of ints -/
mutual
def numD : D → Bool
  | .int _ | .non | .bl _ => true
  | .tup ds => numDs ds
  | .str _ | .rl _ | .ref _ | .ty _ => false
def numDs : List D → Bool
  | [] => true
  | d :: ds => numD d && numDs ds
end
mutual
theorem num_plain : ∀ {d : D}, numD d = true → plainD d = true ∧ (toP d).canLay0 = true
  | .int _, _ | .non, _ | .bl _, _ => by simp only [plainD, toP, PyData.canLay0, and_self]
  | .tup ds, h => by
    simp only [numD] at h
    obtain ⟨h1, h2⟩ := nums_plain h
    exact ⟨by simp only [plainD, h1], by simp only [toP, PyData.canLay0, h2]⟩
  | .str _, h => by simp [numD] at h
  | .rl _, h => by simp [numD] at h
  | .ref _, h => by simp [numD] at h
  | .ty _, h => by simp [numD] at h
theorem nums_plain : ∀ {ds : List D}, numDs ds = true → plainDs ds = true ∧ PyData.canLayAll0 (toPs ds) = true
  | [], _ => ⟨rfl, by simp only [toPs, PyData.canLayAll0]⟩
  | d :: ds, h => by
    simp only [numDs, Bool.and_eq_true] at h
    obtain ⟨h1, h2⟩ := num_plain h.1
    obtain ⟨h3, h4⟩ := nums_plain h.2
    exact ⟨by simp only [plainDs, h1, h3, Bool.and_self], by simp only [toPs, PyData.canLayAll0, h2, h4, Bool.and_self]⟩
end
theorem nums_all : ∀ {ds : List D}, numDs ds = true ↔ ∀ d ∈ ds, numD d = true
  | [] => by simp [numDs]
  | d :: ds => by simp [numDs, nums_all (ds := ds)]
theorem deeps_all {k : Nat} : ∀ {ds : List D}, (∀ d ∈ ds, deep d ≤ k) → deeps ds ≤ k
  | [], _ => Nat.zero_le _
  | d :: ds, h => by
    have a := h d List.mem_cons_self
    have b := deeps_all (ds := ds) fun x hx => h x (List.mem_cons_of_mem _ hx)
    simp only [deeps]
    omega
theorem shaped_l {ds : List D} (h : numDs ds = true) (k : deeps ds ≤ 50) : SeqAt.shaped (.list (toPs ds)) = true := by
  obtain ⟨h1, h2⟩ := nums_plain h
  unfold SeqAt.shaped
  simp only [PyData.canLay0, PyData.depth, h2, deeps_is h1, Bool.true_and, decide_eq_true_eq]
  omega
theorem shaped_t {ds : List D} (h : numDs ds = true) (k : deeps ds ≤ 50) : SeqAt.shaped (.tuple (toPs ds)) = true := by
  obtain ⟨h1, h2⟩ := nums_plain h
  unfold SeqAt.shaped
  simp only [PyData.canLay0, PyData.depth, h2, deeps_is h1, Bool.true_and, decide_eq_true_eq]
  omega
theorem eqv_nil : ∀ (ds : List D), PyData.eqvAll (toPs ds) [] = ds.isEmpty
  | [] => by simp [toPs, PyData.eqvAll]
  | d :: ds => by simp [toPs, PyData.eqvAll]
/-- a list, a tuple compared with an empty one -/
theorem eq_nil_l {neg : Bool} {hd : HpD} {a b : Addr} {ds : List D} {Q : QD} (ha : hd a = some (.lst ds)) (hb : hd b = some (.lst [])) (h : numDs ds = true) (k : deeps ds ≤ 50) (q : Q (.bl (if neg = true then !ds.isEmpty else ds.isEmpty)) hd) : eqD neg (.ref a) (.ref b) hd Q := by
  refine ⟨.list (toPs ds), .list [], ?_, ?_, shaped_l h k, shaped_ints [], ?_⟩
  · simp only [resD, ha, (nums_plain h).1, if_true]
  · simp only [resD, hb, plainDs, if_true, toPs]
  · rw [show PyData.eqv (.list (toPs ds)) (.list []) = ds.isEmpty by simp only [PyData.eqv, eqv_nil]]
    exact q
theorem eq_nil_t {neg : Bool} {hd : HpD} {ds : List D} {Q : QD} (h : numDs ds = true) (k : deeps ds ≤ 50) (q : Q (.bl (if neg = true then !ds.isEmpty else ds.isEmpty)) hd) : eqD neg (.tup ds) (.tup []) hd Q := by
  refine ⟨.tuple (toPs ds), .tuple [], ?_, ?_, shaped_t h k, shaped_t (ds := []) rfl (Nat.zero_le _), ?_⟩
  · simp only [resD, plainD, (nums_plain h).1, if_true, toP]
  · simp only [resD, plainD, plainDs, if_true, toP, toPs]
  · rw [show PyData.eqv (.tuple (toPs ds)) (.tuple []) = ds.isEmpty by simp only [PyData.eqv, eqv_nil]]
    exact q
theorem num_pk (p : P3) : numD (pk p) = true := rfl
theorem nums_tP (ps : List P3) : numDs (ps.map pk) = true := nums_all.mpr fun d hd => by
  obtain ⟨p, _, rfl⟩ := List.mem_map.mp hd
  rfl
theorem deeps_tP (ps : List P3) : deeps (ps.map pk) ≤ 50 := deeps_all fun d hd => by
  obtain ⟨p, _, rfl⟩ := List.mem_map.mp hd
  exact Nat.le_trans (Nat.le_refl 1) (by decide)
/-! stretches -/
abbrev S2 := Int × Int
def s2 (x : S2) : D := .tup [.int x.1, .int x.2]
def tS (l : List S2) : D := .tup (l.map s2)
theorem nums_tS (ps : List S2) : numDs (ps.map s2) = true := nums_all.mpr fun d hd => by
  obtain ⟨p, _, rfl⟩ := List.mem_map.mp hd
  rfl
theorem deeps_tS (ps : List S2) : deeps (ps.map s2) ≤ 50 := deeps_all fun d hd => by
  obtain ⟨p, _, rfl⟩ := List.mem_map.mp hd
  exact Nat.le_trans (Nat.le_refl 1) (by decide)
def bstep (acc : List S2) (p : P3) : List S2 := match acc.getLast? with
  | some x => if p.1 ≤ x.2 then acc.dropLast ++ [(x.1, x.2 + p.2.2)] else acc ++ [(p.1, p.1 + p.2.2)]
  | none => acc ++ [(p.1, p.1 + p.2.2)]
def busyL (ps : List P3) : List S2 := ps.foldl bstep []
theorem bstep_nil (p : P3) : bstep [] p = [(p.1, p.1 + p.2.2)] := rfl
theorem bstep_in {acc : List S2} {x : S2} {p : P3} (h : p.1 ≤ x.2) : bstep (acc ++ [x]) p = acc ++ [(x.1, x.2 + p.2.2)] := by
  unfold bstep
  rw [List.getLast?_concat]
  simp only [h, if_true, List.dropLast_concat]
theorem bstep_out {acc : List S2} {x : S2} {p : P3} (h : ¬ p.1 ≤ x.2) : bstep (acc ++ [x]) p = acc ++ [x] ++ [(p.1, p.1 + p.2.2)] := by
  unfold bstep
  rw [List.getLast?_concat]
  simp only [h, if_false]
theorem busy_take {ps : List P3} {i : Nat} {p : P3} (h : ps[i]? = some p) : busyL (ps.take (i + 1)) = bstep (busyL (ps.take i)) p := by
  unfold busyL
  rw [List.take_add_one, h, List.foldl_append]
  rfl
theorem busy_len (ps : List P3) : (busyL ps).length ≤ ps.length := by
  have go : ∀ (ps : List P3) (acc : List S2), (ps.foldl bstep acc).length ≤ acc.length + ps.length := by
    intro ps
    induction ps with
    | nil => intro acc; simp
    | cons p ps ih =>
      intro acc
      rw [List.foldl_cons, List.length_cons]
      have h1 := ih (bstep acc p)
      have h2 : (bstep acc p).length ≤ acc.length + 1 := by
        rcases List.eq_nil_or_concat acc with rfl | ⟨l, x, rfl⟩
        · exact Nat.le_refl _
        · rw [List.concat_eq_append]
          by_cases h : p.1 ≤ x.2
          · rw [bstep_in h]; simp
          · rw [bstep_out h]; simp
      omega
  have := go ps []
  rw [List.length_nil, Nat.zero_add] at this
  exact this
theorem busy_bound {M : Int} (h0 : 0 ≤ M) (ps : List P3) (h : ∀ p ∈ ps, 0 ≤ p.1 ∧ p.1 ≤ M ∧ 0 ≤ p.2.2 ∧ p.2.2 ≤ 1000) : ∀ x ∈ busyL ps, 0 ≤ x.1 ∧ x.1 ≤ M ∧ 0 ≤ x.2 ∧ x.2 ≤ M + 1000 * ps.length := by
  have go : ∀ (ps : List P3) (acc : List S2) (B : Int), M ≤ B → (∀ p ∈ ps, 0 ≤ p.1 ∧ p.1 ≤ M ∧ 0 ≤ p.2.2 ∧ p.2.2 ≤ 1000) → (∀ x ∈ acc, 0 ≤ x.1 ∧ x.1 ≤ M ∧ 0 ≤ x.2 ∧ x.2 ≤ B) → ∀ x ∈ ps.foldl bstep acc, 0 ≤ x.1 ∧ x.1 ≤ M ∧ 0 ≤ x.2 ∧ x.2 ≤ B + 1000 * ps.length := by
    intro ps
    induction ps with
    | nil => intro acc B _ _ h x hx; have := h x hx; simp; omega
    | cons p ps ih =>
      intro acc B hB hp ha x hx
      rw [List.foldl_cons] at hx
      have p1 := hp p List.mem_cons_self
      have := ih (bstep acc p) (B + 1000) (by omega) (fun q hq => hp q (List.mem_cons_of_mem _ hq)) ?_ x hx
      · rw [List.length_cons]; omega
      · rcases List.eq_nil_or_concat acc with rfl | ⟨l, z, rfl⟩
        · rw [bstep_nil]
          intro y hy
          rw [List.mem_singleton.mp hy]
          refine ⟨by simp; omega, by simp; omega, by simp; omega, by simp; omega⟩
        · rw [List.concat_eq_append] at ha ⊢
          have hz := ha z (by simp)
          by_cases hc : p.1 ≤ z.2
          · rw [bstep_in hc]
            refine all_snoc (fun y hy => ?_) ⟨hz.1, hz.2.1, by simp; omega, by simp; omega⟩
            have := ha y (List.mem_append_left _ hy)
            omega
          · rw [bstep_out hc]
            refine all_snoc (fun y hy => ?_) ⟨by simp; omega, by simp; omega, by simp; omega, by simp; omega⟩
            have := ha y hy
            omega
  exact go ps [] M (Int.le_refl _) h (by simp)
theorem busy_same {ps qs : List P3} (h : ps.map (fun p => (p.1, p.2.2)) = qs.map fun p => (p.1, p.2.2)) : busyL ps = busyL qs := by
  have go : ∀ (ps qs : List P3) (acc : List S2), ps.map (fun p => (p.1, p.2.2)) = qs.map (fun p => (p.1, p.2.2)) → ps.foldl bstep acc = qs.foldl bstep acc := by
    intro ps
    induction ps with
    | nil => intro qs acc h; cases qs with | nil => rfl | cons => cases h
    | cons p ps ih =>
      intro qs acc h
      cases qs with
      | nil => cases h
      | cons q qs =>
        rw [List.map_cons, List.map_cons] at h
        injection h with h1 h2
        rw [List.foldl_cons, List.foldl_cons]
        have : bstep acc p = bstep acc q := by
          injection h1 with h3 h4
          unfold bstep
          rw [h3, h4]
        rw [this]
        exact ih qs _ h2
  exact go ps qs [] h
theorem Sub.own {hd h : HpD} {a : Addr} {o : OD} (s : Sub hd h) (e : hd a = none) : Sub hd (put h a o) := fun b u hb => by
  rw [put_ne (by rintro rfl; rw [e] at hb; cases hb)]
  exact s b u hb
theorem cut_take (ds : List D) (n : Nat) : cutD ds none (some (n : Int)) = ds.take n := by
  unfold cutD
  rw [HT.sIx_none, show HT.sIx ds.length ds.length (some (n : Int)) = min n ds.length from HT.sIx_nat ds.length ds.length n]
  rw [List.drop_zero, Nat.sub_zero]
  rcases Nat.le_total n ds.length with h | h
  · rw [Nat.min_eq_left h]
  · rw [Nat.min_eq_right h, List.take_length, List.take_of_length_le h]
theorem pk_at {ps : List P3} {i : Nat} {d : D} (h : (ps.map pk)[i]? = some d) : ∃ p, d = pk p ∧ ps[i]? = some p := by
  rw [List.getElem?_map] at h
  cases e : ps[i]? with
  | none => rw [e] at h; cases h
  | some p => rw [e] at h; cases h; exact ⟨p, rfl, rfl⟩
theorem ixN_last {l : List S2} (z : S2) : ixN ((l ++ [z]).map s2).length (-1) = some l.length := by
  rw [List.length_map, List.length_append, List.length_cons, List.length_nil]
  unfold ixN
  simp
  omega
theorem set_last {l : List S2} {z y : S2} : ((l ++ [z]).map s2).set l.length (s2 y) = (l ++ [y]).map s2 := by
  rw [List.map_append, List.map_append, List.set_append]
  simp
theorem busy_last (ps : List P3) (h : ∀ p ∈ ps, 0 ≤ p.2.2) (hne : ps ≠ []) : ∃ l z, busyL ps = l ++ [z] ∧ ∀ p ∈ ps, p.1 ≤ z.2 := by
  have go : ∀ (ps : List P3) (acc : List S2) (x : S2) (m : Int), m ≤ x.2 → (∀ p ∈ ps, 0 ≤ p.2.2) → ∃ l z, ps.foldl bstep (acc ++ [x]) = l ++ [z] ∧ m ≤ z.2 ∧ ∀ p ∈ ps, p.1 ≤ z.2 := by
    intro ps
    induction ps with
    | nil => intro acc x m hm _; exact ⟨acc, x, rfl, hm, by simp⟩
    | cons p ps ih =>
      intro acc x m hm hp
      have h0 := hp p List.mem_cons_self
      rw [List.foldl_cons]
      have key : ∃ acc' x', bstep (acc ++ [x]) p = acc' ++ [x'] ∧ max m p.1 ≤ x'.2 := by
        by_cases hc : p.1 ≤ x.2
        · exact ⟨acc, _, bstep_in hc, by simp; omega⟩
        · exact ⟨acc ++ [x], _, bstep_out hc, by simp; omega⟩
      obtain ⟨acc', x', e, hm'⟩ := key
      rw [e]
      obtain ⟨l, z, e2, h1, h2⟩ := ih acc' x' (max m p.1) hm' fun q hq => hp q (List.mem_cons_of_mem _ hq)
      refine ⟨l, z, e2, by omega, fun q hq => ?_⟩
      rcases List.mem_cons.mp hq with rfl | hq
      · omega
      · exact h2 q hq
  cases ps with
  | nil => exact absurd rfl hne
  | cons p ps =>
    have h0 := h p List.mem_cons_self
    obtain ⟨l, z, e, h1, h2⟩ := go ps [] (p.1, p.1 + p.2.2) p.1 (by simp; omega) fun q hq => h q (List.mem_cons_of_mem _ hq)
    refine ⟨l, z, e, fun q hq => ?_⟩
    rcases List.mem_cons.mp hq with rfl | hq
    · exact h1
    · exact h2 q hq
theorem sh_s2 {x : S2} (h : 0 ≤ x.1 ∧ x.1 ≤ 1000000000 ∧ 0 ≤ x.2 ∧ x.2 ≤ 1000000000) : Sh 4012 1 (s2 x) :=
  (sh_tup (shs_cons (sh_int (i := x.1) (by omega) (by omega)) (shs_cons (sh_int (i := x.2) (by omega) (by omega)) shs_nil))).le (by decide) (by decide)
theorem sh_tS {l : List S2} (hl : l.length ≤ 1000) (h : ∀ x ∈ l, 0 ≤ x.1 ∧ x.1 ≤ 1000000000 ∧ 0 ≤ x.2 ∧ x.2 ≤ 1000000000) : Sh 4014008 2 (tS l) := by
  have := sh_tup (shs_all (c := 4012) (k := 1) (ds := l.map s2) fun d hd => by
    obtain ⟨x, hx, rfl⟩ := List.mem_map.mp hd
    exact sh_s2 (h x hx))
  refine this.le ?_ (by decide)
  rw [List.length_map]
  omega
theorem DP.mono {k : Nat} {ps : List P3} (h : DP k ps) (n : Nat) : DP k (ps.take n) :=
  ⟨by rw [List.length_take]; have := h.len; omega, fun p hp => h.at_ p (List.mem_of_mem_take hp), by rw [List.map_take]; exact h.asc.sublist (List.take_sublist _ _)⟩
theorem DP.busy {k : Nat} {ps : List P3} (h : DP k ps) : Sh 4014008 2 (tS (busyL ps)) := by
  have hb := busy_bound (M := 2000) (by decide) ps fun p hp => by have := h.at_ p hp; omega
  have hl := h.len
  refine sh_tS (by have := busy_len ps; omega) fun x hx => ?_
  have := hb x hx
  omega
end G
/-! G16: membership of ints and texts. -/
namespace G
open PySem PySem.Spec PyProof.Rows L2
def strsOf : List D → Option (List Str)
  | [] => some []
  | .str i :: r => (strsOf r).map (i :: ·)
  | _ => none
theorem strsOf_rvs {K : PySem.W.Frag} {H : Hp} : ∀ {ds : List D} {ns : List Str} {vs : List V}, strsOf ds = some ns → Rvs K H ds vs → vs = ns.map V.str
  | [], _, _, e, r => by
    simp only [strsOf, Option.some.injEq] at e
    subst e
    simp only [Rvs] at r
    exact r
  | .str i :: ds, _, _, e, r => by
    simp only [strsOf, Option.map_eq_some_iff] at e
    obtain ⟨ns, e1, rfl⟩ := e
    simp only [Rvs] at r
    obtain ⟨v, vs, rfl, r1, r2⟩ := r
    rw [of_str r1, strsOf_rvs e1 r2]
    rfl
theorem strsOf_map : ∀ ns : List Str, strsOf (ns.map D.str) = some ns
  | [] => rfl
  | n :: ns => by simp only [List.map_cons, strsOf, strsOf_map ns, Option.map_some]
def strsAt (hd : HpD) (d : D) : Option (List Str) := (seqS hd d).bind fun S => strsOf S.items
def inD (neg : Bool) : R2D := fun x y hd Q => match x with
  | .int i => intsO (intsAt hd y) fun ns => Q (.bl (if neg then !decide (i ∈ ns) else decide (i ∈ ns))) hd
  | .str s => ∃ ns, strsAt hd y = some ns ∧ Q (.bl (if neg then !decide (s ∈ ns) else decide (s ∈ ns))) hd
  | _ => False
theorem seqK_or {k : Bool} {K : PySem.W.Frag} {H : Hp} {a : Addr} {xs : List V} (h : SqK k K H a xs) : SqL K H a xs ∨ SqT K H a xs := by
  cases k with
  | false => exact .inl h
  | true => exact .inr h
theorem strsAt_k {K : PySem.W.Frag} {H : Hp} {hd : HpD} {d : D} {v : V} {ns : List Str} (rh : RH K H hd) (r : Rv K H d v) (e : strsAt hd d = some ns) : ∃ k a, v = .ref a ∧ SqK k K H a (ns.map V.str) := by
  unfold strsAt at e
  cases hS : seqS hd d with
  | none => rw [hS] at e; cases e
  | some S =>
    rw [hS] at e
    obtain ⟨k, a, rfl, kp, g⟩ := seqS_at rh r hS
    obtain ⟨xs, hx, rx⟩ := g H hd .refl rh kp
    refine ⟨k, a, rfl, ?_⟩
    rw [← strsOf_rvs e rx]
    exact hx
theorem inV_int (i : Int) (ns : List Int) : inV (.int i) (ns.map V.int) = decide (i ∈ ns) := by
  unfold inV
  rw [List.any_map, Bool.eq_iff_iff, List.any_eq_true, decide_eq_true_eq]
  constructor
  · rintro ⟨x, hx, e⟩
    have : (x == i) = true := e
    rw [← eq_of_beq this]; exact hx
  · intro h
    exact ⟨i, h, show (i == i) = true by simp⟩
theorem inV_str (i : Str) (ns : List Str) : inV (.str i) (ns.map V.str) = decide (i ∈ ns) := by
  unfold inV
  rw [List.any_map, Bool.eq_iff_iff, List.any_eq_true, decide_eq_true_eq]
  constructor
  · rintro ⟨x, hx, e⟩
    have : (x == i) = true := e
    rw [← eq_of_beq this]; exact hx
  · intro h
    exact ⟨i, h, show (i == i) = true by simp⟩
section
variable {X : Cx}
theorem op_inGen {neg : Bool} {op : CmpOp} (h0 : OpR X (compareOp op) (rIn X.K neg)) : OpD X (compareOp op) (inD neg) := by
  intro pins s σ H x y v u d d2 hd Q I rx ry r1 r2 rh q
  cases d with
  | int i =>
    obtain ⟨ns, e, q⟩ := intsO_of q
    obtain ⟨k, a, rfl, hk⟩ := intsAt_k rh r2 e
    have e1 := of_int r1
    subst e1
    refine h0 pins s σ H _ _ v u _ I rx ry ⟨a, _, rfl, seqK_or hk, rfl, by rw [List.all_map]; simp [List.all_eq_true, flatV], ?_⟩
    rw [inV_int]
    exact post_mk rv_bl rh q
  | str i =>
    obtain ⟨ns, e, q⟩ := q
    obtain ⟨k, a, rfl, hk⟩ := strsAt_k rh r2 e
    have e1 := of_str r1
    subst e1
    refine h0 pins s σ H _ _ v u _ I rx ry ⟨a, _, rfl, seqK_or hk, rfl, by rw [List.all_map]; simp [List.all_eq_true, flatV], ?_⟩
    rw [inV_str]
    exact post_mk rv_bl rh q
  | _ => exact q.elim
theorem op_inD' : OpD X (compareOp .In) (inD false) := op_inGen op_in_seq
theorem op_notInD' : OpD X (compareOp .NotIn) (inD true) := op_inGen op_notIn_seq
end

/-! ### ranges as lists, as tuples, downwards -/
def rgD (a b : Int) : List D := (List.range (b - a).toNat).map fun i => D.int (a + (i : Nat))
theorem rgD_rvs {K : PySem.W.Frag} {H : Hp} (a b : Int) : Rvs K H (rgD a b) (rgV a b) := by
  have : rgD a b = ((List.range (b - a).toNat).map fun i => a + (i : Nat)).map D.int := by unfold rgD; rw [List.map_map]; rfl
  have e2 : rgV a b = ((List.range (b - a).toNat).map fun i => a + (i : Nat)).map V.int := by unfold rgV; rw [List.map_map]; rfl
  rw [this, e2]
  exact rvs_ints _
def dLstRg1 (te : TED) : TED := fun env hd Q => te env hd fun d h1 => match d with
  | .int n => RgOk 0 n ∧ ∀ p, h1 p = none → Q (.ref p) (put h1 p (.lst (rgD 0 n)))
  | _ => False
def dLstRg2 (te te2 : TED) : TED := fun env hd Q => te env hd fun d h1 => te2 env h1 fun d2 h2 => match d, d2 with
  | .int m, .int n => RgOk m n ∧ ∀ p, h2 p = none → Q (.ref p) (put h2 p (.lst (rgD m n)))
  | _, _ => False
def dTupRg1 (te : TED) : TED := fun env hd Q => te env hd fun d h1 => match d with
  | .int n => RgOk 0 n ∧ Q (.tup (rgD 0 n)) h1
  | _ => False
def dTupRg2 (te te2 : TED) : TED := fun env hd Q => te env hd fun d h1 => te2 env h1 fun d2 h2 => match d, d2 with
  | .int m, .int n => RgOk m n ∧ Q (.tup (rgD m n)) h2
  | _, _ => False
section
variable {X : Cx} {a b e tg : Expr} {es : List Expr} {ta tb : TED} {t : TAD} {p p2 pos pos2 : Pos}
theorem pd_listRg1 (hc : X.calm = true) (hg : Gl X "list") (hm : X.mg "list" = none) (hg2 : Gl X "range") (hm2 : X.mg "range" = none) (ha : PD X a ta) (na : starEach [a] X.env = (false, eval a X.env) :: starEach [] X.env := by rfl)
    (nb : starEach [Expr.Call (.Name "range" p2) [a] [] pos2] X.env = (false, eval (Expr.Call (.Name "range" p2) [a] [] pos2) X.env) :: starEach [] X.env := by rfl) : PD X (.Call (.Name "list" p) [.Call (.Name "range" p2) [a] [] pos2] [] pos) (dLstRg1 ta) :=
  .of (pe_listRg hc hg hm (prg_1 hg2 hm2 pe_w na) nb) fun σ H env hd Q rs rh q => (ha.w σ H env hd _ rs rh q).mono fun x H1 ⟨d, h1, t1, r1, rh1, q1⟩ => by
    cases d with
    | int n => exact ⟨n, of_int r1, q1.1, fun q hq => (post_new rh1 hq (rgD_rvs 0 n) q1.2).tr t1⟩
    | _ => exact q1.elim
theorem pd_listRg2 (hc : X.calm = true) (hg : Gl X "list") (hm : X.mg "list" = none) (hg2 : Gl X "range") (hm2 : X.mg "range" = none) (ha : PD X a ta) (hb : PD X b tb) (na : starEach [a, b] X.env = (false, eval a X.env) :: starEach [b] X.env := by rfl)
    (nb : starEach [b] X.env = (false, eval b X.env) :: starEach [] X.env := by rfl) (hp : (backTo pos2 (starEach [b] X.env)).any (·.1) = false := by rfl)
    (nc : starEach [Expr.Call (.Name "range" p2) [a, b] [] pos2] X.env = (false, eval (Expr.Call (.Name "range" p2) [a, b] [] pos2) X.env) :: starEach [] X.env := by rfl) : PD X (.Call (.Name "list" p) [.Call (.Name "range" p2) [a, b] [] pos2] [] pos) (dLstRg2 ta tb) :=
  .of (pe_listRg hc hg hm (prg_2 hg2 hm2 pe_w pe_w na nb hp) nc) fun σ H env hd Q rs rh q => (ha.w σ H env hd _ rs rh q).mono fun x H1 ⟨d, h1, t1, r1, rh1, q1⟩ => (hb.w σ H1 env h1 _ (rs.mono t1) rh1 q1).mono fun y H2 ⟨d2, h2, t2, r2, rh2, q2⟩ => by
    cases d with
    | int m =>
      cases d2 with
      | int n => exact ⟨m, n, of_int r1, of_int r2, q2.1, fun q hq => (post_new rh2 hq (rgD_rvs m n) q2.2).tr (t1.trans t2)⟩
      | _ => exact q2.elim
    | _ => exact q2.elim
theorem pd_tupRg1 (hc : X.calm = true) (hg : Gl X "tuple") (hm : X.mg "tuple" = none) (hg2 : Gl X "range") (hm2 : X.mg "range" = none) (ha : PD X a ta) (na : starEach [a] X.env = (false, eval a X.env) :: starEach [] X.env := by rfl)
    (nb : starEach [Expr.Call (.Name "range" p2) [a] [] pos2] X.env = (false, eval (Expr.Call (.Name "range" p2) [a] [] pos2) X.env) :: starEach [] X.env := by rfl) : PD X (.Call (.Name "tuple" p) [.Call (.Name "range" p2) [a] [] pos2] [] pos) (dTupRg1 ta) :=
  .of (pe_tupRg hc hg hm (prg_1 hg2 hm2 pe_w na) nb) fun σ H env hd Q rs rh q => (ha.w σ H env hd _ rs rh q).mono fun x H1 ⟨d, h1, t1, r1, rh1, q1⟩ => by
    cases d with
    | int n => exact ⟨n, of_int r1, q1.1, fun q hq => (post_tup rh1 hq (rgD_rvs 0 n) q1.2).tr t1⟩
    | _ => exact q1.elim
theorem pd_tupRg2 (hc : X.calm = true) (hg : Gl X "tuple") (hm : X.mg "tuple" = none) (hg2 : Gl X "range") (hm2 : X.mg "range" = none) (ha : PD X a ta) (hb : PD X b tb) (na : starEach [a, b] X.env = (false, eval a X.env) :: starEach [b] X.env := by rfl)
    (nb : starEach [b] X.env = (false, eval b X.env) :: starEach [] X.env := by rfl) (hp : (backTo pos2 (starEach [b] X.env)).any (·.1) = false := by rfl)
    (nc : starEach [Expr.Call (.Name "range" p2) [a, b] [] pos2] X.env = (false, eval (Expr.Call (.Name "range" p2) [a, b] [] pos2) X.env) :: starEach [] X.env := by rfl) : PD X (.Call (.Name "tuple" p) [.Call (.Name "range" p2) [a, b] [] pos2] [] pos) (dTupRg2 ta tb) :=
  .of (pe_tupRg hc hg hm (prg_2 hg2 hm2 pe_w pe_w na nb hp) nc) fun σ H env hd Q rs rh q => (ha.w σ H env hd _ rs rh q).mono fun x H1 ⟨d, h1, t1, r1, rh1, q1⟩ => (hb.w σ H1 env h1 _ (rs.mono t1) rh1 q1).mono fun y H2 ⟨d2, h2, t2, r2, rh2, q2⟩ => by
    cases d with
    | int m =>
      cases d2 with
      | int n => exact ⟨m, n, of_int r1, of_int r2, q2.1, fun q hq => (post_tup rh2 hq (rgD_rvs m n) q2.2).tr (t1.trans t2)⟩
      | _ => exact q2.elim
    | _ => exact q2.elim
/-- range(i, j, -1) -/
def diRngDn (t : TAD) : TID := fun env hd R => t env hd fun ds h1 => match ds with
  | [.int i, .int j, .int c] => c = -1 ∧ (-(2 ^ 62) ≤ i ∧ i < 2 ^ 62 ∧ -(2 ^ 62) ≤ j ∧ j < 2 ^ 62) ∧ R ⟨(List.range (i - j).toNat).map fun k => .int (i - (k : Nat)), fun _ => True⟩ h1
  | _ => False
theorem gives_dn {K : PySem.W.Frag} {H : Hp} {i : Int} {n : Nat} : Gives K H (Itc i (-1) n) ⟨(List.range n).map fun k => .int (i - (k : Nat)), fun _ => True⟩ where
  goes := fun j H1 h1 _ _ _ hi => by
    have hi' : j < n := by simpa using hi
    exact hi'
  stops := fun H1 h1 _ _ _ => by show n ≤ _; simp
  yields := fun j H1 h1 x H2 _ _ _ hi y => by
    obtain ⟨rfl, rfl⟩ := y
    refine ⟨.int (i + (j : Nat) * (-1)), ?_, .refl, rv_int, fun _ z => z⟩
    have hi' : j < n := by simpa using hi
    show ((List.range n).map _)[j]? = _
    rw [List.getElem?_map, List.getElem?_range hi']
    show some (D.int (i - (j : Nat))) = some (D.int (i + (j : Nat) * (-1)))
    rw [Int.mul_neg_one, Int.sub_eq_add_neg]
theorem pid_rangeDn {c : Expr} (hg : Gl X "range") (hm : X.mg "range" = none) (ha : PAD X [a, b, c] t) (hs : starEach [a, b, c] X.env = (false, eval a X.env) :: starEach [b, c] X.env := by rfl) (hpl : (backTo pos (starEach [b, c] X.env)).any (·.1) = false := by rfl) :
    PID X tg (.Call (.Name "range" p) [a, b, c] [] pos) (diRngDn t) :=
  .of (pi_range3 hg hm pa_w hs hpl) fun σ H env hd R rs rh q => (ha.w σ H env hd _ rs rh q).mono fun vs H1 ⟨ds, h1, t1, r1, rh1, q1⟩ => by
    simp only at q1
    split at q1
    · obtain ⟨rfl, ⟨b1, b2, b3, b4⟩, q1⟩ := q1
      simp only [Rvs] at r1
      obtain ⟨v, vs1, rfl, ra, v2, vs2, rfl, rb, v3, vs3, rfl, rc, rfl⟩ := r1
      rw [of_int ra, of_int rb, of_int rc]
      exact ⟨_, _, -1, _, rfl, .neg b1 b2 b3 b4, _, h1, t1, rh1, gives_dn, q1⟩
    · exact q1.elim
end
end G
/-! G17: fractions, buckets, what breaks a bucket. -/
namespace G
open PySem PySem.Spec PyProof.Rows L2
def isFr : D → Bool
  | .tup [.int a, .int b] => decide (b > 0) && decide (((Nat.gcd a.natAbs b.natAbs : Nat) : Int) = 1)
  | _ => false
def bkD (b t m : Int) : D := .tup [.int b, .tup [.int t, .int m]]
def isBk : D → Bool
  | .tup [b, .tup [.int t, .int m]] => isF 1 b && (isFr (.tup [.int t, .int m]) && decide (t > 0))
  | _ => false
theorem len2 {ds : List D} (h : (ds.length : Int) = 2) : ∃ a b, ds = [a, b] := by
  match ds, h with
  | [a, b], _ => exact ⟨a, b, rfl⟩
  | [], h => simp at h
  | [_], h => simp at h
  | _ :: _ :: _ :: r, h => simp at h; omega
theorem isFr_of {d : D} (h : isFr d = true) : ∃ a b : Int, d = .tup [.int a, .int b] ∧ 0 < b ∧ Nat.gcd a.natAbs b.natAbs = 1 := by
  unfold isFr at h
  split at h
  · simp only [Bool.and_eq_true, decide_eq_true_eq] at h
    exact ⟨_, _, rfl, h.1, by omega⟩
  · cases h
theorem isI_of {d : D} (h : isI d = true) : ∃ i, d = .int i := by
  cases d with
  | int i => exact ⟨i, rfl⟩
  | _ => cases h
theorem isI_no {d : D} (h : isI d = false) : ∀ i, d ≠ .int i := by
  rintro i rfl
  cases h
theorem cut_drop (ds : List D) (n : Nat) : cutD ds (some (n : Int)) none = ds.drop n := by
  unfold cutD
  rw [HT.sIx_none, show HT.sIx ds.length 0 (some (n : Int)) = min n ds.length from HT.sIx_nat ds.length 0 n]
  rcases Nat.le_total n ds.length with h | h
  · rw [Nat.min_eq_left h, List.take_of_length_le (by rw [List.length_drop]; exact Nat.le_refl _)]
  · rw [Nat.min_eq_right h, List.drop_of_length_le h, List.drop_length, List.take_nil]
/-! the packets of a flow -/
def nums (ps : List P3) (f : Int) : List Nat := ps.zipIdx.filterMap fun x => if x.1.2.1 = f then some x.2 else none
theorem nums_lt {ps : List P3} {f : Int} {j : Nat} (h : j ∈ nums ps f) : ∃ p, ps[j]? = some p ∧ p.2.1 = f := by
  unfold nums at h
  obtain ⟨⟨p, k⟩, hx, e⟩ := List.mem_filterMap.mp h
  by_cases hf : p.2.1 = f
  · rw [if_pos hf] at e
    cases e
    exact ⟨p, by
      obtain ⟨h1, h2⟩ := List.mem_zipIdx' hx
      have h2 : p = ps[k] := h2
      rw [h2]
      exact List.getElem?_eq_getElem h1, hf⟩
  · rw [if_neg hf] at e
    cases e
def lenAt (ps : List P3) (j : Nat) : Int := (ps.getD j (0, 0, 0)).2.2
def momAt (ps : List P3) (j : Nat) : Int := (ps.getD j (0, 0, 0)).1
def innerB (ps : List P3) (b t m : Int) (i : Nat) : Int → List Nat → List S2
  | _, [] => []
  | l, j :: js => (if (l + lenAt ps j - b) * m > t * (momAt ps j - momAt ps i) then [((i : Int), (j : Int))] else []) ++ innerB ps b t m i (l + lenAt ps j) js
def outerB (ps : List P3) (b t m : Int) : List Nat → List S2
  | [] => []
  | i :: r => innerB ps b t m i 0 (i :: r) ++ outerB ps b t m r
def brk (ps : List P3) (f b t m : Int) : List S2 := outerB ps b t m (nums ps f)
theorem enum_pk {ps : List P3} {i : Nat} {d : D} (h : (enumS ⟨ps.map pk, fun _ => True⟩).items[i]? = some d) : ∃ p, d = .tup [.int (i : Nat), pk p] ∧ ps[i]? = some p := by
  have h : ((ps.map pk).zipIdx.map fun p => D.tup [.int (p.2 : Nat), p.1])[i]? = some d := h
  rw [List.getElem?_map, List.getElem?_zipIdx, List.getElem?_map] at h
  cases e : ps[i]? with
  | none => rw [e] at h; cases h
  | some w =>
    rw [e] at h
    refine ⟨w, ?_, rfl⟩
    simpa using h.symm
/-- one item of [number for number, packet in enumerate(arrivals) if packet[1] == flow] -/
def numF (f : Int) : D → Option D
  | .tup [n, p] => if flowD p = f then some n else none
  | _ => none
theorem nums_list (ps : List P3) (f : Int) : (enumS ⟨ps.map pk, fun _ => True⟩).items.filterMap (numF f) = (nums ps f).map fun (n : Nat) => D.int (n : Int) := by
  show ((ps.map pk).zipIdx.map fun p => D.tup [.int (p.2 : Nat), p.1]).filterMap (numF f) = _
  unfold nums
  rw [List.zipIdx_map, List.map_map, List.filterMap_map, List.map_filterMap]
  congr 1
  funext ⟨p, n⟩
  show (if flowD (pk p) = f then some (D.int (n : Int)) else none) = Option.map _ (if p.2.1 = f then some n else none)
  have e1 : flowD (pk p) = p.2.1 := rfl
  rw [e1]
  by_cases h : p.2.1 = f
  · rw [if_pos h, if_pos h]; rfl
  · rw [if_neg h, if_neg h]; rfl
theorem at_pk {ps : List P3} {j : Nat} {p : P3} (h : ps[j]? = some p) : atI (ps.map pk) (j : Int) = some (pk p) := atI_nat (by rw [List.getElem?_map, h]; rfl)
theorem lenAt_is {ps : List P3} {j : Nat} {p : P3} (h : ps[j]? = some p) : lenAt ps j = p.2.2 := by unfold lenAt; rw [List.getD_eq_getElem?_getD, h]; rfl
theorem momAt_is {ps : List P3} {j : Nat} {p : P3} (h : ps[j]? = some p) : momAt ps j = p.1 := by unfold momAt; rw [List.getD_eq_getElem?_getD, h]; rfl
theorem drop_at {α : Type} {l : List α} {i : Nat} {x : α} (h : l[i]? = some x) : l.drop i = x :: l.drop (i + 1) := by
  obtain ⟨hi, rfl⟩ := List.getElem?_eq_some_iff.mp h
  exact List.drop_eq_getElem_cons hi
theorem enum_nums {ns : List Nat} {K : HpD → Prop} {i : Nat} {d : D} (h : (enumS ⟨ns.map fun (n : Nat) => D.int (n : Int), K⟩).items[i]? = some d) : ∃ n : Nat, d = .tup [.int (i : Nat), .int (n : Nat)] ∧ ns[i]? = some n := by
  have h : ((ns.map fun (n : Nat) => D.int (n : Int)).zipIdx.map fun p => D.tup [.int (p.2 : Nat), p.1])[i]? = some d := h
  rw [List.getElem?_map, List.getElem?_zipIdx, List.getElem?_map] at h
  cases e : ns[i]? with
  | none => rw [e] at h; cases h
  | some w =>
    rw [e] at h
    refine ⟨w, ?_, rfl⟩
    simpa using h.symm
theorem nums_len (ps : List P3) (f : Int) : (nums ps f).length ≤ ps.length := by
  unfold nums
  refine Nat.le_trans (List.length_filterMap_le _ _) ?_
  rw [List.length_zipIdx]
  exact Nat.le_refl _
theorem nums_at {ns : List Nat} {k : Nat} {d : D} (h : (ns.map fun (n : Nat) => D.int (n : Int))[k]? = some d) : ∃ n : Nat, d = .int (n : Nat) ∧ ns[k]? = some n := by
  rw [List.getElem?_map] at h
  cases e : ns[k]? with
  | none => rw [e] at h; cases h
  | some w => rw [e] at h; cases h; exact ⟨w, rfl, rfl⟩
/-- drawn packets -/
structure CP (fl : List Int) (n : Int) (ps : List P3) : Prop where
  len : (ps.length : Int) ≤ n
  at_ : ∀ p ∈ ps, 0 ≤ p.1 ∧ p.1 ≤ 10000 ∧ p.2.1 ∈ fl ∧ 1 ≤ p.2.2 ∧ p.2.2 ≤ 60
  asc : (ps.map (·.1)).Pairwise (· ≤ ·)
theorem isArr_tP {ps : List P3} (h : ∀ p ∈ ps, 0 ≤ p.1 ∧ 0 ≤ p.2.1 ∧ 1 ≤ p.2.2) (asc : (ps.map (·.1)).Pairwise (· ≤ ·)) : isArr (tP ps) = true := by
  show (_ && _) = true
  rw [Bool.and_eq_true]
  refine ⟨List.all_eq_true.mpr fun d hd => ?_, List.all_eq_true.mpr fun d hd => ?_⟩
  · obtain ⟨p, hp, rfl⟩ := List.mem_map.mp hd
    obtain ⟨h1, h2, h3⟩ := h p hp
    show (decide _ && decide _ && decide _) = true
    simp [h1, h2, h3]
  · rw [← List.map_tail, List.zip_map] at hd
    obtain ⟨⟨p, q⟩, hpq, rfl⟩ := List.mem_map.mp hd
    have h2 := pairs_asc asc (p.1, q.1)
    rw [← List.map_tail, List.zip_map] at h2
    exact decide_eq_true (h2 (List.mem_map.mpr ⟨(p, q), hpq, rfl⟩))
theorem fr_co {t b : Int} (ht : 1 ≤ t) (hb : 1 ≤ b) : ∃ t' b' : Int, fr t b = .tup [.int t', .int b'] ∧ (1 ≤ t' ∧ t' ≤ t) ∧ (1 ≤ b' ∧ b' ≤ b) ∧ Nat.gcd t'.natAbs b'.natAbs = 1 := by
  obtain ⟨m, rfl⟩ := Int.eq_ofNat_of_zero_le (show 0 ≤ t by omega)
  obtain ⟨n, rfl⟩ := Int.eq_ofNat_of_zero_le (show 0 ≤ b by omega)
  have hm : 0 < m := by omega
  have hn : 0 < n := by omega
  have hg : 0 < Nat.gcd m n := Nat.gcd_pos_of_pos_left _ hm
  refine ⟨((m / Nat.gcd m n : Nat) : Int), ((n / Nat.gcd m n : Nat) : Int), ?_, ⟨?_, ?_⟩, ⟨?_, ?_⟩, ?_⟩
  · unfold fr
    rw [Int.natCast_ediv, Int.natCast_ediv]
    rfl
  · have : 0 < m / Nat.gcd m n := Nat.div_pos (Nat.le_of_dvd hm (Nat.gcd_dvd_left m n)) hg
    omega
  · have : m / Nat.gcd m n ≤ m := Nat.div_le_self _ _
    omega
  · have : 0 < n / Nat.gcd m n := Nat.div_pos (Nat.le_of_dvd hn (Nat.gcd_dvd_right m n)) hg
    omega
  · have : n / Nat.gcd m n ≤ n := Nat.div_le_self _ _
    omega
  · show Nat.gcd (m / Nat.gcd m n) (n / Nat.gcd m n) = 1
    exact Nat.gcd_div_gcd_div_gcd_of_pos_left hm
theorem sh_str {x : Str} {c : Nat} (h : (reprText x).length ≤ c) : Sh c 0 (.str x) := ⟨rfl, rfl, h, Nat.le_refl _⟩
theorem shK : Sh 1000 1 (.tup [.str "kept"]) := (sh_tup (shs_cons (sh_str (c := 900) (by decide +kernel)) shs_nil)).le (by decide) (by decide)
theorem shB {x : S2} (h : 0 ≤ x.1 ∧ x.1 ≤ 1000 ∧ 0 ≤ x.2 ∧ x.2 ≤ 1000) : Sh 10000 1 (.tup [.str "breaks", .int x.1, .int x.2]) :=
  (sh_tup (shs_cons (sh_str (c := 900) (by decide +kernel)) (shs_cons (sh_int (i := x.1) (by omega) (by omega)) (shs_cons (sh_int (i := x.2) (by omega) (by omega)) shs_nil)))).le (by decide) (by decide)
theorem brk_mem {ps : List P3} {f b t m : Int} (hp : ps.length ≤ 1000) : ∀ x ∈ brk ps f b t m, 0 ≤ x.1 ∧ x.1 ≤ 1000 ∧ 0 ≤ x.2 ∧ x.2 ≤ 1000 := by
  have inn : ∀ (js : List Nat) (i : Nat) (l : Int), i ≤ 1000 → (∀ j ∈ js, j ≤ 1000) → ∀ x ∈ innerB ps b t m i l js, 0 ≤ x.1 ∧ x.1 ≤ 1000 ∧ 0 ≤ x.2 ∧ x.2 ≤ 1000 := by
    intro js
    induction js with
    | nil => intro i l _ _ x hx; cases hx
    | cons j js ih =>
      intro i l hi hj x hx
      unfold innerB at hx
      rcases List.mem_append.mp hx with hx | hx
      · split at hx
        · rw [List.mem_singleton.mp hx]
          have := hj j List.mem_cons_self
          exact ⟨by simp, by simp; omega, by simp, by simp; omega⟩
        · cases hx
      · exact ih i _ hi (fun k hk => hj k (List.mem_cons_of_mem _ hk)) x hx
  have out : ∀ (js : List Nat), (∀ j ∈ js, j ≤ 1000) → ∀ x ∈ outerB ps b t m js, 0 ≤ x.1 ∧ x.1 ≤ 1000 ∧ 0 ≤ x.2 ∧ x.2 ≤ 1000 := by
    intro js
    induction js with
    | nil => intro _ x hx; cases hx
    | cons j js ih =>
      intro hj x hx
      unfold outerB at hx
      rcases List.mem_append.mp hx with hx | hx
      · exact inn _ j 0 (hj j List.mem_cons_self) hj x hx
      · exact ih (fun k hk => hj k (List.mem_cons_of_mem _ hk)) x hx
  refine out _ fun j hj => ?_
  obtain ⟨p, hp', _⟩ := nums_lt hj
  have := (List.getElem?_eq_some_iff.mp hp').1
  omega
theorem brk_len {ps : List P3} {f b t m : Int} (hp : ps.length ≤ 1000) : (brk ps f b t m).length ≤ 1000000 := by
  have inn : ∀ (js : List Nat) (i : Nat) (l : Int), (innerB ps b t m i l js).length ≤ js.length := by
    intro js
    induction js with
    | nil => intro i l; exact Nat.le_refl _
    | cons j js ih =>
      intro i l
      unfold innerB
      rw [List.length_append, List.length_cons]
      have := ih i (l + lenAt ps j)
      split
      · simp; omega
      · simp; omega
  have out : ∀ (js : List Nat), (outerB ps b t m js).length ≤ js.length * js.length := by
    intro js
    induction js with
    | nil => exact Nat.le_refl _
    | cons j js ih =>
      unfold outerB
      rw [List.length_append]
      have h1 := inn (j :: js) j 0
      rw [List.length_cons] at h1 ⊢
      have : (js.length + 1) * (js.length + 1) = js.length * js.length + 2 * js.length + 1 := by
        rw [Nat.add_mul, Nat.mul_add]; omega
      omega
  have h1 := out (nums ps f)
  have h2 := nums_len ps f
  have h3 : (nums ps f).length * (nums ps f).length ≤ 1000 * 1000 := Nat.mul_le_mul (by omega) (by omega)
  exact Nat.le_trans h1 h3
def jdgD : List S2 → D
  | [] => .tup [.str "kept"]
  | x :: _ => .tup [.str "breaks", .int x.1, .int x.2]
theorem sh_jdg {L : List S2} (h : ∀ x ∈ L, 0 ≤ x.1 ∧ x.1 ≤ 1000 ∧ 0 ≤ x.2 ∧ x.2 ≤ 1000) : Sh 10000 1 (jdgD L) := by
  cases L with
  | nil => exact shK.le (by decide) (by decide)
  | cons x r => exact shB (h x List.mem_cons_self)
/-- ('breaks',) + pair -/
def brD : D → D
  | .tup [i, j] => .tup [.str "breaks", i, j]
  | _ => .non
theorem strs_l {hd : HpD} {p : Addr} {ns : List Str} (e : hd p = some (.lst (ns.map .str))) : strsAt hd (.ref p) = some ns := by
  simp only [strsAt, seqS, e]
  exact strsOf_map ns
theorem sh_pk {p : P3} (h : 0 ≤ p.1 ∧ p.1 ≤ 1000000000 ∧ 0 ≤ p.2.1 ∧ p.2.1 ≤ 1000000000 ∧ 0 ≤ p.2.2 ∧ p.2.2 ≤ 1000000000) : Sh 6014 1 (pk p) :=
  (sh_tup (shs_cons (sh_int (i := p.1) (by omega) (by omega)) (shs_cons (sh_int (i := p.2.1) (by omega) (by omega)) (shs_cons (sh_int (i := p.2.2) (by omega) (by omega)) shs_nil)))).le (by decide) (by decide)
theorem sh_tP {l : List P3} (hl : l.length ≤ 1000) (h : ∀ p ∈ l, 0 ≤ p.1 ∧ p.1 ≤ 1000000000 ∧ 0 ≤ p.2.1 ∧ p.2.1 ≤ 1000000000 ∧ 0 ≤ p.2.2 ∧ p.2.2 ≤ 1000000000) : Sh 6016008 2 (tP l) := by
  have := sh_tup (shs_all (c := 6014) (k := 1) (ds := l.map pk) fun d hd => by
    obtain ⟨x, hx, rfl⟩ := List.mem_map.mp hd
    exact sh_pk (h x hx))
  refine this.le ?_ (by decide)
  rw [List.length_map]
  omega
theorem maxL_in {L : List Int} {a b : Int} (hne : L ≠ []) (h : ∀ x ∈ L, a ≤ x ∧ x ≤ b) : a ≤ maxL L ∧ maxL L ≤ b := by
  have go : ∀ (l : List Int) (c : Int), a ≤ c → c ≤ b → (∀ x ∈ l, a ≤ x ∧ x ≤ b) → a ≤ l.foldl max c ∧ l.foldl max c ≤ b := by
    intro l
    induction l with
    | nil => intro c h1 h2 _; exact ⟨h1, h2⟩
    | cons x l ih =>
      intro c h1 h2 h3
      rw [List.foldl_cons]
      have := h3 x List.mem_cons_self
      exact ih _ (by omega) (by omega) fun y hy => h3 y (List.mem_cons_of_mem _ hy)
  cases L with
  | nil => exact absurd rfl hne
  | cons x r =>
    have h1 := h x List.mem_cons_self
    exact go (x :: r) x h1.1 h1.2 h
theorem sum_in {L : List Int} {b : Int} (hne : L ≠ []) (hb : 0 ≤ b) (h : ∀ x ∈ L, 1 ≤ x ∧ x ≤ b) : 1 ≤ L.sum ∧ L.sum ≤ b * L.length := by
  have h1 := sum_pos fun x hx => (h x hx).1
  have h2 := sum_le hb fun x hx => (h x hx).2
  have h3 := List.length_pos_iff.mpr hne
  omega
theorem seqS_l {h : HpD} {p : Addr} {xs : List D} (e : h p = some (.lst xs)) : seqS h (.ref p) = some ⟨xs, fun h' => h' p = some (.lst xs)⟩ := by simp only [seqS, e]
end G
/-! G18: sorted lists of tuples of ints. -/
namespace G
open PySem PySem.Spec PyProof.Rows L2
theorem code_inj {B : Int} : ∀ {n m : List Int}, n.length = m.length → TS.Bd B n → TS.Bd B m → TS.code B n = TS.code B m → n = m
  | [], [], _, _, _, _ => rfl
  | [], _ :: _, h, _, _, _ => by simp at h
  | _ :: _, [], h, _, _, _ => by simp at h
  | a :: n, b :: m, h, h1, h2, e => by
    have hl : n.length = m.length := by simpa using h
    rcases Int.lt_trichotomy a b with c | c | c
    · have := TS.code_lt hl h1.tail h2.tail c
      omega
    · subst c
      have e2 : TS.code B n = TS.code B m := by
        have e0 : a * B ^ n.length + TS.code B n = a * B ^ m.length + TS.code B m := e
        rw [hl] at e0
        omega
      rw [code_inj hl h1.tail h2.tail e2]
    · have := TS.code_lt hl.symm h2.tail h1.tail c
      omega
theorem sorted_uniq {α : Type} {r : α → Int} : ∀ {l m : List α}, l.Perm m → l.Pairwise (fun x y => r x ≤ r y) → m.Pairwise (fun x y => r x ≤ r y) → (∀ x ∈ l, ∀ y ∈ l, r x = r y → x = y) → l = m
  | [], m, p, _, _, _ => (List.Perm.nil_eq p)
  | x :: l, [], p, _, _, _ => by have := p.length_eq; simp at this
  | x :: l, y :: m, p, h1, h2, inj => by
    have hx : x ∈ y :: m := p.mem_iff.mp List.mem_cons_self
    have hy : y ∈ x :: l := p.mem_iff.mpr List.mem_cons_self
    have e : x = y := by
      refine inj x List.mem_cons_self y hy ?_
      have a1 : r x ≤ r y := by
        rcases List.mem_cons.mp hy with rfl | hy
        · exact Int.le_refl _
        · exact (List.pairwise_cons.mp h1).1 y hy
      have a2 : r y ≤ r x := by
        rcases List.mem_cons.mp hx with rfl | hx
        · exact Int.le_refl _
        · exact (List.pairwise_cons.mp h2).1 x hx
      omega
    subst e
    have p' : l.Perm m := List.Perm.cons_inv p
    rw [sorted_uniq p' (List.pairwise_cons.mp h1).2 (List.pairwise_cons.mp h2).2 fun a ha b hb => inj a (List.mem_cons_of_mem _ ha) b (List.mem_cons_of_mem _ hb)]
/-- sorted by what the tuples are -/
def srt (B : Int) (L : List (List Int)) : List (List Int) := L.mergeSort fun x y => decide (TS.code B x ≤ TS.code B y)
theorem srt_perm (B : Int) (L : List (List Int)) : (srt B L).Perm L := List.mergeSort_perm _ _
theorem srt_pair (B : Int) (L : List (List Int)) : (srt B L).Pairwise fun x y => TS.code B x ≤ TS.code B y := by
  have := List.pairwise_mergeSort (le := fun x y : List Int => decide (TS.code B x ≤ TS.code B y)) (fun a b c h1 h2 => by simp only [decide_eq_true_eq] at *; omega) (fun a b => by simp only [Bool.or_eq_true, decide_eq_true_eq]; omega) L
  exact this.imp fun h => by simpa using h
theorem srt_is {B : Int} {d : Nat} {L L' : List (List Int)} (h : ∀ n ∈ L, n.length = d ∧ TS.Bd B n) (p : L'.Perm L) (s : L'.Pairwise fun x y => TS.code B x ≤ TS.code B y) : L' = srt B L := by
  refine sorted_uniq (p.trans (srt_perm B L).symm) s (srt_pair B L) fun x hx y hy e => ?_
  have h1 := h x (p.mem_iff.mp hx)
  have h2 := h y (p.mem_iff.mp hy)
  exact code_inj (h1.1.trans h2.1.symm) h1.2 h2.2 e
def sortD : List D → HpD → QD → Prop
  | [.ref a], hd, Q => ∃ (L : List (List Int)) (d : Nat) (B : Int), 1 ≤ d ∧ hd a = some (.lst (L.map tI)) ∧ L.length < 64 ∧ (∀ ns ∈ L, ns.length = d ∧ TS.Bd B ns) ∧ ∀ p, hd p = none → Q (.ref p) (put hd p (.lst ((srt B L).map tI)))
  | _, _, _ => False
section
variable {X : Cx}
theorem tupI_inj {pins : List (Addr × Obj)} {σ : L2.St} {H : Hp} {s : Shared} {x : V} {n m : List Int} (I : Inv X pins σ H s) (h : TupI X.K H x n) (h' : TupI X.K H x m) : n = m := by
  obtain ⟨t, rfl, h1⟩ := h
  obtain ⟨t', e, h2⟩ := h'
  cases e
  have := seqK_inj (k := true) I h1 h2
  exact List.map_inj_right (fun a b e => V.int.inj e) |>.mp this
theorem call_sortD : CallD X (.builtin "sorted") sortD := by
  intro pins s σ H xs us ds hd Q I rx rd rh q
  unfold sortD at q
  split at q
  · rename_i a
    obtain ⟨x, rfl, r⟩ := rvs1 rd
    have ex := of_ref r
    subst ex
    obtain ⟨L, d, B, hd1, ha, hz, hL, q⟩ := q
    obtain ⟨vs, hv, rv⟩ := of_lst rh ha
    have each : ∀ x ∈ vs, ∃ ns, TupI X.K H x ns ∧ ns ∈ L := fun x hx => by
      obtain ⟨i, hi, rfl⟩ := List.mem_iff_getElem.mp hx
      obtain ⟨e, he, r⟩ := rv.got (List.getElem?_eq_getElem hi)
      rw [List.getElem?_map] at he
      cases hl : L[i]? with
      | none => rw [hl] at he; cases he
      | some ns =>
        rw [hl] at he
        cases he
        obtain ⟨t, zs, e, ht, rz⟩ := of_tup r
        refine ⟨ns, ⟨t, e, ?_⟩, List.mem_of_getElem? hl⟩
        rw [← rvs_ints_of rz]
        exact ht
    have hk : ∃ k : V → List Int, ∀ x ∈ vs, TupI X.K H x (k x) := by
      have all : ∀ x, ∃ ns, x ∈ vs → TupI X.K H x ns := fun x => by
        rcases Classical.em (x ∈ vs) with h | h
        · obtain ⟨ns, h1, _⟩ := each x h
          exact ⟨ns, fun _ => h1⟩
        · exact ⟨[], fun z => absurd z h⟩
      exact ⟨fun x => Classical.choose (all x), fun x hx => Classical.choose_spec (all x) hx⟩
    obtain ⟨k, hk⟩ := hk
    have eL : L = vs.map k := by
      refine List.ext_getElem? fun i => ?_
      rw [List.getElem?_map]
      cases hl : L[i]? with
      | none =>
        have h1 : L.length ≤ i := List.getElem?_eq_none_iff.mp hl
        have h2 : vs.length = L.length := by rw [← rv.len, List.length_map]
        rw [List.getElem?_eq_none (by omega)]
        rfl
      | some ns =>
        obtain ⟨v, hv', r⟩ := rv.get (i := i) (d := tI ns) (by rw [List.getElem?_map, hl]; rfl)
        rw [hv']
        obtain ⟨t, zs, e, ht, rz⟩ := of_tup r
        have h1 : TupI X.K H v ns := ⟨t, e, by rw [← rvs_ints_of rz]; exact ht⟩
        exact congrArg some (tupI_inj I h1 (hk v (List.mem_of_getElem? hv')))
    have hlen : vs.length = L.length := by rw [← rv.len, List.length_map]
    refine cr_sortT (d := d) (B := B) hd1 pins s σ H _ us _ I rx ⟨a, vs, rfl, .of hv, by rw [hlen]; exact hz, fun x hx => ?_, fun ys p hp hs hn => ?_⟩
    · obtain ⟨ns, h1, h2⟩ := each x hx
      exact ⟨ns, h1, hL ns h2⟩
    · have hmem : ∀ y ∈ ys, y ∈ vs := fun y hy => hp.mem_iff.mp hy
      have e2 : ys.map k = srt B L := by
        refine srt_is (d := d) hL (by rw [eL]; exact hp.map k) ?_
        rw [List.pairwise_map]
        exact List.Pairwise.imp_of_mem (fun {x y} hx hy h => h _ _ (hk x (hmem x hx)) (hk y (hmem y hy))) hs
      have rys : Rvs X.K H ((ys.map k).map tI) ys := by
        have go : ∀ l : List V, (∀ y ∈ l, y ∈ vs) → Rvs X.K H ((l.map k).map tI) l := by
          intro l
          induction l with
          | nil => intro _; exact rvs_nil
          | cons y l ih =>
            intro h
            obtain ⟨t, e, ht⟩ := hk y (h y List.mem_cons_self)
            refine rvs_cons ?_ (ih fun z hz => h z (List.mem_cons_of_mem _ hz))
            rw [e]
            have ht' := ht
            rw [e] at ht'
            exact rv_tup ht' (rvs_ints _)
        exact go ys hmem
      rw [e2] at rys
      exact post_new rh hn rys q
  · exact q.elim
end
end G
/-! G19: shaped arrivals. -/
namespace G
open PySem PySem.Spec PyProof.Rows L2
def max3D : List D → HpD → QD → Prop
  | [.int i, .int j, .int k], hd, Q => Q (.int (max (max i j) k)) hd
  | _, _, _ => False
theorem call_max3D {X : Cx} (hc : X.calm = true) : CallD X (.builtin "max") max3D := .of (call_max3Nu hc) fun H xs ds hd Q rs rh q => by
  unfold max3D at q
  split at q
  · rename_i i j k
    simp only [Rvs] at rs
    obtain ⟨v, vs1, rfl, ra, v2, vs2, rfl, rb, v3, vs3, rfl, rc, rfl⟩ := rs
    rw [of_int ra, of_int rb, of_int rc]
    have e2 : ∀ a b : Int, nuMax2 (.int a) (.int b) = some (.int (max a b)) := fun a b => by
      show some (if decide (a < b) = true then V.int b else V.int a) = _
      by_cases h : a < b
      · rw [if_pos (decide_eq_true h), Int.max_eq_right (by omega)]
      · rw [if_neg (by simpa using h), Int.max_eq_left (by omega)]
    refine ⟨_, _, _, .int (max (max i j) k), rfl, ?_, post_mk rv_int rh q⟩
    show (nuMax2 (.int i) (.int j)).bind _ = _
    rw [e2]
    exact e2 _ _
  · exact q.elim
/-- the least moment: own packets from the last back -/
def lmS (b t m : Int) : List S2 → Int → Int → Int
  | [], _, mo => mo
  | x :: r, tot, mo => lmS b t m r (tot + x.2) (max (max mo x.1) (x.1 + (0 - (0 - (tot + x.2 - b) * m) / t)))
def sufOk (b t m mo : Int) : List S2 → Int → Prop
  | [], _ => True
  | x :: r, tot => x.1 ≤ mo ∧ (tot + x.2 - b) * m ≤ t * (mo - x.1) ∧ sufOk b t m mo r (tot + x.2)
theorem lm_ge {b t m : Int} : ∀ (l : List S2) (tot mo : Int), mo ≤ lmS b t m l tot mo
  | [], _, mo => Int.le_refl _
  | x :: r, tot, mo => by
    have := lm_ge (b := b) (t := t) (m := m) r (tot + x.2) (max (max mo x.1) (x.1 + (0 - (0 - (tot + x.2 - b) * m) / t)))
    show mo ≤ lmS b t m r _ _
    omega
theorem ceil_le {X t d : Int} (ht : 0 < t) : X ≤ t * d ↔ 0 - (0 - X) / t ≤ d := by
  have h1 : -d ≤ (0 - X) / t ↔ -d * t ≤ 0 - X := Int.le_ediv_iff_mul_le ht
  have h2 : -d * t = -(t * d) := by rw [Int.neg_mul, Int.mul_comm]
  rw [h2] at h1
  constructor
  · intro h; have := h1.mpr (by omega); omega
  · intro h; have := h1.mp (by omega); omega
theorem lm_ok {b t m : Int} (ht : 0 < t) : ∀ (l : List S2) (tot mo M : Int), lmS b t m l tot mo ≤ M → sufOk b t m M l tot
  | [], _, _, _, _ => trivial
  | x :: r, tot, mo, M, h => by
    have h : lmS b t m r (tot + x.2) (max (max mo x.1) (x.1 + (0 - (0 - (tot + x.2 - b) * m) / t))) ≤ M := h
    have g := lm_ge (b := b) (t := t) (m := m) r (tot + x.2) (max (max mo x.1) (x.1 + (0 - (0 - (tot + x.2 - b) * m) / t)))
    refine ⟨by omega, (ceil_le ht).mpr (by omega), lm_ok ht r _ _ M h⟩
theorem lm_fix {b t m : Int} (ht : 0 < t) : ∀ (l : List S2) (tot mo : Int), sufOk b t m mo l tot → lmS b t m l tot mo = mo
  | [], _, _, _ => rfl
  | x :: r, tot, mo, ⟨h1, h2, h3⟩ => by
    have h4 := (ceil_le ht).mp h2
    show lmS b t m r _ _ = mo
    rw [show max (max mo x.1) (x.1 + (0 - (0 - (tot + x.2 - b) * m) / t)) = mo by omega]
    exact lm_fix ht r _ mo h3
/-- each own packet is late enough for those before it (the last first) -/
def goodO (b t m : Int) : List S2 → Prop
  | [] => True
  | y :: r => sufOk b t m y.1 r y.2 ∧ goodO b t m r
def shp (f b t m : Int) : List S2 → Nat → List P3 → List (List Int)
  | _, _, [] => []
  | own, n, p :: r => if p.2.1 = f then [lmS b t m own p.2.2 p.1, (n : Int), p.2.1, p.2.2] :: shp f b t m ((lmS b t m own p.2.2 p.1, p.2.2) :: own) (n + 1) r else [p.1, (n : Int), p.2.1, p.2.2] :: shp f b t m own (n + 1) r
def un4 : List Int → P3
  | [a, _, c, d] => (a, c, d)
  | _ => (0, 0, 0)
def own4 (f : Int) : List Int → Bool
  | [_, _, c, _] => decide (c = f)
  | _ => false
def pr4 : List Int → S2
  | [a, _, _, d] => (a, d)
  | _ => (0, 0)
def four (B : Int) (l : List Int) : Prop := l.length = 4 ∧ TS.Bd B l
theorem shp_len {f b t m : Int} : ∀ (ps : List P3) (own : List S2) (n : Nat), (shp f b t m own n ps).length = ps.length
  | [], _, _ => rfl
  | p :: r, own, n => by
    unfold shp
    split
    · rw [List.length_cons, List.length_cons, shp_len r]
    · rw [List.length_cons, List.length_cons, shp_len r]
/-- the own packets of what is shaped, the last first, before them those of before -/
theorem shp_good {f b t m : Int} (ht : 0 < t) : ∀ (ps : List P3) (own : List S2) (n : Nat), goodO b t m own → goodO b t m ((((shp f b t m own n ps).filter (own4 f)).map pr4).reverse ++ own)
  | [], own, n, h => h
  | p :: r, own, n, h => by
    unfold shp
    by_cases hf : p.2.1 = f
    · rw [if_pos hf, List.filter_cons_of_pos (by simp [own4, hf]), List.map_cons, List.reverse_cons, List.append_assoc]
      exact shp_good ht r _ _ ⟨lm_ok ht own _ _ _ (Int.le_refl _), h⟩
    · rw [if_neg hf, List.filter_cons_of_neg (by simp [own4, hf])]
      exact shp_good ht r _ _ h

def sumL (l : List S2) : Int := (l.map (·.2)).sum
theorem sumL_cons (x : S2) (l : List S2) : sumL (x :: l) = x.2 + sumL l := by unfold sumL; rw [List.map_cons, List.sum_cons]
theorem sumL_rev (l : List S2) : sumL l.reverse = sumL l := by
  unfold sumL
  rw [List.map_reverse, List.sum_reverse]
theorem sufOk_app {b t m mo : Int} : ∀ (l l' : List S2) (tot : Int), sufOk b t m mo (l ++ l') tot ↔ sufOk b t m mo l tot ∧ sufOk b t m mo l' (tot + sumL l)
  | [], l', tot => by
    show sufOk b t m mo l' tot ↔ True ∧ sufOk b t m mo l' (tot + 0)
    rw [Int.add_zero]
    simp
  | x :: l, l', tot => by
    show (x.1 ≤ mo ∧ (tot + x.2 - b) * m ≤ t * (mo - x.1) ∧ sufOk b t m mo (l ++ l') (tot + x.2)) ↔ (x.1 ≤ mo ∧ (tot + x.2 - b) * m ≤ t * (mo - x.1) ∧ sufOk b t m mo l (tot + x.2)) ∧ sufOk b t m mo l' (tot + sumL (x :: l))
    rw [sufOk_app l l', sumL_cons, show tot + (x.2 + sumL l) = tot + x.2 + sumL l by omega]
    constructor
    · rintro ⟨h1, h2, h3, h4⟩; exact ⟨⟨h1, h2, h3⟩, h4⟩
    · rintro ⟨⟨h1, h2, h3⟩, h4⟩; exact ⟨h1, h2, h3, h4⟩
theorem goodO_app {b t m : Int} : ∀ (l l' : List S2), goodO b t m (l ++ l') → goodO b t m l'
  | [], _, h => h
  | _ :: l, l', h => goodO_app l l' h.2
def kept1 (b t m : Int) (x : S2) : Int → List S2 → Prop
  | _, [] => True
  | l, y :: r => (l + y.2 - b) * m ≤ t * (y.1 - x.1) ∧ kept1 b t m x (l + y.2) r
def keptA (b t m : Int) : List S2 → Prop
  | [] => True
  | x :: r => kept1 b t m x 0 (x :: r) ∧ keptA b t m r
theorem kept1_snoc {b t m : Int} {x y : S2} : ∀ (L : List S2) (l : Int), kept1 b t m x l L → (l + sumL L + y.2 - b) * m ≤ t * (y.1 - x.1) → kept1 b t m x l (L ++ [y])
  | [], l, _, h => ⟨by rw [show l + sumL [] + y.2 = l + y.2 by show l + 0 + y.2 = _; omega] at h; exact h, trivial⟩
  | z :: L, l, h, h' => ⟨h.1, kept1_snoc L (l + z.2) h.2 (by rw [sumL_cons] at h'; rw [show l + z.2 + sumL L + y.2 = l + (z.2 + sumL L) + y.2 by omega]; exact h')⟩
theorem keptA_snoc {b t m : Int} {y : S2} (hy : (y.2 - b) * m ≤ 0) : ∀ O : List S2, keptA b t m O → sufOk b t m y.1 O.reverse y.2 → keptA b t m (O ++ [y])
  | [], _, _ => ⟨⟨by rw [Int.sub_self, Int.mul_zero, Int.zero_add]; exact hy, trivial⟩, trivial⟩
  | x :: r, h, hs => by
    rw [List.reverse_cons, sufOk_app] at hs
    obtain ⟨h1, h2⟩ := hs
    refine ⟨kept1_snoc (x :: r) 0 h.1 ?_, keptA_snoc hy r h.2 h1⟩
    have := h2.2.1
    rw [sumL_rev] at this
    rw [sumL_cons, show 0 + (x.2 + sumL r) + y.2 - b = y.2 + sumL r + x.2 - b by omega]
    exact this
theorem keptA_good {b t m : Int} (hm : 0 ≤ m) : ∀ R : List S2, (∀ x ∈ R, x.2 ≤ b) → goodO b t m R → keptA b t m R.reverse
  | [], _, _ => trivial
  | y :: R, hb, h => by
    rw [List.reverse_cons]
    refine keptA_snoc ?_ _ (keptA_good hm R (fun x hx => hb x (List.mem_cons_of_mem _ hx)) h.2) ?_
    · have := hb y List.mem_cons_self
      have : (y.2 - b) * m ≤ 0 * m := Int.mul_le_mul_of_nonneg_right (by omega) hm
      omega
    · rw [List.reverse_reverse]
      exact h.1
theorem inner_nil {ps : List P3} {b t m : Int} {i : Nat} : ∀ (js : List Nat) (l : Int), kept1 b t m (momAt ps i, lenAt ps i) l (js.map fun j => (momAt ps j, lenAt ps j)) → innerB ps b t m i l js = []
  | [], _, _ => rfl
  | j :: js, l, h => by
    have h1 : (l + lenAt ps j - b) * m ≤ t * (momAt ps j - momAt ps i) := h.1
    unfold innerB
    rw [if_neg (by omega), inner_nil js _ h.2]
    rfl
theorem outer_nil {ps : List P3} {b t m : Int} : ∀ js : List Nat, keptA b t m (js.map fun j => (momAt ps j, lenAt ps j)) → outerB ps b t m js = []
  | [], _ => rfl
  | j :: js, h => by
    unfold outerB
    rw [inner_nil (j :: js) 0 h.1, outer_nil js h.2]
    rfl
theorem nums_pairs (ps : List P3) (f : Int) : ((nums ps f).map fun j => (momAt ps j, lenAt ps j)) = (ps.filter fun p => decide (p.2.1 = f)).map fun p => (p.1, p.2.2) := by
  have go : ∀ (l pre : List P3), (((l.zipIdx pre.length).filterMap fun x => if x.1.2.1 = f then some x.2 else none).map fun j => (momAt (pre ++ l) j, lenAt (pre ++ l) j)) = (l.filter fun p => decide (p.2.1 = f)).map fun p => (p.1, p.2.2) := by
    intro l
    induction l with
    | nil => intro pre; rfl
    | cons p l ih =>
      intro pre
      have e : pre ++ p :: l = (pre ++ [p]) ++ l := by simp
      have ih := ih (pre ++ [p])
      rw [List.length_append, List.length_cons, List.length_nil] at ih
      rw [List.zipIdx_cons, List.filterMap_cons]
      have hp : (pre ++ p :: l)[pre.length]? = some p := by simp
      by_cases hf : p.2.1 = f
      · rw [List.filter_cons_of_pos (by simpa using hf)]
        simp only [hf, if_true, List.map_cons]
        rw [momAt_is hp, lenAt_is hp, e]
        rw [show pre.length + (0 + 1) = pre.length + 1 from rfl] at ih
        rw [ih]
      · rw [List.filter_cons_of_neg (by simpa using hf)]
        simp only [hf, if_false]
        rw [e]
        exact ih
  have := go ps []
  unfold nums
  simpa using this
theorem brk_nil {ps : List P3} {f b t m : Int} (hm : 0 ≤ m) (hb : ∀ p ∈ ps, p.2.1 = f → p.2.2 ≤ b) (h : goodO b t m ((ps.filter fun p => decide (p.2.1 = f)).map fun p => (p.1, p.2.2)).reverse) : brk ps f b t m = [] := by
  unfold brk
  refine outer_nil _ ?_
  rw [nums_pairs, ← List.reverse_reverse ((ps.filter fun p => decide (p.2.1 = f)).map fun p => (p.1, p.2.2))]
  refine keptA_good hm _ (fun x hx => ?_) h
  obtain ⟨p, hp, rfl⟩ := List.mem_map.mp (List.mem_reverse.mp hx)
  obtain ⟨h1, h2⟩ := List.mem_filter.mp hp
  exact hb p h1 (of_decide_eq_true h2)
/-- numbered -/
def idx4 : Nat → List P3 → List (List Int)
  | _, [] => []
  | n, p :: r => [p.1, (n : Int), p.2.1, p.2.2] :: idx4 (n + 1) r
theorem idx4_un : ∀ (ps : List P3) (n : Nat), (idx4 n ps).map un4 = ps
  | [], _ => rfl
  | p :: r, n => by
    show un4 [p.1, (n : Int), p.2.1, p.2.2] :: (idx4 (n + 1) r).map un4 = p :: r
    rw [idx4_un r]
    rfl
theorem shp_fix {f b t m : Int} (ht : 0 < t) : ∀ (ps : List P3) (own : List S2) (n : Nat), goodO b t m (((ps.filter fun p => decide (p.2.1 = f)).map fun p => (p.1, p.2.2)).reverse ++ own) → shp f b t m own n ps = idx4 n ps
  | [], _, _, _ => rfl
  | p :: r, own, n, h => by
    unfold shp idx4
    by_cases hf : p.2.1 = f
    · rw [List.filter_cons_of_pos (by simpa using hf), List.map_cons, List.reverse_cons, List.append_assoc] at h
      have h' : goodO b t m ((p.1, p.2.2) :: own) := goodO_app _ _ h
      have e : lmS b t m own p.2.2 p.1 = p.1 := lm_fix ht own _ _ h'.1
      rw [if_pos hf, e, shp_fix ht r ((p.1, p.2.2) :: own) _ h]
    · rw [List.filter_cons_of_neg (by simpa using hf)] at h
      rw [if_neg hf, shp_fix ht r _ _ h]

def at0 (l : List Int) : Int := l.getD 0 0
def at1 (l : List Int) : Int := l.getD 1 0
theorem lm_ge_own {b t m : Int} : ∀ (l : List S2) (tot mo : Int), ∀ x ∈ l, x.1 ≤ lmS b t m l tot mo
  | y :: r, tot, mo, x, hx => by
    have g := lm_ge (b := b) (t := t) (m := m) r (tot + y.2) (max (max mo y.1) (y.1 + (0 - (0 - (tot + y.2 - b) * m) / t)))
    show x.1 ≤ lmS b t m r _ _
    rcases List.mem_cons.mp hx with rfl | hx
    · omega
    · exact lm_ge_own r _ _ x hx
theorem shp_mem {f b t m : Int} : ∀ (ps : List P3) (own : List S2) (n : Nat), ∀ z ∈ shp f b t m own n ps, ∃ p ∈ ps, ∃ mo : Int, ∃ k : Nat, z = [mo, (k : Int), p.2.1, p.2.2] ∧ n ≤ k ∧ k < n + ps.length ∧ p.1 ≤ mo
  | p :: r, own, n, z, hz => by
    unfold shp at hz
    have up : ∀ {own : List S2}, z ∈ shp f b t m own (n + 1) r → ∃ p' ∈ p :: r, ∃ mo : Int, ∃ k : Nat, z = [mo, (k : Int), p'.2.1, p'.2.2] ∧ n ≤ k ∧ k < n + (p :: r).length ∧ p'.1 ≤ mo := fun h => by
      obtain ⟨p', hp', mo, k, e, h1, h2, h3⟩ := shp_mem r _ _ z h
      exact ⟨p', List.mem_cons_of_mem _ hp', mo, k, e, by omega, by rw [List.length_cons]; omega, h3⟩
    split at hz
    · rcases List.mem_cons.mp hz with rfl | hz
      · exact ⟨p, List.mem_cons_self, _, n, rfl, Nat.le_refl _, by rw [List.length_cons]; omega, lm_ge _ _ _⟩
      · exact up hz
    · rcases List.mem_cons.mp hz with rfl | hz
      · exact ⟨p, List.mem_cons_self, _, n, rfl, Nat.le_refl _, by rw [List.length_cons]; omega, Int.le_refl _⟩
      · exact up hz
theorem shp_low {f b t m : Int} : ∀ (ps : List P3) (own : List S2) (n : Nat), ∀ z ∈ (shp f b t m own n ps).filter (own4 f), (∀ x ∈ own, x.1 ≤ at0 z) ∧ (n : Int) ≤ at1 z
  | p :: r, own, n, z, hz => by
    unfold shp at hz
    by_cases hf : p.2.1 = f
    · rw [if_pos hf, List.filter_cons_of_pos (by simp [own4, hf])] at hz
      rcases List.mem_cons.mp hz with rfl | hz
      · exact ⟨fun x hx => lm_ge_own own _ _ x hx, Int.le_refl _⟩
      · obtain ⟨h1, h2⟩ := shp_low r _ _ z hz
        exact ⟨fun x hx => h1 x (List.mem_cons_of_mem _ hx), by omega⟩
    · rw [if_neg hf, List.filter_cons_of_neg (by simp [own4, hf])] at hz
      obtain ⟨h1, h2⟩ := shp_low r _ _ z hz
      exact ⟨h1, by omega⟩
def r4 (x y : List Int) : Prop := at0 x ≤ at0 y ∧ at1 x < at1 y
theorem shp_pair {f b t m : Int} : ∀ (ps : List P3) (own : List S2) (n : Nat), ((shp f b t m own n ps).filter (own4 f)).Pairwise r4
  | [], _, _ => List.Pairwise.nil
  | p :: r, own, n => by
    unfold shp
    by_cases hf : p.2.1 = f
    · rw [if_pos hf, List.filter_cons_of_pos (by simp [own4, hf])]
      refine List.Pairwise.cons (fun z hz => ?_) (shp_pair r _ _)
      obtain ⟨h1, h2⟩ := shp_low r _ _ z hz
      refine ⟨h1 _ List.mem_cons_self, ?_⟩
      show (n : Int) < at1 z
      omega
    · rw [if_neg hf, List.filter_cons_of_neg (by simp [own4, hf])]
      exact shp_pair r _ _
theorem four_is {B : Int} {l : List Int} (h : four B l) : ∃ a n c d, l = [a, n, c, d] := by
  obtain ⟨hl, _⟩ := h
  match l, hl with
  | [a, n, c, d], _ => exact ⟨a, n, c, d, rfl⟩
theorem code4_le {B : Int} {x y : List Int} (hx : four B x) (hy : four B y) (h : r4 x y) : TS.code B x ≤ TS.code B y := by
  obtain ⟨a, n, c, d, rfl⟩ := four_is hx
  obtain ⟨a', n', c', d', rfl⟩ := four_is hy
  obtain ⟨h1, h2⟩ := h
  have h1 : a ≤ a' := h1
  have h2 : n < n' := h2
  rcases Int.lt_or_eq_of_le h1 with h1 | rfl
  · exact Int.le_of_lt (TS.code_lt rfl hx.2.tail hy.2.tail h1)
  · exact Int.le_of_lt ((TS.code_same (r := [n, c, d]) (q := [n', c', d']) rfl).mpr (TS.code_lt (r := [c, d]) (q := [c', d']) rfl hx.2.tail.tail hy.2.tail.tail h2))
theorem code4_head {B : Int} {x y : List Int} (hx : four B x) (hy : four B y) (h : TS.code B x ≤ TS.code B y) : at0 x ≤ at0 y := by
  obtain ⟨a, n, c, d, rfl⟩ := four_is hx
  obtain ⟨a', n', c', d', rfl⟩ := four_is hy
  show a ≤ a'
  rcases Int.lt_or_le a' a with h1 | h1
  · have := TS.code_lt (B := B) (r := [n', c', d']) (q := [n, c, d]) rfl hy.2.tail hx.2.tail h1
    omega
  · exact h1
theorem srt_filter {B : Int} {d : Nat} {L : List (List Int)} (h : ∀ n ∈ L, n.length = d ∧ TS.Bd B n) (p : List Int → Bool) (hs : (L.filter p).Pairwise fun x y => TS.code B x ≤ TS.code B y) : (srt B L).filter p = L.filter p := by
  refine sorted_uniq ((srt_perm B L).filter p) ((srt_pair B L).filter p) hs fun x hx y hy e => ?_
  have h1 := h x ((srt_perm B L).mem_iff.mp (List.mem_filter.mp hx).1)
  have h2 := h y ((srt_perm B L).mem_iff.mp (List.mem_filter.mp hy).1)
  exact code_inj (h1.1.trans h2.1.symm) h1.2 h2.2 e
theorem own_un {f : Int} : ∀ {S : List (List Int)} {B : Int}, (∀ n ∈ S, four B n) → ((S.map un4).filter fun p => decide (p.2.1 = f)).map (fun p => (p.1, p.2.2)) = (S.filter (own4 f)).map pr4
  | [], _, _ => rfl
  | x :: S, B, h => by
    obtain ⟨a, n, c, d, rfl⟩ := four_is (h x List.mem_cons_self)
    have ih := own_un (f := f) (S := S) fun z hz => h z (List.mem_cons_of_mem _ hz)
    rw [List.map_cons]
    by_cases hc : c = f
    · rw [List.filter_cons_of_pos (by simp [un4, hc]), List.filter_cons_of_pos (show own4 f [a, n, c, d] = true from decide_eq_true hc), List.map_cons, List.map_cons, ih]
      rfl
    · rw [List.filter_cons_of_neg (by simp [un4, hc]), List.filter_cons_of_neg (show ¬ own4 f [a, n, c, d] = true from fun e => hc (of_decide_eq_true e)), ih]
def shapedL (B f b t m : Int) (ps : List P3) : List P3 := (srt B (shp f b t m [] 0 ps)).map un4
/-- what is shaped: it rises, its own packets are late enough -/
theorem shaped_good {B f b t m : Int} {ps : List P3} (ht : 0 < t) (h4 : ∀ n ∈ shp f b t m [] 0 ps, four B n) : goodO b t m (((shapedL B f b t m ps).filter fun p => decide (p.2.1 = f)).map fun p => (p.1, p.2.2)).reverse := by
  unfold shapedL
  have h5 : ∀ n ∈ srt B (shp f b t m [] 0 ps), four B n := fun n hn => h4 n ((srt_perm B _).mem_iff.mp hn)
  rw [own_un h5, srt_filter (d := 4) h4 _ ?_]
  · have := shp_good (f := f) (b := b) (m := m) ht ps [] 0 trivial
    rwa [List.append_nil] at this
  · exact List.Pairwise.imp_of_mem (fun {x y} hx hy h => code4_le (h4 x (List.mem_filter.mp hx).1) (h4 y (List.mem_filter.mp hy).1) h) (shp_pair ps [] 0)
theorem shaped_asc {B f b t m : Int} {ps : List P3} (h4 : ∀ n ∈ shp f b t m [] 0 ps, four B n) : ((shapedL B f b t m ps).map (·.1)).Pairwise (· ≤ ·) := by
  unfold shapedL
  have h5 : ∀ n ∈ srt B (shp f b t m [] 0 ps), four B n := fun n hn => h4 n ((srt_perm B _).mem_iff.mp hn)
  rw [List.map_map, List.pairwise_map]
  refine List.Pairwise.imp_of_mem (fun {x y} hx hy h => ?_) (srt_pair B (shp f b t m [] 0 ps))
  have := code4_head (h5 x hx) (h5 y hy) h
  obtain ⟨a, n, c, d, rfl⟩ := four_is (h5 x hx)
  obtain ⟨a', n', c', d', rfl⟩ := four_is (h5 y hy)
  exact this
theorem idx4_mem : ∀ (ps : List P3) (n : Nat), ∀ z ∈ idx4 n ps, ∃ p ∈ ps, ∃ k : Nat, z = [p.1, (k : Int), p.2.1, p.2.2] ∧ n ≤ k ∧ k < n + ps.length
  | p :: r, n, z, hz => by
    unfold idx4 at hz
    rcases List.mem_cons.mp hz with rfl | hz
    · exact ⟨p, List.mem_cons_self, n, rfl, Nat.le_refl _, by rw [List.length_cons]; omega⟩
    · obtain ⟨p', hp', k, e, h1, h2⟩ := idx4_mem r _ z hz
      exact ⟨p', List.mem_cons_of_mem _ hp', k, e, by omega, by rw [List.length_cons]; omega⟩
theorem idx4_pair : ∀ (ps : List P3) (n : Nat), (ps.map (·.1)).Pairwise (· ≤ ·) → (idx4 n ps).Pairwise r4
  | [], _, _ => List.Pairwise.nil
  | p :: r, n, h => by
    rw [List.map_cons] at h
    unfold idx4
    refine List.Pairwise.cons (fun z hz => ?_) (idx4_pair r _ (List.pairwise_cons.mp h).2)
    obtain ⟨p', hp', k, rfl, h1, h2⟩ := idx4_mem r _ z hz
    refine ⟨(List.pairwise_cons.mp h).1 _ (List.mem_map.mpr ⟨p', hp', rfl⟩), ?_⟩
    show (n : Int) < (k : Int)
    omega
theorem srt_fix {B : Int} {d : Nat} {L : List (List Int)} (h : ∀ n ∈ L, n.length = d ∧ TS.Bd B n) (hs : L.Pairwise fun x y => TS.code B x ≤ TS.code B y) : srt B L = L := (srt_is h (List.Perm.refl L) hs).symm
/-- shaping again changes nothing -/
theorem shaped_fix {B f b t m : Int} {ps : List P3} (ht : 0 < t) (asc : (ps.map (·.1)).Pairwise (· ≤ ·)) (good : goodO b t m ((ps.filter fun p => decide (p.2.1 = f)).map fun p => (p.1, p.2.2)).reverse) (h4 : ∀ n ∈ idx4 0 ps, four B n) : shapedL B f b t m ps = ps := by
  unfold shapedL
  rw [shp_fix ht ps [] 0 (by rw [List.append_nil]; exact good), srt_fix (d := 4) h4 ?_, idx4_un]
  exact List.Pairwise.imp_of_mem (fun {x y} hx hy h => code4_le (h4 x hx) (h4 y hy) h) (idx4_pair ps 0 asc)

structure SA (f b t m : Int) (ps : List P3) : Prop where
  arr : isArr (tP ps) = true
  len : ps.length ≤ 40
  f0 : 0 ≤ f
  b1 : 1 ≤ b
  ht : 0 < t ∧ t ≤ 1000000000
  hm : 0 < m ∧ m ≤ 1000000000
  hg : Nat.gcd t.natAbs m.natAbs = 1
  fit : ∀ p ∈ ps, p.2.1 = f → p.2.2 ≤ b
  four : ∀ n ∈ shp f b t m [] 0 ps, four 1000000000 n
theorem isBk_bk {b t m : Int} (hb : 1 ≤ b) (ht : 0 < t) (hm : 0 < m) (hg : Nat.gcd t.natAbs m.natAbs = 1) : isBk (bkD b t m) = true := by
  show (decide (b ≥ 1) && ((decide (m > 0) && decide (((Nat.gcd t.natAbs m.natAbs : Nat) : Int) = 1)) && decide (t > 0))) = true
  simp [hg]
  omega
def pr3 (p : P3) : S2 := (p.1, p.2.2)
def un4D : D → D
  | .tup [a, _, c, d] => .tup [a, c, d]
  | _ => .non
theorem un4D_list {B : Int} {L : List (List Int)} (h : ∀ n ∈ L, four B n) : (L.map tI).map un4D = (L.map un4).map pk := by
  rw [List.map_map, List.map_map]
  refine List.map_congr_left fun l hl => ?_
  obtain ⟨a, n, c, d, rfl⟩ := four_is (h l hl)
  rfl
theorem lm_law {b t m tot y x : Int} : x - m * (b - (tot + y)) / t = x + (0 - (0 - (tot + y - b) * m) / t) := by
  rw [show m * (b - (tot + y)) = 0 - (tot + y - b) * m by
    rw [Int.mul_comm m, show b - (tot + y) = -(tot + y - b) by omega, Int.neg_mul]; omega]
  omega

def lenI : D → Int
  | .tup (_ :: _ :: .int a :: _) => a
  | _ => 0
theorem sub_none {hd h : HpD} {a : Addr} (s : Sub hd h) (e : h a = none) : hd a = none := by
  cases q : hd a with
  | none => rfl
  | some o => rw [s a o q] at e; cases e

theorem lm_le {b t m M C : Int} (ht : 0 < t) (hm : 0 ≤ m) (hC : 0 ≤ C) : ∀ (l : List S2) (tot mo : Int), mo ≤ M → (∀ x ∈ l, 0 ≤ x.2 ∧ x.2 ≤ 60 ∧ x.1 + C ≤ M) → (tot + 60 * l.length - b) * m ≤ C → lmS b t m l tot mo ≤ M
  | [], _, _, h, _, _ => h
  | x :: r, tot, mo, h, hx, hc => by
    have h1 := hx x List.mem_cons_self
    rw [List.length_cons] at hc
    have e : (tot + x.2 - b) * m ≤ C := by
      have : (tot + x.2 - b) * m ≤ (tot + 60 * ((r.length + 1 : Nat) : Int) - b) * m := Int.mul_le_mul_of_nonneg_right (by omega) hm
      omega
    have e2 : (tot + x.2 - b) * m ≤ t * C := by
      have : 1 * C ≤ t * C := Int.mul_le_mul_of_nonneg_right (by omega) hC
      omega
    have e3 := (ceil_le ht).mp e2
    refine lm_le ht hm hC r _ _ (by omega) (fun y hy => hx y (List.mem_cons_of_mem _ hy)) ?_
    have : (tot + x.2 + 60 * (r.length : Int) - b) * m ≤ (tot + 60 * ((r.length + 1 : Nat) : Int) - b) * m := Int.mul_le_mul_of_nonneg_right (by omega) hm
    omega
theorem shp_bound {f b t m C : Int} (ht : 0 < t) (hm : 0 ≤ m) (hC : 0 ≤ C) (hc : (60 * 41 - b) * m ≤ C) : ∀ (ps : List P3) (own : List S2) (n : Nat) (M : Int), (∀ x ∈ own, 0 ≤ x.2 ∧ x.2 ≤ 60 ∧ x.1 ≤ M) → (∀ p ∈ ps, p.1 ≤ M ∧ 0 ≤ p.2.2 ∧ p.2.2 ≤ 60) → own.length + ps.length ≤ 40 → ∀ z ∈ shp f b t m own n ps, at0 z ≤ M + C * ps.length
  | p :: r, own, n, M, ho, hp, hl, z, hz => by
    have hp0 := hp p List.mem_cons_self
    rw [List.length_cons] at hl ⊢
    have eC : C * ((r.length + 1 : Nat) : Int) = C * r.length + C := by rw [Int.natCast_add, Int.mul_add]; simp
    have nn : 0 ≤ C * (r.length : Int) := Int.mul_nonneg hC (by omega)
    have hlm : lmS b t m own p.2.2 p.1 ≤ M + C := by
      refine lm_le (C := C) ht hm hC own _ _ (by omega) (fun x hx => by have := ho x hx; omega) ?_
      have : (p.2.2 + 60 * (own.length : Int) - b) * m ≤ (60 * 41 - b) * m := Int.mul_le_mul_of_nonneg_right (by omega) hm
      omega
    unfold shp at hz
    split at hz
    · rcases List.mem_cons.mp hz with rfl | hz
      · show lmS b t m own p.2.2 p.1 ≤ _
        omega
      · have := shp_bound ht hm hC hc r _ (n + 1) (M + C) (fun x hx => by
          rcases List.mem_cons.mp hx with rfl | hx
          · exact ⟨hp0.2.1, hp0.2.2, hlm⟩
          · have := ho x hx; omega) (fun q hq => by have := hp q (List.mem_cons_of_mem _ hq); omega) (by rw [List.length_cons]; omega) z hz
        omega
    · rcases List.mem_cons.mp hz with rfl | hz
      · show p.1 ≤ _
        omega
      · have := shp_bound ht hm hC hc r _ (n + 1) M ho (fun q hq => hp q (List.mem_cons_of_mem _ hq)) (by omega) z hz
        omega
/-- drawn packets, shaped -/
theorem shaped_all {f b t m : Int} {ps : List P3} (hl : ps.length ≤ 31) (hf : 0 ≤ f) (hb : 1 ≤ b) (ht : 1 ≤ t ∧ t ≤ 100) (hm : 1 ≤ m ∧ m ≤ 100) (hg : Nat.gcd t.natAbs m.natAbs = 1) (hp : ∀ p ∈ ps, 0 ≤ p.1 ∧ p.1 ≤ 10000 ∧ 0 ≤ p.2.1 ∧ p.2.1 ≤ 8 ∧ 1 ≤ p.2.2 ∧ p.2.2 ≤ 60) (asc : (ps.map (·.1)).Pairwise (· ≤ ·)) (fit : ∀ p ∈ ps, p.2.1 = f → p.2.2 ≤ b) :
    SA f b t m ps ∧ SA f b t m (shapedL 1000000000 f b t m ps) ∧ shapedL 1000000000 f b t m (shapedL 1000000000 f b t m ps) = shapedL 1000000000 f b t m ps ∧ brk (shapedL 1000000000 f b t m ps) f b t m = [] ∧ Sh 6016008 2 (tP (shapedL 1000000000 f b t m ps)) := by
  have ht0 : 0 < t := by omega
  have bnd := shp_bound (f := f) (b := b) (t := t) (m := m) (C := 246000) ht0 (by omega) (by decide) (by
    have : (60 * 41 - b) * m ≤ 2460 * m := Int.mul_le_mul_of_nonneg_right (by omega) (by omega)
    omega) ps [] 0 10000 (by simp) (fun p h => by have := hp p h; omega) (by simp; omega)
  have inL : ∀ z ∈ shp f b t m [] 0 ps, ∃ p ∈ ps, ∃ mo : Int, ∃ k : Nat, z = [mo, (k : Int), p.2.1, p.2.2] ∧ k < 31 ∧ 0 ≤ mo ∧ mo ≤ 10000000 := fun z hz => by
    obtain ⟨p, h1, mo, k, rfl, _, h3, h4⟩ := shp_mem ps [] 0 z hz
    have := hp p h1
    have h5 : mo ≤ _ := bnd _ hz
    exact ⟨p, h1, mo, k, rfl, by omega, by omega, by omega⟩
  have four_ok : ∀ (p : P3) (mo : Int) (k : Nat), (0 ≤ p.2.1 ∧ p.2.1 ≤ 8 ∧ 1 ≤ p.2.2 ∧ p.2.2 ≤ 60) → k < 31 → 0 ≤ mo → mo ≤ 10000000 → four 1000000000 [mo, (k : Int), p.2.1, p.2.2] := fun p mo k h1 h2 h3 h4 => ⟨rfl, fun x hx => by
    simp only [List.mem_cons, List.not_mem_nil, or_false] at hx
    omega⟩
  have h4 : ∀ n ∈ shp f b t m [] 0 ps, four 1000000000 n := fun z hz => by
    obtain ⟨p, h1, mo, k, rfl, h2, h3, h5⟩ := inL z hz
    have := hp p h1
    exact four_ok p mo k (by omega) h2 h3 h5
  have arr : isArr (tP ps) = true := isArr_tP (fun p h => by have := hp p h; omega) asc
  have s1 : SA f b t m ps := ⟨arr, by omega, hf, hb, ⟨by omega, by omega⟩, ⟨by omega, by omega⟩, hg, fit, h4⟩
  have dl : (shapedL 1000000000 f b t m ps).length = ps.length := by
    unfold shapedL
    rw [List.length_map, (srt_perm _ _).length_eq, shp_len]
  have dm : ∀ p ∈ shapedL 1000000000 f b t m ps, (0 ≤ p.1 ∧ p.1 ≤ 10000000 ∧ 0 ≤ p.2.1 ∧ p.2.1 ≤ 8 ∧ 1 ≤ p.2.2 ∧ p.2.2 ≤ 60) ∧ (p.2.1 = f → p.2.2 ≤ b) := fun q hq => by
    obtain ⟨z, hz, rfl⟩ := List.mem_map.mp hq
    obtain ⟨p, h1, mo, k, rfl, h2, h3, h5⟩ := inL z ((srt_perm _ _).mem_iff.mp hz)
    have a := hp p h1
    exact ⟨⟨h3, h5, a.2.2.1, a.2.2.2.1, a.2.2.2.2.1, a.2.2.2.2.2⟩, fit p h1⟩
  have dasc := shaped_asc h4
  have dgood := shaped_good ht0 h4
  have di : ∀ n ∈ idx4 0 (shapedL 1000000000 f b t m ps), four 1000000000 n := fun z hz => by
    obtain ⟨p, h1, k, rfl, _, h3⟩ := idx4_mem _ 0 z hz
    have a := (dm p h1).1
    exact four_ok p p.1 k (by omega) (by omega) a.1 a.2.1
  have darr : isArr (tP (shapedL 1000000000 f b t m ps)) = true := isArr_tP (fun p h => by have := dm p h; omega) dasc
  refine ⟨s1, ⟨darr, by omega, hf, hb, s1.ht, s1.hm, hg, fun p h => (dm p h).2, ?_⟩, shaped_fix ht0 dasc dgood di, brk_nil (by omega) (fun p h => (dm p h).2) dgood, sh_tP (by omega) fun p h => by have := dm p h; omega⟩
  rw [shp_fix ht0 _ [] 0 (by rw [List.append_nil]; exact dgood)]
  exact di
theorem maxL_top {L : List Int} {x : Int} (h : x ∈ L) : x ≤ maxL L := by
  have go : ∀ (l : List Int) (c : Int), c ≤ l.foldl max c ∧ ∀ x ∈ l, x ≤ l.foldl max c := by
    intro l
    induction l with
    | nil => intro c; exact ⟨Int.le_refl _, by simp⟩
    | cons y l ih =>
      intro c
      rw [List.foldl_cons]
      obtain ⟨h1, h2⟩ := ih (max c y)
      refine ⟨by omega, fun x hx => ?_⟩
      rcases List.mem_cons.mp hx with rfl | hx
      · omega
      · exact h2 x hx
  exact (go L _).2 x h
end G
namespace G
open PySem PySem.Spec PyProof.Rows L2
def topS (i : Nat) : Stmt := PySem.Challenge.pw_fairqueue_k33_whole_shaped_arrivals.main.body.getD i (.Pass ⟨0, 0, 0, 0⟩)
abbrev fam : Nat := 2
/-! ### is_integer -/
abbrev s_is_integer : Stmt := topS 7
theorem sc_is_integer : FnScope ["thing"] ["thing"] (defScope s_is_integer) := ⟨rfl, rfl, rfl, by decide +kernel, rfl, by decide +kernel, by decide +kernel⟩
def sp_is_integer : SpD := fun ds hd Q _ => ∃ d : D, ds = [d] ∧ knownD hd d = true ∧ Q (.bl (isI d)) hd
section
variable {P : Program} {w : World} {K : PySem.W.Frag} {mg : Str → Option Value} {base : Heap}
theorem kn_is_integer {f : Addr} {fd : FuncData} (F : Fun K "is_integer" "is_integer" s_is_integer f fd) (m : mg "is_integer" = some (.ref f)) (m_isinstance : mg "isinstance" = none) (m_bool : mg "bool" = none) (m_int : mg "int" = none) : Kn P w K mg base "is_integer" s_is_integer 1 ["thing"] sp_is_integer f fd := by
  refine ⟨F, fnD F sc_is_integer (fun ds hd Q E h => ?_) (fun cdv A outer s H E ds hd Q Ed hr hq h => ?_), F.binds fun _ _ _ _ _ _ us hl => match us, hl with | [_], _ => rfl, m⟩
  · obtain ⟨d, rfl, hk, q⟩ := h
    rfl
  · obtain ⟨d, rfl, hk, q⟩ := h
    refine ⟨_, (pssd_one (psd_ret (pd_and (pd_callB (call_isiD kit_int) (by rfl) m_isinstance bt_isinstance (pad_cons (pd_var (pv 0)) (pad_cons (pd_glob (pe_bltn (v := .ty "int") (by rfl) m_int bt_int rfl) (fun _ => rv_ty)) pad_nil))) (pd_one (pd_not (pd_callB (call_isiD kit_bool) (by rfl) m_isinstance bt_isinstance (pad_cons (pd_var (pv 0)) (pad_cons (pd_glob (pe_bltn (v := .ty "bool") (by rfl) m_bool bt_bool rfl) (fun _ => rv_ty)) pad_nil)))))))), ?_⟩
    have hk := known_kind hk
    rw [isI_is] at q
    exact And.intro rfl (And.intro hk (And.intro (fun e => And.intro rfl (And.intro hk (rq0 (by rw [e] at q; exact q)))) fun e => rq0 (by rw [e] at q; exact q)))
end
/-! ### is_tuple -/
abbrev s_is_tuple : Stmt := topS 9
theorem sc_is_tuple : FnScope ["thing", "length"] ["thing", "length"] (defScope s_is_tuple) := ⟨rfl, rfl, rfl, by decide +kernel, rfl, by decide +kernel, by decide +kernel⟩
def sp_is_tuple : SpD := fun ds hd Q _ => ∃ (d : D) (n : Int), ds = [d, .int n] ∧ knownD hd d = true ∧ Q (.bl (isTn n d)) hd
section
variable {P : Program} {w : World} {K : PySem.W.Frag} {mg : Str → Option Value} {base : Heap}
theorem kn_is_tuple {f : Addr} {fd : FuncData} (F : Fun K "is_tuple" "is_tuple" s_is_tuple f fd) (m : mg "is_tuple" = some (.ref f)) (m_len : mg "len" = none) (m_isinstance : mg "isinstance" = none) (m_tuple : mg "tuple" = none) : Kn P w K mg base "is_tuple" s_is_tuple 1 ["thing", "length"] sp_is_tuple f fd := by
  refine ⟨F, fnD F sc_is_tuple (fun ds hd Q E h => ?_) (fun cdv A outer s H E ds hd Q Ed hr hq h => ?_), F.binds fun _ _ _ _ _ _ us hl => match us, hl with | [_, _], _ => rfl, m⟩
  · obtain ⟨d, n, rfl, hk, q⟩ := h
    rfl
  · obtain ⟨d, n, rfl, hk, q⟩ := h
    refine ⟨_, (pssd_one (psd_ret (pd_and (pd_callB (call_isiD kit_tup) (by rfl) m_isinstance bt_isinstance (pad_cons (pd_var (pv 0)) (pad_cons (pd_glob (pe_bltn (v := .ty "tuple") (by rfl) m_tuple bt_tuple rfl) (fun _ => rv_ty)) pad_nil))) (pd_one (pd_cmp (op_eqD' (room_64 hr)) (nomark _) (pd_callB call_lenDD (by rfl) m_len bt_len (pad_cons (pd_var (pv 0)) pad_nil)) (pd_var (pv 1))))))), ?_⟩
    refine And.intro rfl (And.intro (known_kind hk) (And.intro (fun e => ?_) fun e => rq0 ?_))
    · obtain ⟨es, rfl⟩ := isTup_of e
      exact rq0 q
    · have : isTn n d = false := by cases d <;> first | rfl | cases e
      rw [this] at q
      exact q
end
/-! ### does_break -/
abbrev s_does_break : Stmt := topS 16
theorem sc_does_break : FnScope ["length", "time", "bucket", "burst", "top", "bottom"] ["length", "time", "bucket"] (defScope s_does_break) := ⟨rfl, rfl, rfl, by decide +kernel, rfl, by decide +kernel, by decide +kernel⟩
def sp_does_break : SpD := fun ds hd Q _ => ∃ l tm b t m : Int, ds = [.int l, .int tm, bkD b t m] ∧ (0 < t ∧ t ≤ 1000000000) ∧ (0 < m ∧ m ≤ 1000000000) ∧ Q (.bl (decide ((l - b) * m > t * tm))) hd
section
variable {P : Program} {w : World} {K : PySem.W.Frag} {mg : Str → Option Value} {base : Heap}
theorem kn_does_break {f : Addr} {fd : FuncData} (F : Fun K "does_break" "does_break" s_does_break f fd) (m : mg "does_break" = some (.ref f)) : Kn P w K mg base "does_break" s_does_break 1 ["length", "time", "bucket"] sp_does_break f fd := by
  refine ⟨F, fnD F sc_does_break (fun ds hd Q E h => ?_) (fun cdv A outer s H E ds hd Q Ed hr hq h => ?_), F.binds fun _ _ _ _ _ _ us hl => match us, hl with | [_, _, _], _ => rfl, m⟩
  · obtain ⟨l, tm, b, t, m, rfl, ht, hm, q⟩ := h
    rfl
  · obtain ⟨l, tm, b, t, m, rfl, ht, hm, q⟩ := h
    refine ⟨_, (pssd_cons (psd_asg (pd_var (pv 2)) (pgd_tup (n := 2) rfl (pgsd_cons (pgd_name (pg_name (i := 3) sc_does_break.nd rfl (by first | exact .inl rfl | exact .inr rfl))) (pgsd_cons (pgd_tup (n := 2) rfl (pgsd_cons (pgd_name (pg_name (i := 4) sc_does_break.nd rfl (by first | exact .inl rfl | exact .inr rfl))) (pgsd_cons (pgd_name (pg_name (i := 5) sc_does_break.nd rfl (by first | exact .inl rfl | exact .inr rfl))) pgsd_nil))) pgsd_nil))))
      (pssd_one (psd_ret (pd_cmp op_gtD (nomark _) (pd_op op_mulD (pd_op op_subD (pd_var (pv 0)) (pd_var (pv 3))) (pd_var (pv 5))) (pd_op op_mulD (pd_var (pv 4)) (pd_var (pv 1))))))), ?_⟩
    exact And.intro rfl (And.intro rfl (And.intro (.inl (.inr ⟨by omega, by omega⟩)) (And.intro (.inl (.inl ⟨by omega, by omega⟩)) (rq0 q))))
end
/-! ### least_moment -/
abbrev s_least_moment : Stmt := topS 19
theorem sc_least_moment : FnScope ["before", "moment", "length", "bucket", "burst", "top", "bottom", "total", "place", "need"] ["before", "moment", "length", "bucket"] (defScope s_least_moment) := ⟨rfl, rfl, rfl, by decide +kernel, rfl, by decide +kernel, by decide +kernel⟩
def sp_least_moment : SpD := fun ds hd Q _ => ∃ (a : Addr) (O : List P3) (mo l b t m : Int), ds = [.ref a, .int mo, .int l, bkD b t m] ∧ hd a = some (.lst (O.map pk)) ∧ (0 < t ∧ t ≤ 1000000000 ∧ O.length ≤ 1000) ∧ (0 < m ∧ m ≤ 1000000000) ∧ Q (.int (lmS b t m (O.map pr3).reverse l mo)) hd
section
variable {P : Program} {w : World} {K : PySem.W.Frag} {mg : Str → Option Value} {base : Heap}
theorem kn_least_moment {f : Addr} {fd : FuncData} (F : Fun K "least_moment" "least_moment" s_least_moment f fd) (m : mg "least_moment" = some (.ref f)) (m_range : mg "range" = none) (m_len : mg "len" = none) (m_max : mg "max" = none) : Kn P w K mg base "least_moment" s_least_moment 1 ["before", "moment", "length", "bucket"] sp_least_moment f fd := by
  refine ⟨F, fnD F sc_least_moment (fun ds hd Q E h => ?_) (fun cdv A outer s H E ds hd Q Ed hr hq h => ?_), F.binds fun _ _ _ _ _ _ us hl => match us, hl with | [_, _, _, _], _ => rfl, m⟩
  · obtain ⟨a, O, mo, l, b, t, m, rfl, ha, ht, hm, q⟩ := h
    rfl
  · obtain ⟨a, O, mo, l, b, t, m, rfl, ha, ht, hm, q⟩ := h
    refine ⟨_, (pssd_cons (psd_asg (pd_var (pv 3)) (pgd_tup (n := 2) rfl (pgsd_cons (pgd_name (pg_name (i := 4) sc_least_moment.nd rfl (by first | exact .inl rfl | exact .inr rfl))) (pgsd_cons (pgd_tup (n := 2) rfl (pgsd_cons (pgd_name (pg_name (i := 5) sc_least_moment.nd rfl (by first | exact .inl rfl | exact .inr rfl))) (pgsd_cons (pgd_name (pg_name (i := 6) sc_least_moment.nd rfl (by first | exact .inl rfl | exact .inr rfl))) pgsd_nil))) pgsd_nil))))
      (pssd_cons (psd_set (ps_set (i := 7) sc_least_moment.nd rfl (by first | exact .inl rfl | exact .inr rfl) pe_w) (pd_var (pv 2)))
      (pssd_cons (psd_for PassesOwn.never rfl (pid_rangeDn (by rfl) m_range (pad_cons (pd_op op_subD (pd_callB call_lenDD (by rfl) m_len bt_len (pad_cons (pd_var (pv 0)) pad_nil)) pd_int) (pad_cons (pd_neg pd_int) (pad_cons (pd_neg pd_int) pad_nil)))) (pgd_name (pg_name (i := 8) sc_least_moment.nd rfl (by first | exact .inl rfl | exact .inr rfl))) (pssd_cons (psd_aug (ps_aug (i := 7) sc_least_moment.nd rfl (by first | exact .inl rfl | exact .inr rfl) pe_w ip_u) (pd_ix (pd_ix (pd_var (pv 0)) (pd_var (pv 8)) (fun _ _ => rfl)) pd_int (fun _ _ => rfl)) op_iaddD)
      (pssd_cons (psd_set (ps_set (i := 9) sc_least_moment.nd rfl (by first | exact .inl rfl | exact .inr rfl) pe_w) (pd_op op_mulD (pd_op op_subD (pd_var (pv 7)) (pd_var (pv 4))) (pd_var (pv 6))))
      (pssd_one (psd_set (ps_set (i := 1) sc_least_moment.nd rfl (by first | exact .inl rfl | exact .inr rfl) pe_w) (pd_callB (call_max3D rfl) (by rfl) m_max bt_max (pad_cons (pd_var (pv 1)) (pad_cons (pd_ix (pd_ix (pd_var (pv 0)) (pd_var (pv 8)) (fun _ _ => rfl)) pd_int (fun _ _ => rfl)) (pad_cons (pd_op op_addD (pd_ix (pd_ix (pd_var (pv 0)) (pd_var (pv 8)) (fun _ _ => rfl)) pd_int (fun _ _ => rfl)) (pd_op op_subD pd_int (pd_op op_fdivD (pd_op op_subD pd_int (pd_var (pv 9))) (pd_var (pv 5))))) pad_nil)))))))))
      (pssd_one (psd_ret (pd_var (pv 1))))))), ?_⟩
    have hn : (((O.map pk).length : Int) - 1 - (-1)).toNat = O.length := by rw [List.length_map]; omega
    refine And.intro rfl (And.intro rfl (Exists.intro _ (And.intro ha (And.intro rfl (And.intro ⟨by rw [List.length_map]; omega, by rw [List.length_map]; omega, by decide, by decide⟩ ?_)))))
    refine Exists.intro (fun k e h => h = hd ∧ ∃ (mo' tot : Int) (o8 o9 : Option D), e = [some (.ref a), some (.int mo'), some (.int l), some (bkD b t m), some (.int b), some (.int t), some (.int m), some (.int tot), o8, o9] ∧ lmS b t m ((O.map pr3).reverse.drop k) tot mo' = lmS b t m (O.map pr3).reverse l mo)
      (And.intro ⟨rfl, mo, l, _, _, rfl, rfl⟩ (And.intro (fun _ _ _ _ _ => trivial) (And.intro ?_ ?_)))
    rotate_left
    · rintro e h ⟨rfl, mo', tot, o8, o9, rfl, el⟩
      have el : lmS b t m ((O.map pr3).reverse.drop ((List.range (((O.map pk).length : Int) - 1 - (-1)).toNat).map fun k : Nat => D.int (((O.map pk).length : Int) - 1 - (k : Nat))).length) tot mo' = _ := el
      rw [List.length_map, List.length_range, hn, List.drop_of_length_le (by simp)] at el
      have el : mo' = _ := el
      rw [← el] at q
      exact rq0 q
    rintro k d e h hk ⟨rfl, mo', tot, o8, o9, rfl, el⟩
    have hk : ((List.range (((O.map pk).length : Int) - 1 - (-1)).toNat).map fun k : Nat => D.int (((O.map pk).length : Int) - 1 - (k : Nat)))[k]? = some d := hk
    rw [hn, List.getElem?_map] at hk
    have hkn : k < O.length := by
      cases hr : (List.range O.length)[k]? with
      | none => rw [hr] at hk; cases hk
      | some x => have := (List.getElem?_eq_some_iff.mp hr).1; rwa [List.length_range] at this
    rw [List.getElem?_range hkn] at hk
    have ed : d = .int ((O.length - 1 - k : Nat) : Int) := by
      have := (Option.some.inj hk).symm
      rw [this]
      show D.int (((O.map pk).length : Int) - 1 - (k : Nat)) = _
      have e2 : (((O.map pk).length : Int) - 1 - (k : Nat)) = ((O.length - 1 - k : Nat) : Int) := by
        rw [List.length_map]
        omega
      rw [e2]
    subst ed
    clear hk
    have hj : O.length - 1 - k < O.length := by omega
    have ej : O[O.length - 1 - k]? = some O[O.length - 1 - k] := List.getElem?_eq_getElem hj
    generalize hp : O[O.length - 1 - k] = p at ej
    have er : (O.map pr3).reverse[k]? = some (pr3 p) := by
      rw [List.getElem?_reverse (by rw [List.length_map]; exact hkn), List.length_map, List.getElem?_map, ej]
      rfl
    rw [drop_at er] at el
    have mb : MulOk (tot + p.2.2 - b) m := .inl (.inr ⟨by omega, by omega⟩)
    refine Exists.intro _ (And.intro ha ?_)
    conv => whnf
    rw [at_pk ej]
    refine And.intro mb (Exists.intro _ (And.intro ha ?_))
    conv => whnf
    rw [at_pk ej]
    refine Exists.intro _ (And.intro ha ?_)
    conv => whnf
    rw [at_pk ej]
    exact And.intro ⟨ht.1, pow9000 ht.2.1⟩ (Exists.intro _ (And.intro .refl ⟨rfl, _, _, _, _, rfl, el⟩))
end
/-! ### _law_deck -/
abbrev s__law_deck : Stmt := topS 22
theorem sc__law_deck : FnScope ["script", "number", "cell"] ["script"] (defScope s__law_deck) := ⟨rfl, rfl, rfl, by decide +kernel, rfl, by decide +kernel, by decide +kernel⟩
def sp__law_deck : SpD := fun ds hd Q _ => ∃ ns : List Int, ds = [.rl (ns.map .int)] ∧ ns.length ≤ 63 ∧ ∀ p q h', Dk fam h' p q → Sub hd h' → Q (.ref p) h'
section
variable {P : Program} {w : World} {K : PySem.W.Frag} {mg : Str → Option Value} {base : Heap}
theorem kn__law_deck {f : Addr} {fd : FuncData} (F : Fun K "_law_deck" "_law_deck" s__law_deck f fd) (m : mg "_law_deck" = some (.ref f)) (m_list : mg "list" = none) (m_int : mg "int" = none) : Kn P w K mg base "_law_deck" s__law_deck 1 ["script"] sp__law_deck f fd := by
  refine ⟨F, fnD F sc__law_deck (fun ds hd Q E h => ?_) (fun cdv A outer s H E ds hd Q Ed hr hq h => ?_), F.binds fun _ _ _ _ _ _ us hl => match us, hl with | [_], _ => rfl, m⟩
  · obtain ⟨ns, rfl, hl, q⟩ := h
    rfl
  · obtain ⟨ns, rfl, hl, q⟩ := h
    refine ⟨_, (pssd_cons (psd_set (ps_set (i := 1) sc__law_deck.nd rfl (by first | exact .inl rfl | exact .inr rfl) pe_w) pd_int)
      (pssd_cons (psd_for PassesOwn.never rfl (pid_seq (pd_slice (pd_var (pv 0)) pod_none (pod_some pd_int))) (pgd_name (pg_name (i := 2) sc__law_deck.nd rfl (by first | exact .inl rfl | exact .inr rfl))) (pssd_one (psd_set (ps_set (i := 1) sc__law_deck.nd rfl (by first | exact .inl rfl | exact .inr rfl) pe_w) (pd_op op_modD (pd_callTy call_intD (by rfl) m_int bt_int (pad_cons (pd_op op_addD (pd_op op_addD (pd_op op_mulD (pd_var (pv 1)) pd_int) (pd_op op_modD (pd_callTy call_intD (by rfl) m_int bt_int (pad_cons (pd_var (pv 2)) pad_nil)) pd_int)) pd_int) pad_nil)) pd_int))))
      (pssd_one (psd_ret (pd_disp (ppd_cons pd_str (pd_revL (pd_callTy call_listD' (by rfl) m_list bt_list (pad_cons (pd_slice (pd_var (pv 0)) pod_none (pod_some pd_int)) pad_nil))) (ppd_cons pd_str (pd_var (pv 1)) (ppd_cons pd_str pd_int ppd_nil)))))))), ?_⟩
    obtain ⟨ms, hms, hlen⟩ := cut_ints ns none (some 63)
    intro p1 hp1
    refine seq_l put_same ?_
    refine Exists.intro (fun i env h => h = put hd p1 (.lst (cutD (ns.map .int) none (some 63))) ∧ ∃ (m : Int) (c : Option D), env = [some (.rl (ns.map .int)), some (.int m), c]) (And.intro ⟨rfl, _, _, rfl⟩ (And.intro ?_ (And.intro ?_ ?_)))
    · rintro i env h _ ⟨rfl, _⟩
      exact put_same
    · rintro i d env h hi ⟨rfl, m, c, rfl⟩
      have hi : (cutD (ns.map D.int) none (some 63))[i]? = some d := hi
      rw [hms] at hi
      obtain ⟨n, _, rfl⟩ := List.mem_map.mp (mem_at hi)
      exact And.intro (.inl (.inr ⟨by decide, by decide⟩)) (And.intro (by decide) (And.intro (by decide) (Exists.intro _ (And.intro .refl ⟨rfl, _, _, rfl⟩))))
    · rintro env h ⟨rfl, m, c, rfl⟩
      intro p hp p2 hp2
      refine Exists.intro _ (And.intro put_same fun p3 hp3 => ?_)
      refine Exists.intro _ (And.intro put_same fun p4 hp4 => ?_)
      have n42 : p ≠ p2 := fun e => by rw [← e, put_same] at hp2; cases hp2
      have n43 : p ≠ p3 := fun e => by rw [← e, put_ne n42, put_same] at hp3; cases hp3
      have n44 : p ≠ p4 := fun e => by rw [← e, put_ne n43, put_ne n42, put_same] at hp4; cases hp4
      refine And.intro ?_ (And.intro (Nat.le_of_ble_eq_true rfl) ?_)
      · rw [put_ne n44, put_ne n43, put_ne n42, put_same]
      · have sb : Sub hd (put (put (put (put hd p1 (.lst (cutD (ns.map D.int) none (some 63)))) p (.dct [])) p2 (.lst (cutD (ns.map D.int) none (some 63)))) p3 (.lst (cutD (ns.map D.int) none (some 63)))) := (((Sub.new hp1).trans (.new hp)).trans (.new hp2)).trans (.new hp3)
        have hpn : hd p = none := by
          cases e : hd p with
          | none => rfl
          | some o => rw [put_ne (by rintro rfl; rw [hp1] at e; cases e), e] at hp; cases hp
        refine rq0 (q p p4 _ ⟨n44, ⟨m, 0, ?_⟩, ⟨ms.reverse, ?_, by rw [List.length_reverse]; omega⟩⟩ fun a o ea => ?_)
        · rw [put_same]
          exact congrArg (fun z => some (OD.dct z)) (deck_new (f := fam))
        · rw [put_ne (Ne.symm n44), put_same, hms]
          simp [List.map_reverse]
        · have np : a ≠ p := fun e => by rw [e, hpn] at ea; cases ea
          have e1 := sb a o ea
          have n4 : a ≠ p4 := fun e => by rw [e, hp4] at e1; cases e1
          rw [put_ne np, put_ne n4]
          exact e1
end
/-! ### _law_draw -/
abbrev s__law_draw : Stmt := topS 23
theorem sc__law_draw : FnScope ["deck", "many", "number", "cell"] ["deck", "many"] (defScope s__law_draw) := ⟨rfl, rfl, rfl, by decide +kernel, rfl, by decide +kernel, by decide +kernel⟩
def sp__law_draw : SpD := fun ds hd Q _ => ∃ (p r : Addr) (many : Int), ds = [.ref p, .int many] ∧ Dk fam hd p r ∧ (0 < many ∧ many ≤ 1000000000) ∧ ∀ v h', 0 ≤ v → v < many → Dk fam h' p r → Kp p r hd h' → Q (.int v) h'
section
variable {P : Program} {w : World} {K : PySem.W.Frag} {mg : Str → Option Value} {base : Heap}
theorem kn__law_draw {f : Addr} {fd : FuncData} (F : Fun K "_law_draw" "_law_draw" s__law_draw f fd) (m : mg "_law_draw" = some (.ref f)) (m_int : mg "int" = none) (m_max : mg "max" = none) : Kn P w K mg base "_law_draw" s__law_draw 1 ["deck", "many"] sp__law_draw f fd := by
  refine ⟨F, fnD F sc__law_draw (fun ds hd Q E h => ?_) (fun cdv A outer s H E ds hd Q Ed hr hq h => ?_), F.binds fun _ _ _ _ _ _ us hl => match us, hl with | [_, _], _ => rfl, m⟩
  · obtain ⟨p, r, many, rfl, hD, h0, q⟩ := h
    rfl
  · obtain ⟨p, r, many, rfl, hD, h0, q⟩ := h
    refine ⟨_, (pssd_cons (psd_asg (pd_op op_addD (pd_dget (room_1 hr) (pd_var (pv 0)) pd_str (fun _ _ => rfl)) pd_int) (pgd_sub (set_dctD (room_1 hr)) (pd_var (pv 0)) pd_str))
      (pssd_cons (psd_set (ps_set (i := 2) sc__law_draw.nd rfl (by first | exact .inl rfl | exact .inr rfl) pe_w) (pd_op op_addD (pd_dget (room_1 hr) (pd_var (pv 0)) pd_str (fun _ _ => rfl)) (pd_op op_mulD pd_int (pd_dget (room_1 hr) (pd_var (pv 0)) pd_str (fun _ _ => rfl)))))
      (pssd_consM (psd_if (ptd_cmp (op_neD' (room_64 hr)) (nomark _) (pd_dget (room_1 hr) (pd_var (pv 0)) pd_str (fun _ _ => rfl)) (pd_lst pad_nil)) (pssd_cons (psd_set (ps_set (i := 3) sc__law_draw.nd rfl (by first | exact .inl rfl | exact .inr rfl) pe_w) (pd_lm0 (pe_bm0 PySem.F.plainAttrs_list PySem.F.slot_list_pop PySem.F.type_list_pop mt_u pe_w) mt_popD (pd_dget (room_1 hr) (pd_var (pv 0)) pd_str (fun _ _ => rfl))))
      (pssd_cons (psd_if (ptd_cmp op_geD (nomark _) (pd_var (pv 3)) (pd_op op_powD pd_int pd_int)) (pssd_cons (psd_expr (pd_lm (pe_bm PySem.F.plainAttrs_list PySem.F.slot_list_append PySem.F.type_list_append mt_u pe_w pa_w) mt_appD (pd_dget (room_1 hr) (pd_var (pv 0)) pd_str (fun _ _ => rfl)) (pad_cons (pd_op op_fdivD (pd_var (pv 3)) (pd_callB (call_max2D rfl) (by rfl) m_max bt_max (pad_cons pd_int (pad_cons (pd_var (pv 1)) pad_nil)))) pad_nil)))
      (pssd_one (psd_ret (pd_op op_modD (pd_callTy call_intD (by rfl) m_int bt_int (pad_cons (pd_var (pv 3)) pad_nil)) (pd_var (pv 1)))))) pssd_nil)
      (pssd_one (psd_set (ps_set (i := 2) sc__law_draw.nd rfl (by first | exact .inl rfl | exact .inr rfl) pe_w) (pd_op op_addD (pd_var (pv 2)) (pd_op op_modD (pd_callTy call_intD (by rfl) m_int bt_int (pad_cons (pd_var (pv 3)) pad_nil)) pd_int)))))) pssd_nil)
      (pssd_cons (psd_set (ps_set (i := 2) sc__law_draw.nd rfl (by first | exact .inl rfl | exact .inr rfl) pe_w) (pd_op op_modD (pd_callTy call_intD (by rfl) m_int bt_int (pad_cons (pd_op op_addD (pd_op op_mulD (pd_var (pv 2)) pd_int) pd_int) pad_nil)) pd_int))
      (pssd_cons (psd_set (ps_set (i := 2) sc__law_draw.nd rfl (by first | exact .inl rfl | exact .inr rfl) pe_w) (pd_op op_modD (pd_callTy call_intD (by rfl) m_int bt_int (pad_cons (pd_op op_addD (pd_op op_addD (pd_op op_mulD (pd_var (pv 2)) (pd_var (pv 2))) (pd_op op_mulD pd_int (pd_dget (room_1 hr) (pd_var (pv 0)) pd_str (fun _ _ => rfl)))) pd_int) pad_nil)) pd_int))
      (pssd_cons (psd_set (ps_set (i := 2) sc__law_draw.nd rfl (by first | exact .inl rfl | exact .inr rfl) pe_w) (pd_op op_modD (pd_callTy call_intD (by rfl) m_int bt_int (pad_cons (pd_op op_mulD (pd_var (pv 2)) pd_int) pad_nil)) pd_int))
      (pssd_one (psd_ret (pd_op op_modD (pd_callTy call_intD (by rfl) m_int bt_int (pad_cons (pd_op op_fdivD (pd_var (pv 2)) pd_int) pad_nil)) (pd_var (pv 1))))))))))), ?_⟩
    obtain ⟨ne, ⟨m, n, hp⟩, ns, hq2, hl⟩ := hD
    -- deck['draws'] = deck['draws'] + 1
    refine Exists.intro _ (And.intro hp (Exists.intro _ (And.intro hp (And.intro (small_size (Nat.le_of_ble_eq_true rfl)) ?_))))
    have hp2 : put hd p (.dct (dputK [(dkL fam, .ref r), (kM, .int m), (dkD fam, .int n)] (dkD fam) (.int (n + 1)))) p = some (deckO fam r m (n + 1)) := by
      rw [put_same, deck_put]; rfl
    have hr2 : put hd p (.dct (dputK [(dkL fam, .ref r), (kM, .int m), (dkD fam, .int n)] (dkD fam) (.int (n + 1)))) r = some (.lst (ns.map .int)) := by
      rw [put_ne (Ne.symm ne)]; exact hq2
    have hk2 : Kp p r hd (put hd p (.dct (dputK [(dkL fam, .ref r), (kM, .int m), (dkD fam, .int n)] (dkD fam) (.int (n + 1))))) := Kp.refl.put_p
    -- figure = ..
    refine Exists.intro _ (And.intro hp2 (Exists.intro _ (And.intro hp2 (And.intro (.inl (.inl ⟨by decide, by decide⟩)) ?_))))
    refine Exists.intro (fun e h => ∃ (ns : List Int) (fig : Int) (c : Option D), e = [some (.ref p), some (.int many), some (.int fig), c] ∧ h p = some (deckO fam r m (n + 1)) ∧ h r = some (.lst (ns.map .int)) ∧ ns.length ≤ 63 ∧ Kp p r hd h) (And.intro ?_ fun N hN => ?_)
    · rintro e h ⟨ns, fig, c, rfl, hp, hr, hl, hk⟩
      refine And.intro (.inl (.inr ⟨by decide, by decide⟩)) (And.intro (by decide) ?_)
      refine And.intro (.inl (.inl (emod_big _ (by decide) (by decide)))) (Exists.intro _ (And.intro hp (And.intro (.inl (.inl ⟨by decide, by decide⟩)) (And.intro (by decide) ?_))))
      refine And.intro (.inl (.inr ⟨by decide, by decide⟩)) (And.intro (by decide) (And.intro ⟨by decide, pow9000 (by decide)⟩ (And.intro h0.1 ?_)))
      exact rq0 (q _ _ (Int.emod_nonneg _ (by omega)) (Int.emod_lt_of_pos _ h0.1) ⟨ne, ⟨m, n + 1, hp⟩, ns, hr, hl⟩ hk)
    · refine Exists.intro _ (And.intro hp2 (And.intro szl fun p3 hp3 => ?_))
      have n3p : p ≠ p3 := ne_fresh hp2 hp3
      have n3r : r ≠ p3 := ne_fresh hr2 hp3
      have hp4 := (put_ne (o := .lst []) n3p).trans hp2
      have hr4 := (put_ne (o := .lst []) n3r).trans hr2
      have hk4 := hk2.new (o := .lst []) hp3
      refine eq_nil (neg := true) hr4 put_same ?_
      refine And.intro (fun e => ?_) fun e => ?_
      · refine Exists.intro _ (And.intro hp4 (And.intro (Exists.intro _ (Exists.intro _ (And.intro rfl hr4))) ?_))
        refine Exists.intro _ (And.intro hr4 ?_)
        obtain ⟨ms, z, rfl⟩ : ∃ ms z, ns = ms ++ [z] := by
          rcases List.eq_nil_or_concat ns with h | ⟨ms, z, h⟩
          · subst h; cases e
          · exact ⟨ms, z, by rw [h, List.concat_eq_append]⟩
        conv => whnf
        rw [List.map_append, List.map_cons, List.map_nil, List.getLast?_concat, List.dropLast_concat]
        rw [List.length_append, List.length_cons, List.length_nil] at hl
        have hp5 := (put_ne (o := .lst (ms.map .int)) ne).trans hp4
        have hr5 := fun (h : HpD) => put_same (hd := h) (a := r) (o := .lst (ms.map .int))
        have hk5 := hk4.put_q (o := .lst (ms.map .int))
        refine And.intro ⟨by decide, by decide, by decide⟩ (And.intro (fun e2 => ?_) fun e2 => ?_)
        · refine Exists.intro _ (And.intro hp5 (And.intro (Exists.intro _ (Exists.intro _ (And.intro rfl (hr5 _)))) ?_))
          refine And.intro ⟨by omega, pow9000 (by omega)⟩ (Exists.intro _ (And.intro (hr5 _) (And.intro (small_size (by rw [List.length_map]; omega)) ?_)))
          refine And.intro h0.1 (rq0 (q _ _ (Int.emod_nonneg _ (by omega)) (Int.emod_lt_of_pos _ h0.1) ⟨ne, ⟨m, n + 1, (put_ne ne).trans hp5⟩, ms ++ [z / max 2 many], ?_, ?_⟩ hk5.put_q))
          · rw [put_same, List.map_append]; rfl
          · rw [List.length_append, List.length_cons, List.length_nil]; omega
        · exact And.intro (by decide) (hN _ _ ⟨ms, _, _, rfl, hp5, hr5 _, by omega, hk5⟩)
      · exact hN _ _ ⟨ns, _, _, rfl, hp4, hr4, hl, hk4⟩
end
/-! ### _law_common -/
abbrev s__law_common : Stmt := topS 25
theorem sc__law_common : FnScope ["one", "other"] ["one", "other"] (defScope s__law_common) := ⟨rfl, rfl, rfl, by decide +kernel, rfl, by decide +kernel, by decide +kernel⟩
def sp__law_common : SpD := fun ds hd Q _ => ∃ one other : Int, ds = [.int one, .int other] ∧ Q (.int ((Nat.gcd one.natAbs other.natAbs : Nat) : Int)) hd
section
variable {P : Program} {w : World} {K : PySem.W.Frag} {mg : Str → Option Value} {base : Heap}
theorem kn__law_common {f : Addr} {fd : FuncData} (F : Fun K "_law_common" "_law_common" s__law_common f fd) (m : mg "_law_common" = some (.ref f)) (m_int : mg "int" = none) (m_abs : mg "abs" = none) : Kn P w K mg base "_law_common" s__law_common 1 ["one", "other"] sp__law_common f fd := by
  refine ⟨F, fnD F sc__law_common (fun ds hd Q E h => ?_) (fun cdv A outer s H E ds hd Q Ed hr hq h => ?_), F.binds fun _ _ _ _ _ _ us hl => match us, hl with | [_, _], _ => rfl, m⟩
  · obtain ⟨one, other, rfl, q⟩ := h
    rfl
  · obtain ⟨one, other, rfl, q⟩ := h
    refine ⟨_, (pssd_cons (psd_par (i := 0) (j := 1) (ps_par rfl sc__law_common.nd rfl rfl (by decide) rfl rfl pa_w (by rfl)) (pad_cons (pd_callB call_absD (by rfl) m_abs bt_abs (pad_cons (pd_var (pv 0)) pad_nil)) (pad_cons (pd_callB call_absD (by rfl) m_abs bt_abs (pad_cons (pd_var (pv 1)) pad_nil)) pad_nil)))
      (pssd_cons (psd_while PassesOwn.never (ptd_cmp (op_neD' (room_64 hr)) (nomark _) (pd_var (pv 1)) pd_int) (pssd_one (psd_par (i := 0) (j := 1) (ps_par rfl sc__law_common.nd rfl rfl (by decide) rfl rfl pa_w (by rfl)) (pad_cons (pd_var (pv 1)) (pad_cons (pd_op op_modD (pd_callTy call_intD (by rfl) m_int bt_int (pad_cons (pd_var (pv 0)) pad_nil)) (pd_var (pv 1))) pad_nil)))))
      (pssd_one (psd_ret (pd_var (pv 0)))))), ?_⟩
    refine Exists.intro (fun env h => h = hd ∧ ∃ a b : Int, env = [some (.int a), some (.int b)] ∧ 0 ≤ a ∧ 0 ≤ b ∧ Nat.gcd a.natAbs b.natAbs = Nat.gcd one.natAbs other.natAbs) (Exists.intro (fun env h => match env with | [_, some (.int b)] => b.natAbs | _ => 0) (And.intro ⟨rfl, _, _, rfl, by omega, by omega, rfl⟩ ?_))
    rintro env h ⟨rfl, a, b, rfl, ha, hb, e⟩
    refine And.intro (fun t => ?_) fun t => ?_
    · have t : ¬ b = 0 := by simpa using t
      refine And.intro (by omega) (Exists.intro h (And.intro .refl (And.intro ⟨rfl, b, a % b, rfl, hb, Int.emod_nonneg _ (by omega), ?_⟩ ?_)))
      · rw [← e, Nat.gcd_comm a.natAbs, natAbs_emod ha hb, Nat.gcd_comm b.natAbs (a.natAbs % b.natAbs), ← Nat.gcd_rec]
      · show (a % b).natAbs < b.natAbs
        rw [natAbs_emod ha hb]
        exact Nat.mod_lt _ (by omega)
    · have t : b = 0 := by simpa using t
      subst t
      rw [show Nat.gcd a.natAbs (0 : Int).natAbs = a.natAbs from Nat.gcd_zero_right _] at e
      refine rq0 ?_
      rw [← e, Int.natAbs_of_nonneg ha] at q
      exact q
end
/-! ### _law_shaped -/
abbrev s__law_shaped : Stmt := topS 29
theorem sc__law_shaped : FnScope ["arrivals", "flow", "bucket", "burst", "top", "bottom", "found", "mine", "number", "moment", "owner", "length", "much", "then", "size"] ["arrivals", "flow", "bucket"] (defScope s__law_shaped) := ⟨rfl, rfl, rfl, by decide +kernel, rfl, by decide +kernel, by decide +kernel⟩
def sp__law_shaped : SpD := fun ds hd Q _ => ∃ (ps : List P3) (f b t m : Int), ds = [tP ps, .int f, bkD b t m] ∧ SA f b t m ps ∧ ∀ h, Sub hd h → Q (tP (shapedL 1000000000 f b t m ps)) h
section
variable {P : Program} {w : World} {K : PySem.W.Frag} {mg : Str → Option Value} {base : Heap}
theorem kn__law_shaped {f : Addr} {fd : FuncData} (F : Fun K "_law_shaped" "_law_shaped" s__law_shaped f fd) (m : mg "_law_shaped" = some (.ref f)) (m_tuple : mg "tuple" = none) (m_sorted : mg "sorted" = none) (m_enumerate : mg "enumerate" = none) (m_max : mg "max" = none) : Kn P w K mg base "_law_shaped" s__law_shaped 1 ["arrivals", "flow", "bucket"] sp__law_shaped f fd := by
  refine ⟨F, fnD F sc__law_shaped (fun ds hd Q E h => ?_) (fun cdv A outer s H E ds hd Q Ed hr hq h => ?_), F.binds fun _ _ _ _ _ _ us hl => match us, hl with | [_, _, _], _ => rfl, m⟩
  · obtain ⟨ps, f, b, t, m, rfl, sa, q⟩ := h
    rfl
  · obtain ⟨ps, f, b, t, m, rfl, sa, q⟩ := h
    refine ⟨_, (pssd_cons (psd_asg (pd_var (pv 2)) (pgd_tup (n := 2) rfl (pgsd_cons (pgd_name (pg_name (i := 3) sc__law_shaped.nd rfl (by first | exact .inl rfl | exact .inr rfl))) (pgsd_cons (pgd_tup (n := 2) rfl (pgsd_cons (pgd_name (pg_name (i := 4) sc__law_shaped.nd rfl (by first | exact .inl rfl | exact .inr rfl))) (pgsd_cons (pgd_name (pg_name (i := 5) sc__law_shaped.nd rfl (by first | exact .inl rfl | exact .inr rfl))) pgsd_nil))) pgsd_nil))))
      (pssd_cons (psd_par (i := 6) (j := 7) (ps_par rfl sc__law_shaped.nd rfl rfl (by decide) rfl rfl pa_w (by rfl)) (pad_cons (pd_lst pad_nil) (pad_cons (pd_lst pad_nil) pad_nil)))
      (pssd_cons (psd_for PassesOwn.never rfl (pid_enum (by rfl) m_enumerate (pd_var (pv 0))) (pgd_tup (n := 2) rfl (pgsd_cons (pgd_name (pg_name (i := 8) sc__law_shaped.nd rfl (by first | exact .inl rfl | exact .inr rfl))) (pgsd_cons (pgd_tup (n := 3) rfl (pgsd_cons (pgd_name (pg_name (i := 9) sc__law_shaped.nd rfl (by first | exact .inl rfl | exact .inr rfl))) (pgsd_cons (pgd_name (pg_name (i := 10) sc__law_shaped.nd rfl (by first | exact .inl rfl | exact .inr rfl))) (pgsd_cons (pgd_name (pg_name (i := 11) sc__law_shaped.nd rfl (by first | exact .inl rfl | exact .inr rfl))) pgsd_nil)))) pgsd_nil))) (pssd_consM (psd_if (ptd_cmp (op_eqD' (room_64 hr)) (nomark _) (pd_var (pv 10)) (pd_var (pv 1))) (pssd_cons (psd_set (ps_set (i := 12) sc__law_shaped.nd rfl (by first | exact .inl rfl | exact .inr rfl) pe_w) (pd_var (pv 11)))
      (pssd_cons (psd_for PassesOwn.never rfl (pid_seq (pd_revL (pd_var (pv 7)))) (pgd_tup (n := 2) rfl (pgsd_cons (pgd_name (pg_name (i := 13) sc__law_shaped.nd rfl (by first | exact .inl rfl | exact .inr rfl))) (pgsd_cons (pgd_name (pg_name (i := 14) sc__law_shaped.nd rfl (by first | exact .inl rfl | exact .inr rfl))) pgsd_nil))) (pssd_cons (psd_set (ps_set (i := 9) sc__law_shaped.nd rfl (by first | exact .inl rfl | exact .inr rfl) pe_w) (pd_callB (call_max2D rfl) (by rfl) m_max bt_max (pad_cons (pd_var (pv 9)) (pad_cons (pd_var (pv 13)) pad_nil))))
      (pssd_cons (psd_set (ps_set (i := 12) sc__law_shaped.nd rfl (by first | exact .inl rfl | exact .inr rfl) pe_w) (pd_op op_addD (pd_var (pv 12)) (pd_var (pv 14))))
      (pssd_one (psd_set (ps_set (i := 9) sc__law_shaped.nd rfl (by first | exact .inl rfl | exact .inr rfl) pe_w) (pd_callB (call_max2D rfl) (by rfl) m_max bt_max (pad_cons (pd_var (pv 9)) (pad_cons (pd_op op_subD (pd_var (pv 13)) (pd_op op_fdivD (pd_op op_mulD (pd_var (pv 5)) (pd_op op_subD (pd_var (pv 3)) (pd_var (pv 12)))) (pd_var (pv 4)))) pad_nil))))))))
      (pssd_one (psd_expr (pd_lm (pe_bm PySem.F.plainAttrs_list PySem.F.slot_list_append PySem.F.type_list_append mt_u pe_w pa_w) mt_appD (pd_var (pv 7)) (pad_cons (pd_tup (pad_cons (pd_var (pv 9)) (pad_cons (pd_var (pv 11)) pad_nil))) pad_nil)))))) pssd_nil)
      (pssd_one (psd_expr (pd_lm (pe_bm PySem.F.plainAttrs_list PySem.F.slot_list_append PySem.F.type_list_append mt_u pe_w pa_w) mt_appD (pd_var (pv 6)) (pad_cons (pd_tup (pad_cons (pd_var (pv 9)) (pad_cons (pd_var (pv 8)) (pad_cons (pd_var (pv 10)) (pad_cons (pd_var (pv 11)) pad_nil))))) pad_nil))))))
      (pssd_one (psd_ret (pd_callTy call_tupleD (by rfl) m_tuple bt_tuple (pad_cons (pd_lc rfl sc__law_shaped.nd (pid_seq (pd_callB call_sortD (by rfl) m_sorted bt_sorted (pad_cons (pd_var (pv 6)) pad_nil))) (blkOk_by (N := ["arrivals", "flow", "bucket", "burst", "top", "bottom", "found", "mine", "number", "moment", "owner", "length", "much", "then", "size"]) (sc := defScope s__law_shaped) (own := [("moment", 9), ("number", 8), ("owner", 10), ("length", 11)]) (by decide +kernel)) (fun _ _ _ _ _ => (pgo_tup (n := 4) rfl (pgso_cons (pgo_name (pg_name (i := 9) sc__law_shaped.nd rfl (by first | exact .inl rfl | exact .inr rfl)) (by decide)) (pgso_cons (pgo_name (pg_name (i := 8) sc__law_shaped.nd rfl (by first | exact .inl rfl | exact .inr rfl)) (by decide)) (pgso_cons (pgo_name (pg_name (i := 10) sc__law_shaped.nd rfl (by first | exact .inl rfl | exact .inr rfl)) (by decide)) (pgso_cons (pgo_name (pg_name (i := 11) sc__law_shaped.nd rfl (by first | exact .inl rfl | exact .inr rfl)) (by decide)) pgso_nil)))))) (fun _ _ _ _ _ => ptsd_nil) (fun _ _ _ _ _ => (pd_tup (pad_cons (pd_var (pv 9)) (pad_cons (pd_var (pv 10)) (pad_cons (pd_var (pv 11)) pad_nil)))))) pad_nil))))))), ?_⟩
    have hlen := sa.len
    have ht := sa.ht
    have hm := sa.hm
    refine And.intro rfl (And.intro rfl ?_)
    refine And.intro szl fun aF hF => And.intro szl fun aO hO => ?_
    have nFO : aF ≠ aO := ne_fresh put_same hO
    have hOd := sub_none (.new (o := .lst []) hF) hO
    refine Exists.intro (fun i e h => ∃ (O : List S2) (F : List (List Int)) (o8 o9 o10 o11 o12 o13 o14 : Option D), e = [some (tP ps), some (.int f), some (bkD b t m), some (.int b), some (.int t), some (.int m), some (.ref aF), some (.ref aO), o8, o9, o10, o11, o12, o13, o14] ∧ Sub hd h ∧ h aO = some (.lst (O.map s2)) ∧ h aF = some (.lst (F.map tI)) ∧ F ++ shp f b t m O.reverse i (ps.drop i) = shp f b t m [] 0 ps ∧ O.length ≤ i ∧ F.length = i ∧ i ≤ ps.length)
      (And.intro ⟨[], [], _, _, _, _, _, _, _, rfl, (Sub.new hF).trans (.new hO), put_same, (put_ne nFO).trans put_same, rfl, Nat.le_refl _, rfl, Nat.zero_le _⟩ (And.intro (fun _ _ _ _ _ => trivial) (And.intro ?_ ?_)))
    rotate_left
    · rintro e h ⟨O, F, o8, o9, o10, o11, o12, o13, o14, rfl, sb, eO, eF, ef, _, hFl, _⟩
      have el : (enumS ⟨ps.map pk, fun _ => True⟩).items.length = ps.length := by
        show ((ps.map pk).zipIdx.map fun p => D.tup [.int (p.2 : Nat), p.1]).length = _
        rw [List.length_map, List.length_zipIdx, List.length_map]
      rw [el, List.drop_length] at ef
      rw [show shp f b t m O.reverse ps.length [] = [] from rfl, List.append_nil] at ef
      rw [ef] at eF
      have h4 : ∀ n ∈ srt 1000000000 (shp f b t m [] 0 ps), four 1000000000 n := fun n hn => sa.four n ((srt_perm _ _).mem_iff.mp hn)
      have hll : (srt 1000000000 (shp f b t m [] 0 ps)).length = ps.length := by rw [(srt_perm _ _).length_eq, shp_len]
      refine Exists.intro _ (Exists.intro 4 (Exists.intro 1000000000 (And.intro (by decide) (And.intro eF (And.intro (by rw [shp_len]; omega) (And.intro sa.four fun p hp => ?_))))))
      conv => whnf
      rw [seqS_l put_same]
      refine lc_do (S := ⟨(srt 1000000000 (shp f b t m [] 0 ps)).map tI, fun h' => h' p = some (.lst ((srt 1000000000 (shp f b t m [] 0 ps)).map tI))⟩) (fun z => some (un4D z)) (fun _ s => s _ _ put_same) (by rw [List.length_map, hll]; exact small_size (by omega)) (fun i z h k hi sb kk => ?_) (fun p2 hp2 => ?_)
      · obtain ⟨l, hl, rfl⟩ := List.mem_map.mp (mem_at hi)
        obtain ⟨a, n, c, d, rfl⟩ := four_is (h4 l hl)
        exact And.intro rfl (And.intro (fun _ => And.intro szl (kk h .refl)) (fun z => nomatch z))
      · refine Exists.intro _ (And.intro put_same ?_)
        rw [filterMap_some, un4D_list h4]
        exact rq0 (q _ ((sb.trans (.new hp)).trans (.new hp2)))
    rintro i d e h hi ⟨O, F, o8, o9, o10, o11, o12, o13, o14, rfl, sb, eO, eF, ef, hOl, hFl, _⟩
    obtain ⟨p, rfl, hp⟩ := enum_pk hi
    have hil : i < ps.length := (List.getElem?_eq_some_iff.mp hp).1
    rw [drop_at hp] at ef
    refine And.intro rfl (And.intro rfl ?_)
    refine Exists.intro (fun e h => ∃ (O : List S2) (mo : Int) (o12 o13 o14 : Option D), e = [some (tP ps), some (.int f), some (bkD b t m), some (.int b), some (.int t), some (.int m), some (.ref aF), some (.ref aO), some (.int (i : Nat)), some (.int mo), some (.int p.2.1), some (.int p.2.2), o12, o13, o14] ∧ Sub hd h ∧ h aO = some (.lst (O.map s2)) ∧ h aF = some (.lst (F.map tI)) ∧ F ++ [mo, (i : Int), p.2.1, p.2.2] :: shp f b t m O.reverse (i + 1) (ps.drop (i + 1)) = shp f b t m [] 0 ps ∧ O.length ≤ i + 1) (And.intro ?_ fun N hN => ?_)
    rotate_left
    · refine And.intro (fun c => ?_) fun c => ?_
      · have c : p.2.1 = f := of_decide_eq_true c
        rw [show shp f b t m O.reverse i (p :: ps.drop (i + 1)) = _ from if_pos c] at ef
        refine Exists.intro _ (And.intro eO fun aR hR => seq_l put_same ?_)
        have nOR : aO ≠ aR := ne_fresh eO hR
        have nFR : aF ≠ aR := ne_fresh eF hR
        refine Exists.intro (fun k e h => ∃ (mo tot : Int) (o13 o14 : Option D), e = [some (tP ps), some (.int f), some (bkD b t m), some (.int b), some (.int t), some (.int m), some (.ref aF), some (.ref aO), some (.int (i : Nat)), some (.int mo), some (.int p.2.1), some (.int p.2.2), some (.int tot), o13, o14] ∧ Sub hd h ∧ h aO = some (.lst (O.map s2)) ∧ h aF = some (.lst (F.map tI)) ∧ h aR = some (.lst (O.map s2).reverse) ∧ lmS b t m (O.reverse.drop k) tot mo = lmS b t m O.reverse p.2.2 p.1)
          (And.intro ⟨p.1, p.2.2, _, _, rfl, sb.trans (.new hR), (put_ne nOR).trans eO, (put_ne nFR).trans eF, put_same, rfl⟩ (And.intro (fun _ _ _ _ ⟨_, _, _, _, _, _, _, _, eR, _⟩ => eR) (And.intro ?_ ?_)))
        rotate_left
        · rintro e h ⟨mo, tot, o13, o14, rfl, sb, eO, eF, eR, el⟩
          have el : lmS b t m (O.reverse.drop (O.map s2).reverse.length) tot mo = _ := el
          rw [List.length_reverse, List.length_map, List.drop_of_length_le (by simp)] at el
          have el : mo = _ := el
          subst el
          refine And.intro (Exists.intro _ (Exists.intro _ (And.intro rfl eO))) (And.intro szl (Exists.intro _ (And.intro eO (And.intro (small_size (by rw [List.length_map]; omega)) ?_))))
          refine hN _ _ ⟨O ++ [(lmS b t m O.reverse p.2.2 p.1, p.2.2)], _, _, _, _, rfl, sb.own hOd, ?_, (put_ne nFO).trans eF, ?_, by rw [List.length_append, List.length_cons, List.length_nil]; omega⟩
          · rw [put_same, List.map_append]; rfl
          · rw [List.reverse_append]
            exact ef
        rintro k d e h hk ⟨mo, tot, o13, o14, rfl, sb, eO, eF, eR, el⟩
        have hk : (O.map s2).reverse[k]? = some d := hk
        rw [← List.map_reverse, List.getElem?_map] at hk
        obtain ⟨x, hx, rfl⟩ : ∃ x, O.reverse[k]? = some x ∧ d = s2 x := by
          cases hx : O.reverse[k]? with
          | none => rw [hx] at hk; cases hk
          | some x => rw [hx] at hk; cases hk; exact ⟨x, rfl, rfl⟩
        rw [drop_at hx] at el
        refine And.intro rfl (And.intro (.inl (.inl ⟨by omega, by omega⟩)) (And.intro ⟨ht.1, pow9000 ht.2⟩ ?_))
        refine Exists.intro _ (And.intro .refl ⟨_, _, _, _, rfl, sb, eO, eF, eR, ?_⟩)
        rw [lm_law]
        exact el
      · have c : ¬ p.2.1 = f := of_decide_eq_false c
        rw [show shp f b t m O.reverse i (p :: ps.drop (i + 1)) = _ from if_neg c] at ef
        exact hN _ _ ⟨O, _, _, _, _, rfl, sb, eO, eF, ef, by omega⟩
    clear eO eF ef hOl
    rintro e h ⟨O, mo, o12, o13, o14, rfl, sb, eO, eF, ef, hOl⟩
    refine And.intro (Exists.intro _ (Exists.intro _ (And.intro rfl eF))) (And.intro szl (Exists.intro _ (And.intro eF (And.intro (small_size (by rw [List.length_map]; omega)) ?_))))
    refine Exists.intro _ (And.intro .refl ⟨O, F ++ [[mo, (i : Int), p.2.1, p.2.2]], _, _, _, _, _, _, _, rfl, sb.own hF, (put_ne (Ne.symm nFO)).trans eO, ?_, ?_, hOl, ?_, hil⟩)
    · rw [put_same, List.map_append]; rfl
    · rw [List.append_assoc]; exact ef
    · rw [List.length_append, hFl]; rfl
end
/-! ### is_from -/
abbrev s_is_from : Stmt := topS 8
theorem sc_is_from : FnScope ["thing", "least"] ["thing", "least"] (defScope s_is_from) := ⟨rfl, rfl, rfl, by decide +kernel, rfl, by decide +kernel, by decide +kernel⟩
def sp_is_from : SpD := fun ds hd Q _ => ∃ (d : D) (n : Int), ds = [d, .int n] ∧ knownD hd d = true ∧ Q (.bl (isF n d)) hd
section
variable {P : Program} {w : World} {K : PySem.W.Frag} {mg : Str → Option Value} {base : Heap}
theorem kn_is_from {f : Addr} {fd : FuncData} (F : Fun K "is_from" "is_from" s_is_from f fd) (m : mg "is_from" = some (.ref f)) {f_is_integer : Addr} {fd_is_integer : FuncData} (C_is_integer : Kn P w K mg base "is_integer" s_is_integer 1 ["thing"] sp_is_integer f_is_integer fd_is_integer) : Kn P w K mg base "is_from" s_is_from 2 ["thing", "least"] sp_is_from f fd := by
  refine ⟨F, fnD F sc_is_from (fun ds hd Q E h => ?_) (fun cdv A outer s H E ds hd Q Ed hr hq h => ?_), F.binds fun _ _ _ _ _ _ us hl => match us, hl with | [_, _], _ => rfl, m⟩
  · obtain ⟨d, n, rfl, hk, q⟩ := h
    rfl
  · obtain ⟨d, n, rfl, hk, q⟩ := h
    refine ⟨_, (pssd_one (psd_ret (pd_and (pk_call C_is_integer hr hq (pad_cons (pd_var (pv 0)) pad_nil)) (pd_one (pd_cmp op_geD (nomark _) (pd_var (pv 0)) (pd_var (pv 1))))))), ?_⟩
    refine Exists.intro d (And.intro rfl (And.intro hk (And.intro (fun e => ?_) fun e => rq0 ?_)))
    · cases d <;> first | exact rq0 q | cases e
    · have : isF n d = false := by cases d <;> first | rfl | cases e
      rw [this] at q
      exact q
end
/-! ### is_fraction -/
abbrev s_is_fraction : Stmt := topS 10
theorem sc_is_fraction : FnScope ["thing"] ["thing"] (defScope s_is_fraction) := ⟨rfl, rfl, rfl, by decide +kernel, rfl, by decide +kernel, by decide +kernel⟩
def sp_is_fraction : SpD := fun ds hd Q _ => ∃ d : D, ds = [d] ∧ knownD hd d = true ∧ Q (.bl (isFr d)) hd
section
variable {P : Program} {w : World} {K : PySem.W.Frag} {mg : Str → Option Value} {base : Heap}
theorem kn_is_fraction {f : Addr} {fd : FuncData} (F : Fun K "is_fraction" "is_fraction" s_is_fraction f fd) (m : mg "is_fraction" = some (.ref f)) {f_is_integer : Addr} {fd_is_integer : FuncData} (C_is_integer : Kn P w K mg base "is_integer" s_is_integer 1 ["thing"] sp_is_integer f_is_integer fd_is_integer) {f_is_tuple : Addr} {fd_is_tuple : FuncData} (C_is_tuple : Kn P w K mg base "is_tuple" s_is_tuple 1 ["thing", "length"] sp_is_tuple f_is_tuple fd_is_tuple) (g_gcd : mg "gcd" = some (.builtin "math.gcd")) : Kn P w K mg base "is_fraction" s_is_fraction 2 ["thing"] sp_is_fraction f fd := by
  refine ⟨F, fnD F sc_is_fraction (fun ds hd Q E h => ?_) (fun cdv A outer s H E ds hd Q Ed hr hq h => ?_), F.binds fun _ _ _ _ _ _ us hl => match us, hl with | [_], _ => rfl, m⟩
  · obtain ⟨d, rfl, hk, q⟩ := h
    rfl
  · obtain ⟨d, rfl, hk, q⟩ := h
    refine ⟨_, (pssd_cons (psd_if (pwd_or (ptd_not (ptd_truth (pk_call C_is_tuple hr hq (pad_cons (pd_var (pv 0)) (pad_cons pd_int pad_nil))))) (pwd_or (ptd_not (ptd_truth (pk_call C_is_integer hr hq (pad_cons (pd_ix (pd_var (pv 0)) pd_int (fun _ _ => rfl)) pad_nil)))) (pwd_or1 (ptd_not (ptd_truth (pk_call C_is_integer hr hq (pad_cons (pd_ix (pd_var (pv 0)) pd_int (fun _ _ => rfl)) pad_nil))))))).pt (pssd_one (psd_ret pd_bl)) pssd_nil)
      (pssd_one (psd_ret (pd_and (pd_cmp op_gtD (nomark _) (pd_ix (pd_var (pv 0)) pd_int (fun _ _ => rfl)) pd_int) (pd_one (pd_cmp (op_eqD' (room_64 hr)) (nomark _) (pd_callBfun call_gcdD (by rfl) g_gcd (pad_cons (pd_ix (pd_var (pv 0)) pd_int (fun _ _ => rfl)) (pad_cons (pd_ix (pd_var (pv 0)) pd_int (fun _ _ => rfl)) pad_nil))) pd_int)))))), ?_⟩
    refine Exists.intro d (Exists.intro 2 (And.intro rfl (And.intro hk ?_)))
    have no : (∀ a b : Int, d ≠ .tup [.int a, .int b]) → Q (.bl false) hd := fun hn => by
      have : isFr d = false := by
        unfold isFr
        split
        · exact absurd rfl (hn _ _)
        · rfl
      rw [this] at q
      exact q
    refine And.intro (fun e => And.intro (fun _ => rq0 (no ?_)) fun z => nomatch z) fun e => ?_
    · rintro a b rfl
      cases e
    · have e : isTn 2 d = true := by cases h : isTn 2 d <;> first | rfl | (rw [h] at e; cases e)
      obtain ⟨es, rfl, hl⟩ := isTn_of e
      obtain ⟨a, b, rfl⟩ := len2 hl
      obtain ⟨_, hm⟩ := known_tup hk
      have ka := hm a (by simp); have kb := hm b (by simp)
      refine Exists.intro a (And.intro rfl (And.intro ka (And.intro (fun e1 => And.intro (fun _ => rq0 (no ?_)) fun z => nomatch z) fun e1 => ?_)))
      · rintro x y h
        injection h with h
        injection h with h1 h2
        subst h1
        cases e1
      · have e1 : isI a = true := by cases h : isI a <;> first | rfl | (rw [h] at e1; cases e1)
        obtain ⟨x, rfl⟩ := isI_of e1
        refine Exists.intro b (And.intro rfl (And.intro kb (And.intro (fun e2 => rq0 (no ?_)) fun e2 => ?_)))
        · rintro u v h
          injection h with h
          injection h with h1 h2
          injection h2 with h2 h3
          subst h2
          cases e2
        · have e2 : isI b = true := by cases h : isI b <;> first | rfl | (rw [h] at e2; cases e2)
          obtain ⟨y, rfl⟩ := isI_of e2
          have ef : isFr (.tup [.int x, .int y]) = (decide (y > 0) && decide (((Nat.gcd x.natAbs y.natAbs : Nat) : Int) = 1)) := rfl
          rw [ef] at q
          exact And.intro (fun e3 => rq0 (by rw [e3] at q; exact q)) fun e3 => rq0 (by rw [e3] at q; exact q)
end
/-! ### breaks_of -/
abbrev s_breaks_of : Stmt := topS 17
theorem sc_breaks_of : FnScope ["arrivals", "flow", "bucket", "numbers", "found", "place", "i", "length", "j", "number", "packet"] ["arrivals", "flow", "bucket"] (defScope s_breaks_of) := ⟨rfl, rfl, rfl, by decide +kernel, rfl, by decide +kernel, by decide +kernel⟩
def sp_breaks_of : SpD := fun ds hd Q _ => ∃ (ps : List P3) (f b t m : Int), ds = [tP ps, .int f, bkD b t m] ∧ ps.length ≤ 1000 ∧ (0 < t ∧ t ≤ 1000000000) ∧ (0 < m ∧ m ≤ 1000000000) ∧ ∀ a h, Sub hd h → h a = some (.lst ((brk ps f b t m).map s2)) → Q (.ref a) h
section
variable {P : Program} {w : World} {K : PySem.W.Frag} {mg : Str → Option Value} {base : Heap}
theorem kn_breaks_of {f : Addr} {fd : FuncData} (F : Fun K "breaks_of" "breaks_of" s_breaks_of f fd) (m : mg "breaks_of" = some (.ref f)) {f_does_break : Addr} {fd_does_break : FuncData} (C_does_break : Kn P w K mg base "does_break" s_does_break 1 ["length", "time", "bucket"] sp_does_break f_does_break fd_does_break) (m_enumerate : mg "enumerate" = none) : Kn P w K mg base "breaks_of" s_breaks_of 2 ["arrivals", "flow", "bucket"] sp_breaks_of f fd := by
  refine ⟨F, fnD F sc_breaks_of (fun ds hd Q E h => ?_) (fun cdv A outer s H E ds hd Q Ed hr hq h => ?_), F.binds fun _ _ _ _ _ _ us hl => match us, hl with | [_, _, _], _ => rfl, m⟩
  · obtain ⟨ps, f, b, t, m, rfl, hp, ht, hm, q⟩ := h
    rfl
  · obtain ⟨ps, f, b, t, m, rfl, hp, ht, hm, q⟩ := h
    refine ⟨_, (pssd_cons (psd_setLc (i := 3) rfl sc_breaks_of.nd rfl rfl (sw_true rfl rfl rfl (by decide +kernel)) (pid_enum (by rfl) m_enumerate (pd_var (pv 0))) (blkOk_by (N := ["arrivals", "flow", "bucket", "numbers", "found", "place", "i", "length", "j", "number", "packet"]) (sc := defScope s_breaks_of) (own := [("number", 9), ("packet", 10)]) (by decide +kernel)) (fun _ _ _ _ _ => (pgo_tup (n := 2) rfl (pgso_cons (pgo_name (pg_name (i := 9) sc_breaks_of.nd rfl (by first | exact .inl rfl | exact .inr rfl)) (by decide)) (pgso_cons (pgo_name (pg_name (i := 10) sc_breaks_of.nd rfl (by first | exact .inl rfl | exact .inr rfl)) (by decide)) pgso_nil)))) (fun _ _ _ _ _ => (ptsd_one (ptd_cmp (op_eqD' (room_64 hr)) (nomark _) (pd_ix (pd_var (pv 10)) pd_int (fun _ _ => rfl)) (pd_var (pv 1))))) (fun _ _ _ _ _ => (pd_var (pv 9))))
      (pssd_cons (psd_set (ps_set (i := 4) sc_breaks_of.nd rfl (by first | exact .inl rfl | exact .inr rfl) pe_w) (pd_lst pad_nil))
      (pssd_cons (psd_for PassesOwn.never rfl (pid_enum (by rfl) m_enumerate (pd_var (pv 3))) (pgd_tup (n := 2) rfl (pgsd_cons (pgd_name (pg_name (i := 5) sc_breaks_of.nd rfl (by first | exact .inl rfl | exact .inr rfl))) (pgsd_cons (pgd_name (pg_name (i := 6) sc_breaks_of.nd rfl (by first | exact .inl rfl | exact .inr rfl))) pgsd_nil))) (pssd_cons (psd_set (ps_set (i := 7) sc_breaks_of.nd rfl (by first | exact .inl rfl | exact .inr rfl) pe_w) pd_int)
      (pssd_one (psd_for PassesOwn.never rfl (pid_seq (pd_slice (pd_var (pv 3)) (pod_some (pd_var (pv 5))) pod_none)) (pgd_name (pg_name (i := 8) sc_breaks_of.nd rfl (by first | exact .inl rfl | exact .inr rfl))) (pssd_cons (psd_aug (ps_aug (i := 7) sc_breaks_of.nd rfl (by first | exact .inl rfl | exact .inr rfl) pe_w ip_u) (pd_ix (pd_ix (pd_var (pv 0)) (pd_var (pv 8)) (fun _ _ => rfl)) pd_int (fun _ _ => rfl)) op_iaddD)
      (pssd_one (psd_if (ptd_truth (pk_call C_does_break hr hq (pad_cons (pd_var (pv 7)) (pad_cons (pd_op op_subD (pd_ix (pd_ix (pd_var (pv 0)) (pd_var (pv 8)) (fun _ _ => rfl)) pd_int (fun _ _ => rfl)) (pd_ix (pd_ix (pd_var (pv 0)) (pd_var (pv 6)) (fun _ _ => rfl)) pd_int (fun _ _ => rfl))) (pad_cons (pd_var (pv 2)) pad_nil))))) (pssd_one (psd_expr (pd_lm (pe_bm PySem.F.plainAttrs_list PySem.F.slot_list_append PySem.F.type_list_append mt_u pe_w pa_w) mt_appD (pd_var (pv 4)) (pad_cons (pd_tup (pad_cons (pd_var (pv 6)) (pad_cons (pd_var (pv 8)) pad_nil))) pad_nil)))) pssd_nil)))))))
      (pssd_one (psd_ret (pd_var (pv 4))))))), ?_⟩
    have hz : (enumS ⟨ps.map pk, fun _ => True⟩).items.length ≤ sizeLine := by
      show ((ps.map pk).zipIdx.map fun p => D.tup [.int (p.2 : Nat), p.1]).length ≤ sizeLine
      rw [List.length_map, List.length_zipIdx, List.length_map]
      exact small_size (by omega)
    have hnl := nums_len ps f
    refine lc_do (S := enumS ⟨ps.map pk, fun _ => True⟩) (numF f) (fun _ _ => trivial) hz (fun i x h k hi sb kk => ?_) (fun aN hN => ?_)
    · obtain ⟨p, rfl, hp⟩ := enum_pk hi
      have kk := kk h .refl
      refine And.intro rfl (And.intro (fun e => ?_) fun e => ?_)
      · have e : p.2.1 = f := of_decide_eq_true e
        rw [show numF f (.tup [.int (i : Nat), pk p]) = some (.int (i : Nat)) from if_pos e] at kk
        exact kk
      · have e : ¬ p.2.1 = f := of_decide_eq_false e
        rw [show numF f (.tup [.int (i : Nat), pk p]) = none from if_neg e] at kk
        exact kk
    refine And.intro szl fun aF hF => ?_
    have eN0 : put hd aN (.lst ((enumS ⟨ps.map pk, fun _ => True⟩).items.filterMap (numF f))) aN = some (.lst ((nums ps f).map fun (n : Nat) => D.int (n : Int))) := by rw [put_same, nums_list]
    have nNF : aN ≠ aF := ne_fresh eN0 hF
    have eN := (put_ne (o := .lst []) nNF).trans eN0
    have s0 : Sub hd (put (put hd aN (.lst ((enumS ⟨ps.map pk, fun _ => True⟩).items.filterMap (numF f)))) aF (.lst [])) := (Sub.new hN).trans (.new hF)
    have hFd : hd aF = none := by
      cases e : hd aF with
      | none => rfl
      | some o => rw [Sub.new hN aF o e] at hF; cases hF
    refine seq_l eN ?_
    refine Exists.intro (fun i e h => ∃ (done : List S2) (o5 o6 o7 o8 : Option D), e = [some (tP ps), some (.int f), some (bkD b t m), some (.ref aN), some (.ref aF), o5, o6, o7, o8, none, none] ∧ Sub hd h ∧ h aN = some (.lst ((nums ps f).map fun (n : Nat) => D.int (n : Int))) ∧ h aF = some (.lst (done.map s2)) ∧ done ++ outerB ps b t m ((nums ps f).drop i) = brk ps f b t m ∧ done.length ≤ 1000 * i)
      (And.intro ⟨[], _, _, _, _, rfl, s0, eN, put_same, rfl, Nat.zero_le _⟩ (And.intro ?_ (And.intro ?_ ?_)))
    · rintro i e h _ ⟨done, o5, o6, o7, o8, rfl, sb, eN, eF, ed, hl⟩
      exact eN
    rotate_left
    · rintro e h ⟨done, o5, o6, o7, o8, rfl, sb, eN, eF, ed, hl⟩
      have hlen : (enumS ⟨(nums ps f).map fun (n : Nat) => D.int (n : Int), fun h' => h' aN = some (.lst ((nums ps f).map fun (n : Nat) => D.int (n : Int)))⟩).items.length = (nums ps f).length := by
        show (((nums ps f).map fun (n : Nat) => D.int (n : Int)).zipIdx.map fun p => D.tup [.int (p.2 : Nat), p.1]).length = _
        rw [List.length_map, List.length_zipIdx, List.length_map]
      rw [hlen, List.drop_length] at ed
      rw [show outerB ps b t m [] = [] from rfl, List.append_nil] at ed
      rw [ed] at eF
      exact rq0 (q aF h sb eF)
    rintro i d e h hi ⟨done, o5, o6, o7, o8, rfl, sb, eN, eF, ed, hl⟩
    obtain ⟨n, rfl, hn⟩ := enum_nums hi
    have hil : i < (nums ps f).length := (List.getElem?_eq_some_iff.mp hn).1
    obtain ⟨pn, hpn, _⟩ := nums_lt (mem_at hn)
    refine And.intro rfl ?_
    refine Exists.intro _ (And.intro eN fun aS hS => seq_l put_same ?_)
    have ecut : cutD ((nums ps f).map fun (n : Nat) => D.int (n : Int)) (some (i : Int)) none = ((nums ps f).drop i).map fun (n : Nat) => D.int (n : Int) := by rw [cut_drop, List.map_drop]
    have edrop : (nums ps f).drop i = n :: (nums ps f).drop (i + 1) := drop_at hn
    have nNS : aN ≠ aS := ne_fresh eN hS
    have nFS : aF ≠ aS := ne_fresh eF hS
    refine Exists.intro (fun k e h => ∃ (l : Int) (done : List S2) (o8 : Option D), e = [some (tP ps), some (.int f), some (bkD b t m), some (.ref aN), some (.ref aF), some (.int (i : Nat)), some (.int (n : Nat)), some (.int l), o8, none, none] ∧ Sub hd h ∧ h aN = some (.lst ((nums ps f).map fun (n : Nat) => D.int (n : Int))) ∧ h aF = some (.lst (done.map s2)) ∧ h aS = some (.lst (cutD ((nums ps f).map fun (n : Nat) => D.int (n : Int)) (some (i : Int)) none)) ∧ done ++ (innerB ps b t m n l (((nums ps f).drop i).drop k) ++ outerB ps b t m ((nums ps f).drop (i + 1))) = brk ps f b t m ∧ done.length ≤ 1000 * i + k)
      (And.intro ⟨0, done, _, rfl, sb.trans (.new hS), (put_ne nNS).trans eN, (put_ne nFS).trans eF, put_same, ?_, hl⟩ (And.intro ?_ (And.intro ?_ ?_)))
    · rw [edrop] at ed ⊢
      exact ed
    · rintro k e h _ ⟨l, done, o8, rfl, sb, eN, eF, eS, ed, hl⟩
      exact eS
    rotate_left
    · rintro e h ⟨l, done, o8, rfl, sb, eN, eF, eS, ed, hl⟩
      have hlen : (cutD ((nums ps f).map fun (n : Nat) => D.int (n : Int)) (some (i : Int)) none).length = ((nums ps f).drop i).length := by rw [ecut, List.length_map]
      have hl : done.length ≤ 1000 * i + (cutD ((nums ps f).map fun (n : Nat) => D.int (n : Int)) (some (i : Int)) none).length := hl
      have ed : done ++ (innerB ps b t m n l (((nums ps f).drop i).drop (cutD ((nums ps f).map fun (n : Nat) => D.int (n : Int)) (some (i : Int)) none).length) ++ outerB ps b t m ((nums ps f).drop (i + 1))) = brk ps f b t m := ed
      rw [hlen, List.drop_length] at ed
      rw [hlen, List.length_drop] at hl
      exact Exists.intro h (And.intro .refl ⟨done, _, _, _, _, rfl, sb, eN, eF, ed, by omega⟩)
    rintro k d e h hk ⟨l, done, o8, rfl, sb, eN, eF, eS, ed, hl⟩
    have hk : (cutD ((nums ps f).map fun (n : Nat) => D.int (n : Int)) (some (i : Int)) none)[k]? = some d := hk
    rw [ecut] at hk
    obtain ⟨j, rfl, hj⟩ := nums_at hk
    obtain ⟨pj, hpj, _⟩ := nums_lt (List.mem_of_mem_drop (mem_at hj))
    have hkl : k < ((nums ps f).drop i).length := (List.getElem?_eq_some_iff.mp hj).1
    rw [List.length_drop] at hkl
    rw [drop_at hj] at ed
    have ei : innerB ps b t m n l (j :: ((nums ps f).drop i).drop (k + 1)) = (if (l + lenAt ps j - b) * m > t * (momAt ps j - momAt ps n) then [((n : Int), (j : Int))] else []) ++ innerB ps b t m n (l + lenAt ps j) (((nums ps f).drop i).drop (k + 1)) := rfl
    rw [ei, lenAt_is hpj, momAt_is hpj, momAt_is hpn] at ed
    conv => whnf
    rw [at_pk hpj]
    conv => whnf
    rw [at_pk hpj]
    conv => whnf
    rw [at_pk hpn]
    refine Exists.intro _ (Exists.intro _ (Exists.intro b (Exists.intro t (Exists.intro m (And.intro rfl (And.intro ht (And.intro hm (And.intro (fun c => ?_) fun c => ?_))))))))
    · have c : (l + pj.2.2 - b) * m > t * (pj.1 - pn.1) := of_decide_eq_true c
      rw [if_pos c] at ed
      refine And.intro (Exists.intro _ (Exists.intro _ (And.intro rfl eF))) (And.intro szl (Exists.intro _ (And.intro eF (And.intro (small_size (by rw [List.length_map]; omega)) ?_))))
      have nSF : aS ≠ aF := Ne.symm nFS
      refine Exists.intro _ (And.intro .refl ⟨_, done ++ [((n : Int), (j : Int))], _, rfl, sb.own hFd, (put_ne nNF).trans eN, ?_, (put_ne nSF).trans eS, ?_, ?_⟩)
      · rw [put_same, List.map_append]; rfl
      · rw [← ed, List.append_assoc, List.append_assoc]
      · rw [List.length_append, List.length_cons, List.length_nil]; omega
    · have c : ¬ (l + pj.2.2 - b) * m > t * (pj.1 - pn.1) := of_decide_eq_false c
      rw [if_neg c, List.nil_append] at ed
      exact Exists.intro _ (And.intro .refl ⟨_, done, _, rfl, sb, eN, eF, eS, ed, by omega⟩)
end
/-! ### _law_pick -/
abbrev s__law_pick : Stmt := topS 24
theorem sc__law_pick : FnScope ["deck", "some"] ["deck", "some"] (defScope s__law_pick) := ⟨rfl, rfl, rfl, by decide +kernel, rfl, by decide +kernel, by decide +kernel⟩
def sp__law_pick : SpD := fun ds hd Q _ => ∃ (p r : Addr) (y : D) (xs : List D), ds = [.ref p, y] ∧ Dk fam hd p r ∧ (0 < xs.length ∧ xs.length ≤ 1000) ∧ (y = .tup xs ∨ ∃ a, y = .ref a ∧ a ≠ p ∧ a ≠ r ∧ hd a = some (.lst xs)) ∧ ∀ x h', x ∈ xs → Dk fam h' p r → Kp p r hd h' → Q x h'
theorem pick_l {hd : HpD} {p r : Addr} {xs : List D} {Q : QD} (hD : Dk fam hd p r) (h0 : 0 < xs.length ∧ xs.length ≤ 1000) (q : ∀ x h', x ∈ xs → Dk fam h' p r → Kp p r hd h' → Q x h') : ∀ a, hd a = none → sp__law_pick [.ref p, .ref a] (put hd a (.lst xs)) Q noX :=
  fun a ha => ⟨p, r, .ref a, xs, rfl, hD.new ha, h0, .inr ⟨a, rfl, (hD.off ha).1, (hD.off ha).2, put_same⟩, fun x h' hx hD' hk => q x h' hx hD' ((Kp.refl.new ha).trans hk)⟩
section
variable {P : Program} {w : World} {K : PySem.W.Frag} {mg : Str → Option Value} {base : Heap}
theorem kn__law_pick {f : Addr} {fd : FuncData} (F : Fun K "_law_pick" "_law_pick" s__law_pick f fd) (m : mg "_law_pick" = some (.ref f)) {f__law_draw : Addr} {fd__law_draw : FuncData} (C__law_draw : Kn P w K mg base "_law_draw" s__law_draw 1 ["deck", "many"] sp__law_draw f__law_draw fd__law_draw) (m_len : mg "len" = none) : Kn P w K mg base "_law_pick" s__law_pick 2 ["deck", "some"] sp__law_pick f fd := by
  refine ⟨F, fnD F sc__law_pick (fun ds hd Q E h => ?_) (fun cdv A outer s H E ds hd Q Ed hr hq h => ?_), F.binds fun _ _ _ _ _ _ us hl => match us, hl with | [_, _], _ => rfl, m⟩
  · obtain ⟨p, r, y, xs, rfl, hD, h0, hy, q⟩ := h
    rfl
  · obtain ⟨p, r, y, xs, rfl, hD, h0, hy, q⟩ := h
    refine ⟨_, (pssd_one (psd_ret (pd_ix (pd_var (pv 1)) (pk_call C__law_draw hr hq (pad_cons (pd_var (pv 0)) (pad_cons (pd_callB call_lenDD (by rfl) m_len bt_len (pad_cons (pd_var (pv 1)) pad_nil)) pad_nil))) (fun _ _ => rfl)))), ?_⟩
    have fin : ∀ (v : Int) (h' : HpD), 0 ≤ v → v < xs.length → Dk fam h' p r → Kp p r hd h' → ∃ x, atI xs v = some x ∧ RQ Q x h' := fun v h' h1 h2 hD' hk => by
      obtain ⟨n, rfl⟩ : ∃ n : Nat, v = n := ⟨v.toNat, by omega⟩
      have hn : n < xs.length := by omega
      exact ⟨xs[n], atI_nat (List.getElem?_eq_getElem hn), rq0 (q _ h' (List.getElem_mem hn) hD' hk)⟩
    rcases hy with rfl | ⟨a, rfl, n1, n2, ha⟩
    · refine Exists.intro p (Exists.intro r (Exists.intro (xs.length : Int) (And.intro rfl (And.intro hD (And.intro ⟨by omega, by omega⟩ fun v h' hv hv2 hD' hk => ?_)))))
      obtain ⟨x, e, f⟩ := fin v h' hv hv2 hD' hk
      conv => whnf
      rw [e]
      exact f
    · refine Exists.intro xs (And.intro ha (Exists.intro p (Exists.intro r (Exists.intro (xs.length : Int) (And.intro rfl (And.intro hD (And.intro ⟨by omega, by omega⟩ fun v h' hv hv2 hD' hk => ?_)))))))
      obtain ⟨x, e, f⟩ := fin v h' hv hv2 hD' hk
      refine Exists.intro xs (And.intro (hk _ _ n1 n2 ha) ?_)
      conv => whnf
      rw [e]
      exact f
end
/-! ### _law_fraction -/
abbrev s__law_fraction : Stmt := topS 26
theorem sc__law_fraction : FnScope ["top", "bottom", "common"] ["top", "bottom"] (defScope s__law_fraction) := ⟨rfl, rfl, rfl, by decide +kernel, rfl, by decide +kernel, by decide +kernel⟩
def sp__law_fraction : SpD := fun ds hd Q _ => ∃ t b : Int, ds = [.int t, .int b] ∧ (0 < b ∧ b < 2 ^ 9000) ∧ Q (fr t b) hd
section
variable {P : Program} {w : World} {K : PySem.W.Frag} {mg : Str → Option Value} {base : Heap}
theorem kn__law_fraction {f : Addr} {fd : FuncData} (F : Fun K "_law_fraction" "_law_fraction" s__law_fraction f fd) (m : mg "_law_fraction" = some (.ref f)) {f__law_common : Addr} {fd__law_common : FuncData} (C__law_common : Kn P w K mg base "_law_common" s__law_common 1 ["one", "other"] sp__law_common f__law_common fd__law_common) : Kn P w K mg base "_law_fraction" s__law_fraction 2 ["top", "bottom"] sp__law_fraction f fd := by
  refine ⟨F, fnD F sc__law_fraction (fun ds hd Q E h => ?_) (fun cdv A outer s H E ds hd Q Ed hr hq h => ?_), F.binds fun _ _ _ _ _ _ us hl => match us, hl with | [_, _], _ => rfl, m⟩
  · obtain ⟨t, b, rfl, hb, q⟩ := h
    rfl
  · obtain ⟨t, b, rfl, hb, q⟩ := h
    refine ⟨_, (pssd_cons (psd_set (ps_set (i := 2) sc__law_fraction.nd rfl (by first | exact .inl rfl | exact .inr rfl) pe_w) (pd_ifM (ptd_cmp op_gtD (nomark _) (pd_var (pv 1)) pd_int) (pk_call C__law_common hr hq (pad_cons (pd_var (pv 0)) (pad_cons (pd_var (pv 1)) pad_nil))) (pd_neg (pk_call C__law_common hr hq (pad_cons (pd_var (pv 0)) (pad_cons (pd_var (pv 1)) pad_nil))))))
      (pssd_one (psd_ret (pd_tup (pad_cons (pd_op op_fdivD (pd_var (pv 0)) (pd_var (pv 2))) (pad_cons (pd_op op_fdivD (pd_var (pv 1)) (pd_var (pv 2))) pad_nil)))))), ?_⟩
    have hg := gcd_ok t hb
    refine Exists.intro (fun x h => x = .int ((Nat.gcd t.natAbs b.natAbs : Nat) : Int) ∧ h = hd) (And.intro ?_ fun N hN => ?_)
    · rintro x h ⟨rfl, rfl⟩
      exact And.intro hg (And.intro hg (And.intro szl (rq0 q)))
    · exact And.intro (fun _ => Exists.intro t (Exists.intro b (And.intro rfl (hN _ _ ⟨rfl, rfl⟩)))) fun e => absurd hb.1 (of_decide_eq_false e)
end
/-! ### is_packet -/
abbrev s_is_packet : Stmt := topS 11
theorem sc_is_packet : FnScope ["thing"] ["thing"] (defScope s_is_packet) := ⟨rfl, rfl, rfl, by decide +kernel, rfl, by decide +kernel, by decide +kernel⟩
def sp_is_packet : SpD := fun ds hd Q _ => ∃ d : D, ds = [d] ∧ knownD hd d = true ∧ Q (.bl (isPk d)) hd
section
variable {P : Program} {w : World} {K : PySem.W.Frag} {mg : Str → Option Value} {base : Heap}
theorem kn_is_packet {f : Addr} {fd : FuncData} (F : Fun K "is_packet" "is_packet" s_is_packet f fd) (m : mg "is_packet" = some (.ref f)) {f_is_from : Addr} {fd_is_from : FuncData} (C_is_from : Kn P w K mg base "is_from" s_is_from 2 ["thing", "least"] sp_is_from f_is_from fd_is_from) {f_is_tuple : Addr} {fd_is_tuple : FuncData} (C_is_tuple : Kn P w K mg base "is_tuple" s_is_tuple 1 ["thing", "length"] sp_is_tuple f_is_tuple fd_is_tuple) : Kn P w K mg base "is_packet" s_is_packet 3 ["thing"] sp_is_packet f fd := by
  refine ⟨F, fnD F sc_is_packet (fun ds hd Q E h => ?_) (fun cdv A outer s H E ds hd Q Ed hr hq h => ?_), F.binds fun _ _ _ _ _ _ us hl => match us, hl with | [_], _ => rfl, m⟩
  · obtain ⟨d, rfl, hk, q⟩ := h
    rfl
  · obtain ⟨d, rfl, hk, q⟩ := h
    refine ⟨_, (pssd_one (psd_ret (pd_and (pk_call C_is_tuple hr hq (pad_cons (pd_var (pv 0)) (pad_cons pd_int pad_nil))) (pd_and (pk_call C_is_from hr hq (pad_cons (pd_ix (pd_var (pv 0)) pd_int (fun _ _ => rfl)) (pad_cons pd_int pad_nil))) (pd_and (pk_call C_is_from hr hq (pad_cons (pd_ix (pd_var (pv 0)) pd_int (fun _ _ => rfl)) (pad_cons pd_int pad_nil))) (pd_one (pk_call C_is_from hr hq (pad_cons (pd_ix (pd_var (pv 0)) pd_int (fun _ _ => rfl)) (pad_cons pd_int pad_nil))))))))), ?_⟩
    refine Exists.intro d (Exists.intro 3 (And.intro rfl (And.intro hk (And.intro (fun e => ?_) fun e => rq0 ?_))))
    · obtain ⟨es, rfl, hl⟩ := isTn_of e
      obtain ⟨a, b, c, rfl⟩ := len3 hl
      obtain ⟨_, hm⟩ := known_tup hk
      have ka := hm a (by simp); have kb := hm b (by simp); have kc := hm c (by simp)
      have eq : isPk (.tup [a, b, c]) = (isF 0 a && isF 0 b && isF 1 c) := rfl
      rw [eq] at q
      refine Exists.intro a (Exists.intro 0 (And.intro rfl (And.intro ka (And.intro (fun e1 => ?_) fun e1 => rq0 (by rw [e1] at q; exact q)))))
      refine Exists.intro b (Exists.intro 0 (And.intro rfl (And.intro kb (And.intro (fun e2 => ?_) fun e2 => rq0 (by rw [e1, e2] at q; exact q)))))
      exact Exists.intro c (Exists.intro 1 (And.intro rfl (And.intro kc (rq0 (by rw [e1, e2] at q; exact q)))))
    · have : isPk d = false := by
        unfold isPk
        split
        · cases e
        · rfl
      rw [this] at q
      exact q
end
/-! ### is_bucket -/
abbrev s_is_bucket : Stmt := topS 14
theorem sc_is_bucket : FnScope ["thing"] ["thing"] (defScope s_is_bucket) := ⟨rfl, rfl, rfl, by decide +kernel, rfl, by decide +kernel, by decide +kernel⟩
def sp_is_bucket : SpD := fun ds hd Q _ => ∃ d : D, ds = [d] ∧ knownD hd d = true ∧ Q (.bl (isBk d)) hd
section
variable {P : Program} {w : World} {K : PySem.W.Frag} {mg : Str → Option Value} {base : Heap}
theorem kn_is_bucket {f : Addr} {fd : FuncData} (F : Fun K "is_bucket" "is_bucket" s_is_bucket f fd) (m : mg "is_bucket" = some (.ref f)) {f_is_fraction : Addr} {fd_is_fraction : FuncData} (C_is_fraction : Kn P w K mg base "is_fraction" s_is_fraction 2 ["thing"] sp_is_fraction f_is_fraction fd_is_fraction) {f_is_from : Addr} {fd_is_from : FuncData} (C_is_from : Kn P w K mg base "is_from" s_is_from 2 ["thing", "least"] sp_is_from f_is_from fd_is_from) {f_is_tuple : Addr} {fd_is_tuple : FuncData} (C_is_tuple : Kn P w K mg base "is_tuple" s_is_tuple 1 ["thing", "length"] sp_is_tuple f_is_tuple fd_is_tuple) : Kn P w K mg base "is_bucket" s_is_bucket 3 ["thing"] sp_is_bucket f fd := by
  refine ⟨F, fnD F sc_is_bucket (fun ds hd Q E h => ?_) (fun cdv A outer s H E ds hd Q Ed hr hq h => ?_), F.binds fun _ _ _ _ _ _ us hl => match us, hl with | [_], _ => rfl, m⟩
  · obtain ⟨d, rfl, hk, q⟩ := h
    rfl
  · obtain ⟨d, rfl, hk, q⟩ := h
    refine ⟨_, (pssd_one (psd_ret (pd_and (pk_call C_is_tuple hr hq (pad_cons (pd_var (pv 0)) (pad_cons pd_int pad_nil))) (pd_and (pk_call C_is_from hr hq (pad_cons (pd_ix (pd_var (pv 0)) pd_int (fun _ _ => rfl)) (pad_cons pd_int pad_nil))) (pd_and (pk_call C_is_fraction hr hq (pad_cons (pd_ix (pd_var (pv 0)) pd_int (fun _ _ => rfl)) pad_nil)) (pd_one (pd_cmp op_gtD (nomark _) (pd_ix (pd_ix (pd_var (pv 0)) pd_int (fun _ _ => rfl)) pd_int (fun _ _ => rfl)) pd_int))))))), ?_⟩
    have no : (∀ (b : D) (t m : Int), isF 1 b = true → isFr (.tup [.int t, .int m]) = true → t > 0 → d ≠ .tup [b, .tup [.int t, .int m]]) → Q (.bl false) hd := fun hn => by
      have : isBk d = false := by
        unfold isBk
        split
        · rename_i b t m
          cases h1 : isF 1 b with
          | false => rfl
          | true =>
            cases h2 : isFr (.tup [.int t, .int m]) with
            | false => rfl
            | true =>
              by_cases h3 : t > 0
              · exact absurd rfl (hn b t m h1 h2 h3)
              · rw [decide_eq_false h3]; rfl
        · rfl
      rw [this] at q
      exact q
    refine Exists.intro d (Exists.intro 2 (And.intro rfl (And.intro hk (And.intro (fun e => ?_) fun e => rq0 (no ?_)))))
    · obtain ⟨es, rfl, hl⟩ := isTn_of e
      obtain ⟨a, r, rfl⟩ := len2 hl
      obtain ⟨_, hm⟩ := known_tup hk
      have ka := hm a (by simp); have kr := hm r (by simp)
      refine Exists.intro a (Exists.intro 1 (And.intro rfl (And.intro ka (And.intro (fun e1 => ?_) fun e1 => rq0 (no ?_)))))
      · refine Exists.intro r (And.intro rfl (And.intro kr (And.intro (fun e2 => ?_) fun e2 => rq0 (no ?_))))
        · obtain ⟨t, m, rfl, hm0, hg⟩ := isFr_of e2
          have ef : isBk (.tup [a, .tup [.int t, .int m]]) = (isF 1 a && (isFr (.tup [.int t, .int m]) && decide (t > 0))) := rfl
          rw [ef, e1, e2] at q
          exact rq0 q
        · rintro b t m _ hf _ h
          injection h with h
          injection h with h1 h2
          injection h2 with h2 h3
          subst h2
          rw [hf] at e2
          cases e2
      · rintro b t m hb _ _ h
        injection h with h
        injection h with h1 h2
        subst h1
        rw [hb] at e1
        cases e1
    · rintro b t m _ _ _ rfl
      cases e
end
/-! ### _law_arrivals -/
abbrev s__law_arrivals : Stmt := topS 27
theorem sc__law_arrivals : FnScope ["deck", "flows", "many", "found", "now", "way", "most", "go", "flow", "length", "turn"] ["deck", "flows", "many"] (defScope s__law_arrivals) := ⟨rfl, rfl, rfl, by decide +kernel, rfl, by decide +kernel, by decide +kernel⟩
def sp__law_arrivals : SpD := fun ds hd Q _ => ∃ (p r a : Addr) (fl : List Int) (many : Int), ds = [.ref p, .ref a, .int many] ∧ Dk fam hd p r ∧ a ≠ p ∧ a ≠ r ∧ hd a = some (.lst (fl.map .int)) ∧ (0 < fl.length ∧ fl.length ≤ 1000) ∧ (0 ≤ many ∧ many ≤ 31) ∧ ∀ ps h', CP fl many ps → Dk fam h' p r → Kp p r hd h' → Q (tP ps) h'
section
variable {P : Program} {w : World} {K : PySem.W.Frag} {mg : Str → Option Value} {base : Heap}
theorem kn__law_arrivals {f : Addr} {fd : FuncData} (F : Fun K "_law_arrivals" "_law_arrivals" s__law_arrivals f fd) (m : mg "_law_arrivals" = some (.ref f)) {f__law_pick : Addr} {fd__law_pick : FuncData} (C__law_pick : Kn P w K mg base "_law_pick" s__law_pick 2 ["deck", "some"] sp__law_pick f__law_pick fd__law_pick) {f__law_draw : Addr} {fd__law_draw : FuncData} (C__law_draw : Kn P w K mg base "_law_draw" s__law_draw 1 ["deck", "many"] sp__law_draw f__law_draw fd__law_draw) (m_tuple : mg "tuple" = none) (m_range : mg "range" = none) (m_len : mg "len" = none) : Kn P w K mg base "_law_arrivals" s__law_arrivals 3 ["deck", "flows", "many"] sp__law_arrivals f fd := by
  refine ⟨F, fnD F sc__law_arrivals (fun ds hd Q E h => ?_) (fun cdv A outer s H E ds hd Q Ed hr hq h => ?_), F.binds fun _ _ _ _ _ _ us hl => match us, hl with | [_, _, _], _ => rfl, m⟩
  · obtain ⟨p, r, a, fl, many, rfl, hD, hap, har, hfl, hl, hm, q⟩ := h
    rfl
  · obtain ⟨p, r, a, fl, many, rfl, hD, hap, har, hfl, hl, hm, q⟩ := h
    refine ⟨_, (pssd_cons (psd_par3 (i := 3) (j := 4) (l := 5) (ps_par3 rfl sc__law_arrivals.nd rfl rfl rfl (by decide) (by decide) (by decide) rfl rfl rfl pa_w (by rfl)) (pad_cons (pd_lst pad_nil) (pad_cons (pk_call C__law_pick hr hq (pad_cons (pd_var (pv 0)) (pad_cons (pd_lst (pad_cons pd_int (pad_cons pd_int (pad_cons pd_int (pad_cons pd_int pad_nil))))) pad_nil))) (pad_cons (pk_call C__law_draw hr hq (pad_cons (pd_var (pv 0)) (pad_cons pd_int pad_nil))) pad_nil))))
      (pssd_cons (psd_set (ps_set (i := 6) sc__law_arrivals.nd rfl (by first | exact .inl rfl | exact .inr rfl) pe_w) (pk_call C__law_pick hr hq (pad_cons (pd_var (pv 0)) (pad_cons (pd_lst (pad_cons pd_int (pad_cons pd_int (pad_cons pd_int (pad_cons pd_int (pad_cons pd_int pad_nil)))))) pad_nil))))
      (pssd_cons (psd_for PassesOwn.never rfl (pid_range1 (by rfl) m_range (pd_var (pv 2))) (pgd_name (pg_name (i := 7) sc__law_arrivals.nd rfl (by first | exact .inl rfl | exact .inr rfl))) (pssd_consM (psd_if (ptd_cmp op_gtD (nomark _) (pd_var (pv 5)) pd_int) (pssd_one (psd_set (ps_set (i := 4) sc__law_arrivals.nd rfl (by first | exact .inl rfl | exact .inr rfl) pe_w) (pd_op op_addD (pd_var (pv 4)) (pk_call C__law_pick hr hq (pad_cons (pd_var (pv 0)) (pad_cons (pd_lst (pad_cons pd_int (pad_cons pd_int (pad_cons pd_int (pad_cons (pk_call C__law_draw hr hq (pad_cons (pd_var (pv 0)) (pad_cons (pd_op op_addD (pd_op op_mulD pd_int (pd_var (pv 6))) pd_int) pad_nil))) (pad_cons (pd_ifM (ptd_cmp (op_ltD (room_0 hr)) (nomark _) (pd_var (pv 5)) pd_int) (pk_call C__law_draw hr hq (pad_cons (pd_var (pv 0)) (pad_cons pd_int pad_nil))) pd_int) pad_nil)))))) pad_nil)))))) pssd_nil)
      (pssd_cons (psd_set (ps_set (i := 8) sc__law_arrivals.nd rfl (by first | exact .inl rfl | exact .inr rfl) pe_w) (pk_call C__law_pick hr hq (pad_cons (pd_var (pv 0)) (pad_cons (pd_var (pv 1)) pad_nil))))
      (pssd_cons (psd_set (ps_set (i := 9) sc__law_arrivals.nd rfl (by first | exact .inl rfl | exact .inr rfl) pe_w) (pd_op op_addD pd_int (pk_call C__law_draw hr hq (pad_cons (pd_var (pv 0)) (pad_cons (pd_var (pv 6)) pad_nil)))))
      (pssd_one (psd_for PassesOwn.never rfl (pid_range1 (by rfl) m_range (pk_call C__law_pick hr hq (pad_cons (pd_var (pv 0)) (pad_cons (pd_lst (pad_cons pd_int (pad_cons pd_int (pad_cons pd_int (pad_cons pd_int pad_nil))))) pad_nil)))) (pgd_name (pg_name (i := 10) sc__law_arrivals.nd rfl (by first | exact .inl rfl | exact .inr rfl))) (pssd_one (psd_if (ptd_cmp (op_ltD (room_0 hr)) (nomark _) (pd_callB call_lenDD (by rfl) m_len bt_len (pad_cons (pd_var (pv 3)) pad_nil)) (pd_var (pv 2))) (pssd_one (psd_expr (pd_lm (pe_bm PySem.F.plainAttrs_list PySem.F.slot_list_append PySem.F.type_list_append mt_u pe_w pa_w) mt_appD (pd_var (pv 3)) (pad_cons (pd_tup (pad_cons (pd_var (pv 4)) (pad_cons (pd_var (pv 8)) (pad_cons (pd_var (pv 9)) pad_nil)))) pad_nil)))) pssd_nil))))))))
      (pssd_one (psd_ret (pd_callTy call_tupleD (by rfl) m_tuple bt_tuple (pad_cons (pd_var (pv 3)) pad_nil))))))), ?_⟩
    refine And.intro szl fun f hf => ?_
    have hfp := (hD.off hf).1
    have hfr := (hD.off hf).2
    have hfa : f ≠ a := fun e => by rw [e, hfl] at hf; cases hf
    have hD0 := hD.new (o := .lst []) hf
    have k0 : Kp p r hd (put hd f (.lst [])) := Kp.refl.new hf
    refine And.intro szl (pick_l hD0 ⟨by decide, by decide⟩ fun x h1 hx hD1 hk1 => ?_)
    obtain ⟨now, rfl, hn1, hn2⟩ := okI_mem (lo := 0) (hi := 3) (by decide) hx
    refine Exists.intro p (Exists.intro r (Exists.intro _ (And.intro rfl (And.intro hD1 (And.intro ⟨by decide, by decide⟩ fun way h2 hw1 hw2 hD2 hk2 => ?_)))))
    refine And.intro szl (pick_l hD2 ⟨by decide, by decide⟩ fun x h3 hx hD3 hk3 => ?_)
    obtain ⟨most, rfl, hmo1, hmo2⟩ := okI_mem (lo := 1) (hi := 60) (by decide) hx
    have stay : ∀ {h h' : HpD} {l : List D}, h f = some (.lst l) → Kp p r h h' → h' f = some (.lst l) := fun e k => k _ _ hfp hfr e
    have k13 := (hk1.trans hk2).trans hk3
    refine And.intro ⟨by omega, by omega⟩ ?_
    refine Exists.intro (fun i e h => ∃ (now : Int) (ps : List P3) (o7 o8 o9 o10 : Option D), e = [some (.ref p), some (.ref a), some (.int many), some (.ref f), some (.int now), some (.int way), some (.int most), o7, o8, o9, o10] ∧ Dk fam h p r ∧ Kp p r hd h ∧ h f = some (.lst (ps.map pk)) ∧ (0 ≤ now ∧ now ≤ 3 + 120 * i) ∧ CP fl many ps ∧ ∀ x ∈ ps, x.1 ≤ now)
      (And.intro ⟨now, [], _, _, _, _, rfl, hD3, k0.trans k13, stay put_same k13, ⟨by omega, by omega⟩, ⟨by simp; omega, by simp, List.Pairwise.nil⟩, by simp⟩ (And.intro (fun _ _ _ _ _ => trivial) (And.intro ?_ ?_)))
    rotate_left
    · rintro e h ⟨now, ps, o7, o8, o9, o10, rfl, dk, kp, ef, hnow, hps, hall⟩
      exact Exists.intro _ (And.intro ef (rq0 (q ps h hps dk kp)))
    rintro i d e h hi ⟨now, ps, o7, o8, o9, o10, rfl, dk, kp, ef, hnow, hps, hall⟩
    have hi' : i < many.toNat := by
      have := (List.getElem?_eq_some_iff.mp hi).1
      rw [List.length_map, List.length_range] at this
      exact this
    -- now
    refine Exists.intro (fun e h => ∃ (now : Int), e = [some (.ref p), some (.ref a), some (.int many), some (.ref f), some (.int now), some (.int way), some (.int most), some d, o8, o9, o10] ∧ Dk fam h p r ∧ Kp p r hd h ∧ h f = some (.lst (ps.map pk)) ∧ (0 ≤ now ∧ now ≤ 3 + 120 * ((i : Int) + 1)) ∧ ∀ x ∈ ps, x.1 ≤ now) (And.intro ?_ fun N hN => ?_)
    rotate_left
    · refine And.intro (fun _ => ?_) fun _ => hN _ _ ⟨now, rfl, dk, kp, ef, by omega, hall⟩
      refine And.intro (.inl (.inl ⟨by decide, by decide⟩)) ?_
      refine Exists.intro p (Exists.intro r (Exists.intro _ (And.intro rfl (And.intro dk (And.intro ⟨by omega, by omega⟩ fun v h4 hv1 hv2 hD4 hk4 => ?_)))))
      refine Exists.intro (fun x h' => ∃ w : Int, x = .int w ∧ 0 ≤ w ∧ w ≤ 120 ∧ Dk fam h' p r ∧ Kp p r h h') (And.intro ?_ fun N2 hN2 => ?_)
      · rintro x h5 ⟨w, rfl, hw1, hw2, hD5, hk5⟩
        refine And.intro szl (pick_l hD5 ⟨by simp, by simp⟩ fun x h6 hx hD6 hk6 => ?_)
        obtain ⟨y, rfl, hy1, hy2⟩ := okI_mem (lo := 0) (hi := 120) (by simp [okI]; omega) hx
        exact hN _ _ ⟨now + y, rfl, hD6, (kp.trans hk5).trans hk6, stay (stay ef hk5) hk6, ⟨by omega, by omega⟩, fun x hx => by have := hall x hx; omega⟩
      · refine And.intro (fun _ => ?_) fun _ => hN2 _ _ ⟨40, rfl, by decide, by decide, hD4, hk4⟩
        exact Exists.intro p (Exists.intro r (Exists.intro _ (And.intro rfl (And.intro hD4 (And.intro ⟨by decide, by decide⟩ fun w h5 hw1 hw2 hD5 hk5 => hN2 _ _ ⟨w, rfl, hw1, by omega, hD5, hk4.trans hk5⟩)))))
    clear hnow hall
    rintro e h ⟨now, rfl, dk, kp, ef, hnow, hall⟩
    -- flow, length
    refine Exists.intro p (Exists.intro r (Exists.intro (.ref a) (Exists.intro _ (And.intro rfl (And.intro dk (And.intro ⟨by rw [List.length_map]; exact hl.1, by rw [List.length_map]; exact hl.2⟩ (And.intro (.inr ⟨a, rfl, hap, har, kp _ _ hap har hfl⟩) fun x h4 hx hD4 hk4 => ?_)))))))
    obtain ⟨fw, hfw, rfl⟩ := List.mem_map.mp hx
    refine Exists.intro p (Exists.intro r (Exists.intro _ (And.intro rfl (And.intro hD4 (And.intro ⟨by omega, by omega⟩ fun ln h5 hl1 hl2 hD5 hk5 => ?_)))))
    refine And.intro szl (pick_l hD5 ⟨by decide, by decide⟩ fun x h6 hx hD6 hk6 => ?_)
    obtain ⟨tn, rfl, ht1, ht2⟩ := okI_mem (lo := 1) (hi := 3) (by decide) hx
    refine And.intro ⟨by omega, by omega⟩ ?_
    have kp6 := ((kp.trans hk4).trans hk5).trans hk6
    have ef6 := stay (stay (stay ef hk4) hk5) hk6
    refine Exists.intro (fun j e h => ∃ (ps : List P3) (o10 : Option D), e = [some (.ref p), some (.ref a), some (.int many), some (.ref f), some (.int now), some (.int way), some (.int most), some d, some (.int fw), some (.int (1 + ln)), o10] ∧ Dk fam h p r ∧ Kp p r hd h ∧ h f = some (.lst (ps.map pk)) ∧ CP fl many ps ∧ ∀ x ∈ ps, x.1 ≤ now)
      (And.intro ⟨ps, _, rfl, hD6, kp6, ef6, hps, hall⟩ (And.intro (fun _ _ _ _ _ => trivial) (And.intro ?_ ?_)))
    rotate_left
    · rintro e h ⟨ps, o10, rfl, dk, kp, ef, hps, hall⟩
      exact Exists.intro _ (And.intro .refl ⟨now, ps, _, _, _, _, rfl, dk, kp, ef, by omega, hps, hall⟩)
    clear hps hall ef ef6
    rintro j d2 e h hj ⟨ps, o10, rfl, dk, kp, ef, hps, hall⟩
    refine Exists.intro _ (And.intro ef (And.intro (fun c => ?_) fun c => Exists.intro _ (And.intro .refl ⟨ps, _, rfl, dk, kp, ef, hps, hall⟩)))
    have c : ((ps.map pk).length : Int) < many := of_decide_eq_true c
    rw [List.length_map] at c
    refine And.intro (Exists.intro _ (Exists.intro _ (And.intro rfl ef))) (And.intro szl (Exists.intro _ (And.intro ef (And.intro (small_size (by rw [List.length_map]; omega)) ?_))))
    refine Exists.intro _ (And.intro .refl ⟨ps ++ [(now, fw, 1 + ln)], _, rfl, dk.put hfp hfr, kp.own hf, ?_, ⟨?_, ?_, ?_⟩, ?_⟩)
    · rw [put_same, List.map_append]; rfl
    · rw [List.length_append, List.length_cons, List.length_nil]; omega
    · exact all_snoc hps.at_ ⟨hnow.1, by simp; omega, hfw, by simp; omega, by simp; omega⟩
    · rw [List.map_append]
      exact pair_snoc hps.asc fun x hx => by
        obtain ⟨y, hy, rfl⟩ := List.mem_map.mp hx
        exact hall y hy
    · exact all_snoc hall (Int.le_refl _)
end
/-! ### _law_rate -/
abbrev s__law_rate : Stmt := topS 28
theorem sc__law_rate : FnScope ["deck"] ["deck"] (defScope s__law_rate) := ⟨rfl, rfl, rfl, by decide +kernel, rfl, by decide +kernel, by decide +kernel⟩
def sp__law_rate : SpD := fun ds hd Q _ => ∃ (p r : Addr), ds = [.ref p] ∧ Dk fam hd p r ∧ ∀ (t b : Int) h', 1 ≤ t → t ≤ 100 → 1 ≤ b → b ≤ 100 → Nat.gcd t.natAbs b.natAbs = 1 → Dk fam h' p r → Kp p r hd h' → Q (.tup [.int t, .int b]) h'
section
variable {P : Program} {w : World} {K : PySem.W.Frag} {mg : Str → Option Value} {base : Heap}
theorem kn__law_rate {f : Addr} {fd : FuncData} (F : Fun K "_law_rate" "_law_rate" s__law_rate f fd) (m : mg "_law_rate" = some (.ref f)) {f__law_fraction : Addr} {fd__law_fraction : FuncData} (C__law_fraction : Kn P w K mg base "_law_fraction" s__law_fraction 2 ["top", "bottom"] sp__law_fraction f__law_fraction fd__law_fraction) {f__law_draw : Addr} {fd__law_draw : FuncData} (C__law_draw : Kn P w K mg base "_law_draw" s__law_draw 1 ["deck", "many"] sp__law_draw f__law_draw fd__law_draw) {f__law_pick : Addr} {fd__law_pick : FuncData} (C__law_pick : Kn P w K mg base "_law_pick" s__law_pick 2 ["deck", "some"] sp__law_pick f__law_pick fd__law_pick) : Kn P w K mg base "_law_rate" s__law_rate 3 ["deck"] sp__law_rate f fd := by
  refine ⟨F, fnD F sc__law_rate (fun ds hd Q E h => ?_) (fun cdv A outer s H E ds hd Q Ed hr hq h => ?_), F.binds fun _ _ _ _ _ _ us hl => match us, hl with | [_], _ => rfl, m⟩
  · obtain ⟨p, r, rfl, hD, q⟩ := h
    rfl
  · obtain ⟨p, r, rfl, hD, q⟩ := h
    refine ⟨_, (pssd_one (psd_ret (pk_call C__law_fraction hr hq (pad_cons (pd_op op_addD pd_int (pk_call C__law_draw hr hq (pad_cons (pd_var (pv 0)) (pad_cons (pk_call C__law_pick hr hq (pad_cons (pd_var (pv 0)) (pad_cons (pd_lst (pad_cons pd_int (pad_cons pd_int (pad_cons pd_int pad_nil)))) pad_nil))) pad_nil)))) (pad_cons (pd_op op_addD pd_int (pk_call C__law_draw hr hq (pad_cons (pd_var (pv 0)) (pad_cons (pk_call C__law_pick hr hq (pad_cons (pd_var (pv 0)) (pad_cons (pd_lst (pad_cons pd_int (pad_cons pd_int (pad_cons pd_int pad_nil)))) pad_nil))) pad_nil)))) pad_nil))))), ?_⟩
    refine And.intro szl (pick_l hD ⟨by decide, by decide⟩ fun x h1 hx hD1 hk1 => ?_)
    obtain ⟨a, rfl, ha1, ha2⟩ := okI_mem (lo := 1) (hi := 100) (by decide) hx
    refine Exists.intro p (Exists.intro r (Exists.intro _ (And.intro rfl (And.intro hD1 (And.intro ⟨by omega, by omega⟩ fun t h2 ht1 ht2 hD2 hk2 => ?_)))))
    refine And.intro szl (pick_l hD2 ⟨by decide, by decide⟩ fun x h3 hx hD3 hk3 => ?_)
    obtain ⟨c, rfl, hc1, hc2⟩ := okI_mem (lo := 1) (hi := 100) (by decide) hx
    refine Exists.intro p (Exists.intro r (Exists.intro _ (And.intro rfl (And.intro hD3 (And.intro ⟨by omega, by omega⟩ fun b h4 hb1 hb2 hD4 hk4 => ?_)))))
    refine Exists.intro (1 + t) (Exists.intro (1 + b) (And.intro rfl (And.intro ⟨by omega, pow9000 (by omega)⟩ (rq0 ?_))))
    obtain ⟨t', b', e, g1, g2, g3⟩ := fr_co (t := 1 + t) (b := 1 + b) (by omega) (by omega)
    rw [e]
    exact q t' b' h4 g1.1 (by omega) g2.1 (by omega) g3 hD4 (((hk1.trans hk2).trans hk3).trans hk4)
end
/-! ### are_arrivals -/
abbrev s_are_arrivals : Stmt := topS 12
theorem sc_are_arrivals : FnScope ["thing", "packet", "one", "other"] ["thing"] (defScope s_are_arrivals) := ⟨rfl, rfl, rfl, by decide +kernel, rfl, by decide +kernel, by decide +kernel⟩
def sp_are_arrivals : SpD := fun ds hd Q _ => ∃ d : D, ds = [d] ∧ knownD hd d = true ∧ Q (.bl (isArr d)) hd
section
variable {P : Program} {w : World} {K : PySem.W.Frag} {mg : Str → Option Value} {base : Heap}
theorem kn_are_arrivals {f : Addr} {fd : FuncData} (F : Fun K "are_arrivals" "are_arrivals" s_are_arrivals f fd) (m : mg "are_arrivals" = some (.ref f)) {f_is_packet : Addr} {fd_is_packet : FuncData} (C_is_packet : Kn P w K mg base "is_packet" s_is_packet 3 ["thing"] sp_is_packet f_is_packet fd_is_packet) (m_all : mg "all" = none) (m_zip : mg "zip" = none) (m_isinstance : mg "isinstance" = none) (m_tuple : mg "tuple" = none) : Kn P w K mg base "are_arrivals" s_are_arrivals 4 ["thing"] sp_are_arrivals f fd := by
  refine ⟨F, fnD F sc_are_arrivals (fun ds hd Q E h => ?_) (fun cdv A outer s H E ds hd Q Ed hr hq h => ?_), F.binds fun _ _ _ _ _ _ us hl => match us, hl with | [_], _ => rfl, m⟩
  · obtain ⟨d, rfl, hk, q⟩ := h
    rfl
  · obtain ⟨d, rfl, hk, q⟩ := h
    refine ⟨_, (pssd_cons (psd_if (pwd_or (ptd_not (ptd_truth (pd_callB (call_isiD kit_tup) (by rfl) m_isinstance bt_isinstance (pad_cons (pd_var (pv 0)) (pad_cons (pd_glob (pe_bltn (v := .ty "tuple") (by rfl) m_tuple bt_tuple rfl) (fun _ => rv_ty)) pad_nil))))) (pwd_or1 (ptd_not (ptd_truth (pd_callB (call_allD rfl) (by rfl) m_all bt_all (pad_cons (pd_lc rfl sc_are_arrivals.nd (pid_seq (pd_var (pv 0))) (blkOk_by (N := ["thing", "packet", "one", "other"]) (sc := defScope s_are_arrivals) (own := [("packet", 1)]) (by decide +kernel)) (fun _ _ _ _ _ => (pgo_name (pg_name (i := 1) sc_are_arrivals.nd rfl (by first | exact .inl rfl | exact .inr rfl)) (by decide))) (fun _ _ _ _ _ => ptsd_nil) (fun _ _ _ _ _ => (pk_call C_is_packet hr hq (pad_cons (pd_var (pv 1)) pad_nil)))) pad_nil)))))).pt (pssd_one (psd_ret pd_bl)) pssd_nil)
      (pssd_one (psd_ret (pd_callB (call_allD rfl) (by rfl) m_all bt_all (pad_cons (pd_lc rfl sc_are_arrivals.nd (pid_zip (by rfl) m_zip (pd_var (pv 0)) (pd_slice (pd_var (pv 0)) (pod_some pd_int) pod_none)) (blkOk_by (N := ["thing", "packet", "one", "other"]) (sc := defScope s_are_arrivals) (own := [("one", 2), ("other", 3)]) (by decide +kernel)) (fun _ _ _ _ _ => (pgo_tup (n := 2) rfl (pgso_cons (pgo_name (pg_name (i := 2) sc_are_arrivals.nd rfl (by first | exact .inl rfl | exact .inr rfl)) (by decide)) (pgso_cons (pgo_name (pg_name (i := 3) sc_are_arrivals.nd rfl (by first | exact .inl rfl | exact .inr rfl)) (by decide)) pgso_nil)))) (fun _ _ _ _ _ => ptsd_nil) (fun _ _ _ _ _ => (pd_cmp op_leD (nomark _) (pd_ix (pd_var (pv 2)) pd_int (fun _ _ => rfl)) (pd_ix (pd_var (pv 3)) pd_int (fun _ _ => rfl))))) pad_nil))))), ?_⟩
    refine And.intro rfl (And.intro (known_kind hk) ?_)
    refine And.intro (fun e => ?_) fun e => ?_
    · have : isArr d = false := by cases d <;> first | rfl | cases e
      rw [this] at q
      exact And.intro (fun _ => rq0 q) (fun z => nomatch z)
    · obtain ⟨es, rfl⟩ := isTup_of (d := d) (by cases h : isTupD d <;> first | rfl | (rw [h] at e; cases e))
      obtain ⟨hl, hm⟩ := known_tup hk
      refine lc_do (S := ⟨es, fun _ => True⟩) (h1 := hd) (fun x => some (.bl (isPk x))) (fun _ _ => trivial) (small_size hl) (fun i x h k hi sb kk => ?_) (fun p hp => ?_)
      · exact And.intro (fun _ => Exists.intro x (And.intro rfl (And.intro (known_sub sb (hm x (mem_at hi))) (kk h .refl)))) (fun z => nomatch z)
      · refine Exists.intro (es.map isPk) (And.intro ?_ ?_)
        · rw [put_same, filterMap_some, List.map_map]; rfl
        · have ea : (es.map isPk).all id = es.all isPk := by rw [List.all_map]; rfl
          rw [ea]
          have eq : isArr (.tup es) = (es.all isPk && ascD es) := rfl
          rw [eq] at q
          refine And.intro (fun e2 => rq1 (.new hp) ?_) fun e2 => ?_
          · have e3 : es.all isPk = false := by cases h : es.all isPk <;> first | rfl | (rw [h] at e2; cases e2)
            rw [e3] at q
            exact q
          · have e3 : es.all isPk = true := by cases h : es.all isPk <;> first | rfl | (rw [h] at e2; cases e2)
            rw [e3] at q
            have hz : (List.zipWith (fun x y => D.tup [x, y]) es (cutD es (some 1) none)).length ≤ sizeLine := by
              rw [List.length_zipWith]
              exact small_size (Nat.le_trans (Nat.min_le_left _ _) hl)
            refine lc_do (S := ⟨List.zipWith (fun x y => .tup [x, y]) es (cutD es (some 1) none), fun _ => True ∧ True⟩) (fun z => some (.bl (match z with | .tup [x, y] => decide (momD x ≤ momD y) | _ => false))) (fun _ _ => ⟨trivial, trivial⟩) hz (fun i z h k hi sb kk => ?_) (fun p2 hp2 => ?_)
            · have hi : (List.zipWith (fun x y => D.tup [x, y]) es (cutD es (some 1) none))[i]? = some z := hi
              rw [List.getElem?_zipWith, cut_tail] at hi
              obtain ⟨x, hx, hi⟩ : ∃ x, es[i]? = some x ∧ _ := by
                cases hx : es[i]? with
                | none => rw [hx] at hi; cases hi
                | some x => exact ⟨x, rfl, by rw [hx] at hi; exact hi⟩
              obtain ⟨y, hy, hi⟩ : ∃ y, es.tail[i]? = some y ∧ _ := by
                cases hy : es.tail[i]? with
                | none => rw [hy] at hi; cases hi
                | some y => exact ⟨y, rfl, by rw [hy] at hi; exact hi⟩
              cases hi
              obtain ⟨m1, f1, l1, rfl, _⟩ := isPk_of (List.all_eq_true.mp e3 x (mem_at hx))
              obtain ⟨m2, f2, l2, rfl, _⟩ := isPk_of (List.all_eq_true.mp e3 y (List.mem_of_mem_tail (mem_at hy)))
              exact And.intro rfl (And.intro (fun _ => kk h .refl) (fun z => nomatch z))
            · refine Exists.intro ((es.zip es.tail).map fun p => decide (momD p.1 ≤ momD p.2)) (And.intro ?_ (rq1 (.trans (.new hp) (.new hp2)) ?_))
              · rw [put_same, filterMap_some, cut_tail]
                show some (OD.lst _) = _
                congr 2
                rw [List.map_zipWith, List.map_map, List.zip, List.map_zipWith]
                rfl
              · rw [List.all_map]
                exact q
end
/-! ### need_bucket -/
abbrev s_need_bucket : Stmt := topS 15
theorem sc_need_bucket : FnScope ["arrivals", "flow", "bucket"] ["arrivals", "flow", "bucket"] (defScope s_need_bucket) := ⟨rfl, rfl, rfl, by decide +kernel, rfl, by decide +kernel, by decide +kernel⟩
def sp_need_bucket : SpD := fun ds hd Q _ => ∃ (a : D) (f : Int) (b : D), ds = [a, .int f, b] ∧ knownD hd a = true ∧ isArr a = true ∧ 0 ≤ f ∧ knownD hd b = true ∧ isBk b = true ∧ Q .non hd
section
variable {P : Program} {w : World} {K : PySem.W.Frag} {mg : Str → Option Value} {base : Heap}
theorem kn_need_bucket {f : Addr} {fd : FuncData} (F : Fun K "need_bucket" "need_bucket" s_need_bucket f fd) (m : mg "need_bucket" = some (.ref f)) {f_is_bucket : Addr} {fd_is_bucket : FuncData} (C_is_bucket : Kn P w K mg base "is_bucket" s_is_bucket 3 ["thing"] sp_is_bucket f_is_bucket fd_is_bucket) {f_is_from : Addr} {fd_is_from : FuncData} (C_is_from : Kn P w K mg base "is_from" s_is_from 2 ["thing", "least"] sp_is_from f_is_from fd_is_from) {f_are_arrivals : Addr} {fd_are_arrivals : FuncData} (C_are_arrivals : Kn P w K mg base "are_arrivals" s_are_arrivals 4 ["thing"] sp_are_arrivals f_are_arrivals fd_are_arrivals) : Kn P w K mg base "need_bucket" s_need_bucket 5 ["arrivals", "flow", "bucket"] sp_need_bucket f fd := by
  refine ⟨F, fnD F sc_need_bucket (fun ds hd Q E h => ?_) (fun cdv A outer s H E ds hd Q Ed hr hq h => ?_), F.binds fun _ _ _ _ _ _ us hl => match us, hl with | [_, _, _], _ => rfl, m⟩
  · obtain ⟨a, f, b, rfl, ka, ha, hf, kb, hb, q⟩ := h
    rfl
  · obtain ⟨a, f, b, rfl, ka, ha, hf, kb, hb, q⟩ := h
    refine ⟨_, (pssd_cons (psd_if (ptd_not (ptd_truth (pk_call C_are_arrivals hr hq (pad_cons (pd_var (pv 0)) pad_nil)))) (pssd_one psd_never) pssd_nil)
      (pssd_cons (psd_if (ptd_not (ptd_truth (pk_call C_is_from hr hq (pad_cons (pd_var (pv 1)) (pad_cons pd_int pad_nil))))) (pssd_one psd_never) pssd_nil)
      (pssd_one (psd_if (ptd_not (ptd_truth (pk_call C_is_bucket hr hq (pad_cons (pd_var (pv 2)) pad_nil)))) (pssd_one psd_never) pssd_nil)))), ?_⟩
    refine Exists.intro a (And.intro rfl (And.intro ka ?_))
    rw [ha]
    refine And.intro (fun z => nomatch z) fun _ => Exists.intro (.int f) (Exists.intro 0 (And.intro rfl (And.intro rfl ?_)))
    rw [show isF 0 (.int f) = true from decide_eq_true hf]
    refine And.intro (fun z => nomatch z) fun _ => Exists.intro b (And.intro rfl (And.intro kb ?_))
    rw [hb]
    exact And.intro (fun z => nomatch z) fun _ => rq0 q
end
/-! ### judge_bucket -/
abbrev s_judge_bucket : Stmt := topS 18
theorem sc_judge_bucket : FnScope ["arrivals", "flow", "bucket", "found"] ["arrivals", "flow", "bucket"] (defScope s_judge_bucket) := ⟨rfl, rfl, rfl, by decide +kernel, rfl, by decide +kernel, by decide +kernel⟩
def sp_judge_bucket : SpD := fun ds hd Q _ => ∃ (ps : List P3) (f b t m : Int), ds = [tP ps, .int f, bkD b t m] ∧ (isArr (tP ps) = true ∧ ps.length ≤ 1000) ∧ 0 ≤ f ∧ 1 ≤ b ∧ (0 < t ∧ t ≤ 1000000000) ∧ (0 < m ∧ m ≤ 1000000000) ∧ Nat.gcd t.natAbs m.natAbs = 1 ∧ ∀ h, Sub hd h → Q (jdgD (brk ps f b t m)) h
section
variable {P : Program} {w : World} {K : PySem.W.Frag} {mg : Str → Option Value} {base : Heap}
theorem kn_judge_bucket {f : Addr} {fd : FuncData} (F : Fun K "judge_bucket" "judge_bucket" s_judge_bucket f fd) (m : mg "judge_bucket" = some (.ref f)) {f_breaks_of : Addr} {fd_breaks_of : FuncData} (C_breaks_of : Kn P w K mg base "breaks_of" s_breaks_of 2 ["arrivals", "flow", "bucket"] sp_breaks_of f_breaks_of fd_breaks_of) {f_need_bucket : Addr} {fd_need_bucket : FuncData} (C_need_bucket : Kn P w K mg base "need_bucket" s_need_bucket 5 ["arrivals", "flow", "bucket"] sp_need_bucket f_need_bucket fd_need_bucket) : Kn P w K mg base "judge_bucket" s_judge_bucket 6 ["arrivals", "flow", "bucket"] sp_judge_bucket f fd := by
  refine ⟨F, fnD F sc_judge_bucket (fun ds hd Q E h => ?_) (fun cdv A outer s H E ds hd Q Ed hr hq h => ?_), F.binds fun _ _ _ _ _ _ us hl => match us, hl with | [_, _, _], _ => rfl, m⟩
  · obtain ⟨ps, f, b, t, m, rfl, hp, hf, hb, ht, hm, hg, q⟩ := h
    rfl
  · obtain ⟨ps, f, b, t, m, rfl, hp, hf, hb, ht, hm, hg, q⟩ := h
    refine ⟨_, (pssd_cons (psd_expr (pk_call C_need_bucket hr hq (pad_cons (pd_var (pv 0)) (pad_cons (pd_var (pv 1)) (pad_cons (pd_var (pv 2)) pad_nil)))))
      (pssd_cons (psd_set (ps_set (i := 3) sc_judge_bucket.nd rfl (by first | exact .inl rfl | exact .inr rfl) pe_w) (pk_call C_breaks_of hr hq (pad_cons (pd_var (pv 0)) (pad_cons (pd_var (pv 1)) (pad_cons (pd_var (pv 2)) pad_nil)))))
      (pssd_one (psd_ret (pd_ifM (ptd_cmp (op_eqD' (room_64 hr)) (nomark _) (pd_var (pv 3)) (pd_lst pad_nil)) (pd_tup (pad_cons pd_str pad_nil)) (pd_op op_addD (pd_tup (pad_cons pd_str pad_nil)) (pd_ix (pd_var (pv 3)) pd_int (fun _ _ => rfl)))))))), ?_⟩
    have hbk : isBk (bkD b t m) = true := by
      show (decide (b ≥ 1) && ((decide (m > 0) && decide (((Nat.gcd t.natAbs m.natAbs : Nat) : Int) = 1)) && decide (t > 0))) = true
      simp [hg]
      omega
    refine Exists.intro (tP ps) (Exists.intro f (Exists.intro (bkD b t m) (And.intro rfl (And.intro (known_tP hp.2) (And.intro hp.1 (And.intro hf (And.intro rfl (And.intro hbk ?_))))))))
    refine Exists.intro ps (Exists.intro f (Exists.intro b (Exists.intro t (Exists.intro m (And.intro rfl (And.intro hp.2 (And.intro ht (And.intro hm fun a h sb ea => ?_))))))))
    refine Exists.intro (fun x h' => x = jdgD (brk ps f b t m) ∧ Sub hd h') (And.intro ?_ fun N hN => ?_)
    · rintro x h' ⟨rfl, sb'⟩
      exact rq0 (q h' sb')
    refine And.intro szl fun p hp' => eq_nil_l ((put_ne (ne_fresh ea hp')).trans ea) put_same (nums_tS _) (deeps_tS _) ?_
    have ea' := (put_ne (o := .lst []) (ne_fresh ea hp')).trans ea
    have sb' := sb.trans (.new (o := .lst []) hp')
    cases hbr : brk ps f b t m with
    | nil =>
      rw [hbr] at hN
      exact And.intro (fun _ => And.intro szl (hN _ _ ⟨rfl, sb'⟩)) fun e => nomatch e
    | cons x r =>
      rw [hbr] at ea' hN
      refine And.intro (fun e => nomatch e) fun _ => And.intro szl (Exists.intro _ (And.intro ea' ?_))
      conv => whnf
      rw [show atI ((x :: r).map s2) 0 = some (s2 x) from atI_nat (j := 0) rfl]
      exact And.intro (small_size (Nat.le_of_ble_eq_true rfl)) (hN _ _ ⟨rfl, sb'⟩)
end
/-! ### shaped -/
abbrev s_shaped : Stmt := topS 20
theorem sc_shaped : FnScope ["arrivals", "flow", "bucket", "own", "found", "number", "moment", "other", "length", "packet"] ["arrivals", "flow", "bucket"] (defScope s_shaped) := ⟨rfl, rfl, rfl, by decide +kernel, rfl, by decide +kernel, by decide +kernel⟩
def sp_shaped : SpD := fun ds hd Q _ => ∃ (ps : List P3) (f b t m : Int), ds = [tP ps, .int f, bkD b t m] ∧ SA f b t m ps ∧ ∀ h, Sub hd h → Q (tP (shapedL 1000000000 f b t m ps)) h
section
variable {P : Program} {w : World} {K : PySem.W.Frag} {mg : Str → Option Value} {base : Heap}
theorem kn_shaped {f : Addr} {fd : FuncData} (F : Fun K "shaped" "shaped" s_shaped f fd) (m : mg "shaped" = some (.ref f)) {f_least_moment : Addr} {fd_least_moment : FuncData} (C_least_moment : Kn P w K mg base "least_moment" s_least_moment 1 ["before", "moment", "length", "bucket"] sp_least_moment f_least_moment fd_least_moment) {f_need_bucket : Addr} {fd_need_bucket : FuncData} (C_need_bucket : Kn P w K mg base "need_bucket" s_need_bucket 5 ["arrivals", "flow", "bucket"] sp_need_bucket f_need_bucket fd_need_bucket) (m_tuple : mg "tuple" = none) (m_sorted : mg "sorted" = none) (m_enumerate : mg "enumerate" = none) (m_any : mg "any" = none) : Kn P w K mg base "shaped" s_shaped 6 ["arrivals", "flow", "bucket"] sp_shaped f fd := by
  refine ⟨F, fnD F sc_shaped (fun ds hd Q E h => ?_) (fun cdv A outer s H E ds hd Q Ed hr hq h => ?_), F.binds fun _ _ _ _ _ _ us hl => match us, hl with | [_, _, _], _ => rfl, m⟩
  · obtain ⟨ps, f, b, t, m, rfl, sa, q⟩ := h
    rfl
  · obtain ⟨ps, f, b, t, m, rfl, sa, q⟩ := h
    refine ⟨_, (pssd_cons (psd_expr (pk_call C_need_bucket hr hq (pad_cons (pd_var (pv 0)) (pad_cons (pd_var (pv 1)) (pad_cons (pd_var (pv 2)) pad_nil)))))
      (pssd_cons (psd_if (ptd_truth (pd_callB (call_anyD rfl) (by rfl) m_any bt_any (pad_cons (pd_lc rfl sc_shaped.nd (pid_seq (pd_var (pv 0))) (blkOk_by (N := ["arrivals", "flow", "bucket", "own", "found", "number", "moment", "other", "length", "packet"]) (sc := defScope s_shaped) (own := [("packet", 9)]) (by decide +kernel)) (fun _ _ _ _ _ => (pgo_name (pg_name (i := 9) sc_shaped.nd rfl (by first | exact .inl rfl | exact .inr rfl)) (by decide))) (fun _ _ _ _ _ => ptsd_nil) (fun _ _ _ _ _ => (pd_and (pd_cmp (op_eqD' (room_64 hr)) (nomark _) (pd_ix (pd_var (pv 9)) pd_int (fun _ _ => rfl)) (pd_var (pv 1))) (pd_one (pd_cmp op_gtD (nomark _) (pd_ix (pd_var (pv 9)) pd_int (fun _ _ => rfl)) (pd_ix (pd_var (pv 2)) pd_int (fun _ _ => rfl))))))) pad_nil))) (pssd_one psd_never) pssd_nil)
      (pssd_cons (psd_par (i := 3) (j := 4) (ps_par rfl sc_shaped.nd rfl rfl (by decide) rfl rfl pa_w (by rfl)) (pad_cons (pd_lst pad_nil) (pad_cons (pd_lst pad_nil) pad_nil)))
      (pssd_cons (psd_for PassesOwn.never rfl (pid_enum (by rfl) m_enumerate (pd_var (pv 0))) (pgd_tup (n := 2) rfl (pgsd_cons (pgd_name (pg_name (i := 5) sc_shaped.nd rfl (by first | exact .inl rfl | exact .inr rfl))) (pgsd_cons (pgd_tup (n := 3) rfl (pgsd_cons (pgd_name (pg_name (i := 6) sc_shaped.nd rfl (by first | exact .inl rfl | exact .inr rfl))) (pgsd_cons (pgd_name (pg_name (i := 7) sc_shaped.nd rfl (by first | exact .inl rfl | exact .inr rfl))) (pgsd_cons (pgd_name (pg_name (i := 8) sc_shaped.nd rfl (by first | exact .inl rfl | exact .inr rfl))) pgsd_nil)))) pgsd_nil))) (pssd_consM (psd_if (ptd_cmp (op_eqD' (room_64 hr)) (nomark _) (pd_var (pv 7)) (pd_var (pv 1))) (pssd_cons (psd_set (ps_set (i := 6) sc_shaped.nd rfl (by first | exact .inl rfl | exact .inr rfl) pe_w) (pk_call C_least_moment hr hq (pad_cons (pd_var (pv 3)) (pad_cons (pd_var (pv 6)) (pad_cons (pd_var (pv 8)) (pad_cons (pd_var (pv 2)) pad_nil))))))
      (pssd_one (psd_expr (pd_lm (pe_bm PySem.F.plainAttrs_list PySem.F.slot_list_append PySem.F.type_list_append mt_u pe_w pa_w) mt_appD (pd_var (pv 3)) (pad_cons (pd_tup (pad_cons (pd_var (pv 6)) (pad_cons (pd_var (pv 1)) (pad_cons (pd_var (pv 8)) pad_nil)))) pad_nil))))) pssd_nil)
      (pssd_one (psd_expr (pd_lm (pe_bm PySem.F.plainAttrs_list PySem.F.slot_list_append PySem.F.type_list_append mt_u pe_w pa_w) mt_appD (pd_var (pv 4)) (pad_cons (pd_tup (pad_cons (pd_var (pv 6)) (pad_cons (pd_var (pv 5)) (pad_cons (pd_var (pv 7)) (pad_cons (pd_var (pv 8)) pad_nil))))) pad_nil))))))
      (pssd_one (psd_ret (pd_callTy call_tupleD (by rfl) m_tuple bt_tuple (pad_cons (pd_lc rfl sc_shaped.nd (pid_seq (pd_callB call_sortD (by rfl) m_sorted bt_sorted (pad_cons (pd_var (pv 4)) pad_nil))) (blkOk_by (N := ["arrivals", "flow", "bucket", "own", "found", "number", "moment", "other", "length", "packet"]) (sc := defScope s_shaped) (own := [("moment", 6), ("number", 5), ("other", 7), ("length", 8)]) (by decide +kernel)) (fun _ _ _ _ _ => (pgo_tup (n := 4) rfl (pgso_cons (pgo_name (pg_name (i := 6) sc_shaped.nd rfl (by first | exact .inl rfl | exact .inr rfl)) (by decide)) (pgso_cons (pgo_name (pg_name (i := 5) sc_shaped.nd rfl (by first | exact .inl rfl | exact .inr rfl)) (by decide)) (pgso_cons (pgo_name (pg_name (i := 7) sc_shaped.nd rfl (by first | exact .inl rfl | exact .inr rfl)) (by decide)) (pgso_cons (pgo_name (pg_name (i := 8) sc_shaped.nd rfl (by first | exact .inl rfl | exact .inr rfl)) (by decide)) pgso_nil)))))) (fun _ _ _ _ _ => ptsd_nil) (fun _ _ _ _ _ => (pd_tup (pad_cons (pd_var (pv 6)) (pad_cons (pd_var (pv 7)) (pad_cons (pd_var (pv 8)) pad_nil)))))) pad_nil)))))))), ?_⟩
    have hlen := sa.len
    refine Exists.intro (tP ps) (Exists.intro f (Exists.intro (bkD b t m) (And.intro rfl (And.intro (known_tP (by omega)) (And.intro sa.arr (And.intro sa.f0 (And.intro rfl (And.intro (isBk_bk sa.b1 sa.ht.1 sa.hm.1 sa.hg) ?_))))))))
    -- none too long
    refine lc_do (S := ⟨ps.map pk, fun _ => True⟩) (fun x => some (.bl (decide (flowD x = f) && decide (lenI x > b)))) (fun _ _ => trivial) (by rw [List.length_map]; exact small_size (by omega)) (fun i x h k hi sb kk => ?_) (fun p0 hp0 => ?_)
    · obtain ⟨p, _, rfl⟩ := List.mem_map.mp (mem_at hi)
      have kk : k (some (.bl (decide (p.2.1 = f) && decide (p.2.2 > b)))) h := kk h .refl
      refine And.intro (fun _ => And.intro (fun e => ?_) fun e => ?_) (fun z => nomatch z)
      · have e : decide (p.2.1 = f) = true := e
        rw [e] at kk
        exact kk
      · have e : decide (p.2.1 = f) = false := e
        rw [e] at kk
        exact kk
    refine Exists.intro (ps.map fun p => decide (p.2.1 = f) && decide (p.2.2 > b)) (And.intro (by rw [put_same, filterMap_some, List.map_map, List.map_map]; rfl) ?_)
    have none0 : (ps.map fun p => decide (p.2.1 = f) && decide (p.2.2 > b)).any id = false := by
      rw [List.any_map, List.any_eq_false]
      intro p hp
      show ¬ (decide (p.2.1 = f) && decide (p.2.2 > b)) = true
      rw [Bool.and_eq_true, decide_eq_true_eq, decide_eq_true_eq]
      rintro ⟨h1, h2⟩
      have := sa.fit p hp h1
      omega
    rw [none0]
    refine And.intro (fun z => nomatch z) fun _ => ?_
    have s0 : Sub hd (put hd p0 (.lst ((ps.map pk).filterMap fun x => some (.bl (decide (flowD x = f) && decide (lenI x > b)))))) := .new hp0
    -- own, found
    refine And.intro szl fun aO hO => And.intro szl fun aF hF => ?_
    have nOF : aO ≠ aF := ne_fresh put_same hF
    have hOd := sub_none s0 hO
    have hFd := sub_none (s0.trans (.new (o := .lst []) hO)) hF
    refine Exists.intro (fun i e h => ∃ (O : List P3) (F : List (List Int)) (o5 o6 o7 o8 : Option D), e = [some (tP ps), some (.int f), some (bkD b t m), some (.ref aO), some (.ref aF), o5, o6, o7, o8, none] ∧ Sub hd h ∧ h aO = some (.lst (O.map pk)) ∧ h aF = some (.lst (F.map tI)) ∧ F ++ shp f b t m (O.map pr3).reverse i (ps.drop i) = shp f b t m [] 0 ps ∧ O.length ≤ i ∧ F.length = i ∧ i ≤ ps.length)
      (And.intro ⟨[], [], _, _, _, _, rfl, (s0.trans (.new hO)).trans (.new hF), (put_ne nOF).trans put_same, put_same, rfl, Nat.le_refl _, rfl, Nat.zero_le _⟩ (And.intro (fun _ _ _ _ _ => trivial) (And.intro ?_ ?_)))
    rotate_left
    · rintro e h ⟨O, F, o5, o6, o7, o8, rfl, sb, eO, eF, ef, _, hFl, _⟩
      have el : (enumS ⟨ps.map pk, fun _ => True⟩).items.length = ps.length := by
        show ((ps.map pk).zipIdx.map fun p => D.tup [.int (p.2 : Nat), p.1]).length = _
        rw [List.length_map, List.length_zipIdx, List.length_map]
      rw [el, List.drop_length] at ef
      rw [show shp f b t m (O.map pr3).reverse ps.length [] = [] from rfl, List.append_nil] at ef
      rw [ef] at eF
      have h4 : ∀ n ∈ srt 1000000000 (shp f b t m [] 0 ps), four 1000000000 n := fun n hn => sa.four n ((srt_perm _ _).mem_iff.mp hn)
      have hll : (srt 1000000000 (shp f b t m [] 0 ps)).length = ps.length := by rw [(srt_perm _ _).length_eq, shp_len]
      refine Exists.intro _ (Exists.intro 4 (Exists.intro 1000000000 (And.intro (by decide) (And.intro eF (And.intro (by rw [shp_len]; omega) (And.intro sa.four fun p hp => ?_))))))
      conv => whnf
      rw [seqS_l put_same]
      refine lc_do (S := ⟨(srt 1000000000 (shp f b t m [] 0 ps)).map tI, fun h' => h' p = some (.lst ((srt 1000000000 (shp f b t m [] 0 ps)).map tI))⟩) (fun z => some (un4D z)) (fun _ s => s _ _ put_same) (by rw [List.length_map, hll]; exact small_size (by omega)) (fun i z h k hi sb kk => ?_) (fun p2 hp2 => ?_)
      · obtain ⟨l, hl, rfl⟩ := List.mem_map.mp (mem_at hi)
        obtain ⟨a, n, c, d, rfl⟩ := four_is (h4 l hl)
        exact And.intro rfl (And.intro (fun _ => And.intro szl (kk h .refl)) (fun z => nomatch z))
      · refine Exists.intro _ (And.intro put_same ?_)
        rw [filterMap_some, un4D_list h4]
        exact rq0 (q _ ((sb.trans (.new hp)).trans (.new hp2)))
    rintro i d e h hi ⟨O, F, o5, o6, o7, o8, rfl, sb, eO, eF, ef, hOl, hFl, _⟩
    obtain ⟨p, rfl, hp⟩ := enum_pk hi
    have hil : i < ps.length := (List.getElem?_eq_some_iff.mp hp).1
    rw [drop_at hp] at ef
    refine And.intro rfl (And.intro rfl ?_)
    refine Exists.intro (fun e h => ∃ (O : List P3) (mo : Int), e = [some (tP ps), some (.int f), some (bkD b t m), some (.ref aO), some (.ref aF), some (.int (i : Nat)), some (.int mo), some (.int p.2.1), some (.int p.2.2), none] ∧ Sub hd h ∧ h aO = some (.lst (O.map pk)) ∧ h aF = some (.lst (F.map tI)) ∧ F ++ [mo, (i : Int), p.2.1, p.2.2] :: shp f b t m (O.map pr3).reverse (i + 1) (ps.drop (i + 1)) = shp f b t m [] 0 ps ∧ O.length ≤ i + 1) (And.intro ?_ fun N hN => ?_)
    rotate_left
    · refine And.intro (fun c => ?_) fun c => ?_
      · have c : p.2.1 = f := of_decide_eq_true c
        rw [show shp f b t m (O.map pr3).reverse i (p :: ps.drop (i + 1)) = _ from if_pos c] at ef
        refine Exists.intro aO (Exists.intro O (Exists.intro p.1 (Exists.intro p.2.2 (Exists.intro b (Exists.intro t (Exists.intro m (And.intro rfl (And.intro eO (And.intro ⟨sa.ht.1, sa.ht.2, by omega⟩ (And.intro sa.hm ?_))))))))))
        refine And.intro (Exists.intro _ (Exists.intro _ (And.intro rfl eO))) (And.intro szl (Exists.intro _ (And.intro eO (And.intro (small_size (by rw [List.length_map]; omega)) ?_))))
        refine hN _ _ ⟨O ++ [(lmS b t m (O.map pr3).reverse p.2.2 p.1, f, p.2.2)], _, rfl, sb.own hOd, ?_, (put_ne (Ne.symm nOF)).trans eF, ?_, by rw [List.length_append, List.length_cons, List.length_nil]; omega⟩
        · rw [put_same, List.map_append]; rfl
        · rw [List.map_append, List.reverse_append]
          exact ef
      · have c : ¬ p.2.1 = f := of_decide_eq_false c
        rw [show shp f b t m (O.map pr3).reverse i (p :: ps.drop (i + 1)) = _ from if_neg c] at ef
        exact hN _ _ ⟨O, _, rfl, sb, eO, eF, ef, by omega⟩
    clear eO eF ef hOl
    rintro e h ⟨O, mo, rfl, sb, eO, eF, ef, hOl⟩
    refine And.intro (Exists.intro _ (Exists.intro _ (And.intro rfl eF))) (And.intro szl (Exists.intro _ (And.intro eF (And.intro (small_size (by rw [List.length_map]; omega)) ?_))))
    refine Exists.intro _ (And.intro .refl ⟨O, F ++ [[mo, (i : Int), p.2.1, p.2.2]], _, _, _, _, rfl, sb.own hFd, (put_ne nOF).trans eO, ?_, ?_, hOl, ?_, hil⟩)
    · rw [put_same, List.map_append]; rfl
    · rw [List.append_assoc]; exact ef
    · rw [List.length_append, hFl]; rfl
end
/-! ### law -/
abbrev s_law : Stmt := topS 30
theorem sc_law : FnScope ["script", "deck", "turn", "arrivals", "flow", "sizes", "burst", "bucket", "due", "told", "packet"] ["script"] (defScope s_law) := ⟨rfl, rfl, rfl, by decide +kernel, rfl, by decide +kernel, by decide +kernel⟩
def sp_law : SpD := fun ds hd Q _ => ∃ ns : List Int, ds = [.rl (ns.map .int)] ∧ ns.length ≤ 63 ∧ ∀ h, Q (.bl true) h
section
variable {P : Program} {w : World} {K : PySem.W.Frag} {mg : Str → Option Value} {base : Heap}
theorem kn_law {f : Addr} {fd : FuncData} (F : Fun K "law" "law" s_law f fd) (m : mg "law" = some (.ref f)) {f_judge_bucket : Addr} {fd_judge_bucket : FuncData} (C_judge_bucket : Kn P w K mg base "judge_bucket" s_judge_bucket 6 ["arrivals", "flow", "bucket"] sp_judge_bucket f_judge_bucket fd_judge_bucket) {f_shaped : Addr} {fd_shaped : FuncData} (C_shaped : Kn P w K mg base "shaped" s_shaped 6 ["arrivals", "flow", "bucket"] sp_shaped f_shaped fd_shaped) {f__law_shaped : Addr} {fd__law_shaped : FuncData} (C__law_shaped : Kn P w K mg base "_law_shaped" s__law_shaped 1 ["arrivals", "flow", "bucket"] sp__law_shaped f__law_shaped fd__law_shaped) {f__law_pick : Addr} {fd__law_pick : FuncData} (C__law_pick : Kn P w K mg base "_law_pick" s__law_pick 2 ["deck", "some"] sp__law_pick f__law_pick fd__law_pick) {f__law_rate : Addr} {fd__law_rate : FuncData} (C__law_rate : Kn P w K mg base "_law_rate" s__law_rate 3 ["deck"] sp__law_rate f__law_rate fd__law_rate) {f__law_draw : Addr} {fd__law_draw : FuncData} (C__law_draw : Kn P w K mg base "_law_draw" s__law_draw 1 ["deck", "many"] sp__law_draw f__law_draw fd__law_draw) {f__law_arrivals : Addr} {fd__law_arrivals : FuncData} (C__law_arrivals : Kn P w K mg base "_law_arrivals" s__law_arrivals 3 ["deck", "flows", "many"] sp__law_arrivals f__law_arrivals fd__law_arrivals) {f__law_deck : Addr} {fd__law_deck : FuncData} (C__law_deck : Kn P w K mg base "_law_deck" s__law_deck 1 ["script"] sp__law_deck f__law_deck fd__law_deck) (m_range : mg "range" = none) (m_repr : mg "repr" = none) (m_max : mg "max" = none) (m_list : mg "list" = none) : Kn P w K mg base "law" s_law 7 ["script"] sp_law f fd := by
  refine ⟨F, fnD F sc_law (fun ds hd Q E h => ?_) (fun cdv A outer s H E ds hd Q Ed hr hq h => ?_), F.binds fun _ _ _ _ _ _ us hl => match us, hl with | [_], _ => rfl, m⟩
  · obtain ⟨ns, rfl, hl, q⟩ := h
    rfl
  · obtain ⟨ns, rfl, hl, q⟩ := h
    refine ⟨_, (pssd_cons (psd_set (ps_set (i := 1) sc_law.nd rfl (by first | exact .inl rfl | exact .inr rfl) pe_w) (pk_call C__law_deck hr hq (pad_cons (pd_var (pv 0)) pad_nil)))
      (pssd_cons (psd_for PassesOwn.never rfl (pid_range1 (by rfl) m_range pd_int) (pgd_name (pg_name (i := 2) sc_law.nd rfl (by first | exact .inl rfl | exact .inr rfl))) (pssd_cons (psd_set (ps_set (i := 3) sc_law.nd rfl (by first | exact .inl rfl | exact .inr rfl) pe_w) (pk_call C__law_arrivals hr hq (pad_cons (pd_var (pv 1)) (pad_cons (pd_listRg1 rfl (by rfl) m_list (by rfl) m_range (pd_op op_addD pd_int (pk_call C__law_draw hr hq (pad_cons (pd_var (pv 1)) (pad_cons pd_int pad_nil))))) (pad_cons (pk_call C__law_draw hr hq (pad_cons (pd_var (pv 1)) (pad_cons (pk_call C__law_pick hr hq (pad_cons (pd_var (pv 1)) (pad_cons (pd_lst (pad_cons pd_int (pad_cons pd_int (pad_cons pd_int pad_nil)))) pad_nil))) pad_nil))) pad_nil)))))
      (pssd_cons (psd_set (ps_set (i := 4) sc_law.nd rfl (by first | exact .inl rfl | exact .inr rfl) pe_w) (pk_call C__law_pick hr hq (pad_cons (pd_var (pv 1)) (pad_cons (pd_lst (pad_cons pd_int (pad_cons pd_int (pad_cons pd_int (pad_cons pd_int (pad_cons (pk_call C__law_draw hr hq (pad_cons (pd_var (pv 1)) (pad_cons pd_int pad_nil))) pad_nil)))))) pad_nil))))
      (pssd_cons (psd_set (ps_set (i := 5) sc_law.nd rfl (by first | exact .inl rfl | exact .inr rfl) pe_w) (pd_op op_addD (pd_lc rfl sc_law.nd (pid_seq (pd_var (pv 3))) (blkOk_by (N := ["script", "deck", "turn", "arrivals", "flow", "sizes", "burst", "bucket", "due", "told", "packet"]) (sc := defScope s_law) (own := [("packet", 10)]) (by decide +kernel)) (fun _ _ _ _ _ => (pgo_name (pg_name (i := 10) sc_law.nd rfl (by first | exact .inl rfl | exact .inr rfl)) (by decide))) (fun _ _ _ _ _ => (ptsd_one (ptd_cmp (op_eqD' (room_64 hr)) (nomark _) (pd_ix (pd_var (pv 10)) pd_int (fun _ _ => rfl)) (pd_var (pv 4))))) (fun _ _ _ _ _ => (pd_ix (pd_var (pv 10)) pd_int (fun _ _ => rfl)))) (pd_lst (pad_cons pd_int pad_nil))))
      (pssd_cons (psd_set (ps_set (i := 6) sc_law.nd rfl (by first | exact .inl rfl | exact .inr rfl) pe_w) (pd_op op_addD (pd_callB (call_max1D rfl) (by rfl) m_max bt_max (pad_cons (pd_var (pv 5)) pad_nil)) (pk_call C__law_pick hr hq (pad_cons (pd_var (pv 1)) (pad_cons (pd_lst (pad_cons pd_int (pad_cons pd_int (pad_cons pd_int (pad_cons (pk_call C__law_draw hr hq (pad_cons (pd_var (pv 1)) (pad_cons pd_int pad_nil))) (pad_cons (pk_call C__law_draw hr hq (pad_cons (pd_var (pv 1)) (pad_cons pd_int pad_nil))) pad_nil)))))) pad_nil)))))
      (pssd_cons (psd_set (ps_set (i := 7) sc_law.nd rfl (by first | exact .inl rfl | exact .inr rfl) pe_w) (pd_tup (pad_cons (pd_var (pv 6)) (pad_cons (pk_call C__law_pick hr hq (pad_cons (pd_var (pv 1)) (pad_cons (pd_lst (pad_cons (pk_call C__law_rate hr hq (pad_cons (pd_var (pv 1)) pad_nil)) (pad_cons (pd_tup (pad_cons pd_int (pad_cons pd_int pad_nil))) (pad_cons (pd_tup (pad_cons pd_int (pad_cons pd_int pad_nil))) (pad_cons (pd_tup (pad_cons pd_int (pad_cons pd_int pad_nil))) pad_nil))))) pad_nil))) pad_nil))))
      (pssd_cons (psd_set (ps_set (i := 8) sc_law.nd rfl (by first | exact .inl rfl | exact .inr rfl) pe_w) (pk_call C__law_shaped hr hq (pad_cons (pd_var (pv 3)) (pad_cons (pd_var (pv 4)) (pad_cons (pd_var (pv 7)) pad_nil)))))
      (pssd_cons (psd_set (ps_set (i := 9) sc_law.nd rfl (by first | exact .inl rfl | exact .inr rfl) pe_w) (pd_tup (pad_cons (pk_call C_shaped hr hq (pad_cons (pd_var (pv 3)) (pad_cons (pd_var (pv 4)) (pad_cons (pd_var (pv 7)) pad_nil)))) (pad_cons (pk_callK C_shaped hr hq (G.Fun.kb C_shaped.F (n := 0) (ks := ["bucket", "flow", "arrivals"]) (idx := [2, 1, 0]) fun _ _ _ _ _ _ us ws h1 h2 => match us, ws, h1, h2 with | [], [_, _, _], _, _ => rfl) (pkd_cons (pd_var (pv 7)) (pkd_cons (pd_var (pv 4)) (pkd_cons (pd_var (pv 3)) pkd_nil)))) pad_nil))))
      (pssd_cons (psd_if (ptd_cmp (op_neD' (room_64 hr)) (nomark _) (pd_callB (call_reprD hq (room_64 hr)) (by rfl) m_repr bt_repr (pad_cons (pd_var (pv 9)) pad_nil)) (pd_callB (call_reprD hq (room_64 hr)) (by rfl) m_repr bt_repr (pad_cons (pd_tup (pad_cons (pd_var (pv 8)) (pad_cons (pd_var (pv 8)) pad_nil))) pad_nil))) (pssd_one (psd_ret pd_bl)) pssd_nil)
      (pssd_cons (psd_set (ps_set (i := 9) sc_law.nd rfl (by first | exact .inl rfl | exact .inr rfl) pe_w) (pd_tup (pad_cons (pk_call C_shaped hr hq (pad_cons (pd_var (pv 8)) (pad_cons (pd_var (pv 4)) (pad_cons (pd_var (pv 7)) pad_nil)))) (pad_cons (pk_call C_judge_bucket hr hq (pad_cons (pd_var (pv 8)) (pad_cons (pd_var (pv 4)) (pad_cons (pd_var (pv 7)) pad_nil)))) pad_nil))))
      (pssd_one (psd_if (ptd_cmp (op_neD' (room_64 hr)) (nomark _) (pd_callB (call_reprD hq (room_64 hr)) (by rfl) m_repr bt_repr (pad_cons (pd_var (pv 9)) pad_nil)) (pd_callB (call_reprD hq (room_64 hr)) (by rfl) m_repr bt_repr (pad_cons (pd_tup (pad_cons (pd_var (pv 8)) (pad_cons (pd_tup (pad_cons pd_str pad_nil)) pad_nil))) pad_nil))) (pssd_one (psd_ret pd_bl)) pssd_nil))))))))))))
      (pssd_one (psd_ret pd_bl)))), ?_⟩
    refine Exists.intro ns (And.intro rfl (And.intro hl fun p r h0 hD0 _ => ?_))
    refine And.intro ⟨by decide, by decide⟩ ?_
    refine Exists.intro (fun i e h => Dk fam h p r ∧ ∃ o2 o3 o4 o5 o6 o7 o8 o9 o10 : Option D, e = [some (.rl (ns.map .int)), some (.ref p), o2, o3, o4, o5, o6, o7, o8, o9, o10])
      (And.intro ⟨hD0, _, _, _, _, _, _, _, _, _, rfl⟩ (And.intro (fun _ _ _ _ _ => trivial) (And.intro ?_ fun _ h _ => rq0 (q h))))
    rintro i d e h hi ⟨hD, o2, o3, o4, o5, o6, o7, o8, o9, o10, rfl⟩
    -- arrivals
    refine Exists.intro p (Exists.intro r (Exists.intro _ (And.intro rfl (And.intro hD (And.intro ⟨by decide, by decide⟩ fun nf h1 hf1 hf2 hD1 _ => ?_)))))
    refine And.intro (.of_le (by decide) (by omega) (by decide) (by omega)) fun a ha => ?_
    have hap := (hD1.off ha).1
    have har := (hD1.off ha).2
    have hD1' := hD1.new (o := .lst (rgD 0 (1 + nf))) ha
    refine And.intro szl (pick_l hD1' ⟨by decide, by decide⟩ fun x h2 hx hD2 hk2 => ?_)
    obtain ⟨c, rfl, hc1, hc2⟩ := okI_mem (lo := 1) (hi := 31) (by decide) hx
    refine Exists.intro p (Exists.intro r (Exists.intro _ (And.intro rfl (And.intro hD2 (And.intro ⟨by omega, by omega⟩ fun many h3 hm1 hm2 hD3 hk3 => ?_)))))
    have efl := hk3 _ _ hap har (hk2 _ _ hap har (put_same (hd := h1) (a := a) (o := .lst (rgD 0 (1 + nf)))))
    have erg : rgD 0 (1 + nf) = ((List.range (1 + nf).toNat).map fun i : Nat => (i : Int)).map .int := by
      unfold rgD
      rw [List.map_map, Int.sub_zero]
      exact List.map_congr_left fun i _ => by rw [Int.zero_add]; rfl
    refine Exists.intro p (Exists.intro r (Exists.intro a (Exists.intro ((List.range (1 + nf).toNat).map fun i : Nat => (i : Int)) (Exists.intro many (And.intro rfl (And.intro hD3 (And.intro hap (And.intro har (And.intro (by rw [efl, erg]) (And.intro ⟨by simp; omega, by simp; omega⟩ (And.intro ⟨hm1, by omega⟩ fun ps h4 hP hD4 hk4 => ?_)))))))))))
    have hlen : ps.length ≤ 31 := by have := hP.len; omega
    have hfl : ∀ x ∈ ((List.range (1 + nf).toNat).map fun i : Nat => (i : Int)), 0 ≤ x ∧ x ≤ 5 := fun x hx => by
      obtain ⟨j, hj, rfl⟩ := List.mem_map.mp hx
      have := List.mem_range.mp hj
      omega
    have hps : ∀ p ∈ ps, 0 ≤ p.1 ∧ p.1 ≤ 10000 ∧ 0 ≤ p.2.1 ∧ p.2.1 ≤ 8 ∧ 1 ≤ p.2.2 ∧ p.2.2 ≤ 60 := fun p hp => by
      obtain ⟨h1, h2, h3, h4, h5⟩ := hP.at_ p hp
      have := hfl _ h3
      omega
    -- flow
    refine Exists.intro p (Exists.intro r (Exists.intro _ (And.intro rfl (And.intro hD4 (And.intro ⟨by decide, by decide⟩ fun fv h5 hv1 hv2 hD5 _ => ?_)))))
    refine And.intro szl (pick_l hD5 ⟨Nat.zero_lt_succ _, Nat.le_of_ble_eq_true rfl⟩ fun x h6 hx hD6 _ => ?_)
    obtain ⟨f, rfl, hf0, hf8⟩ := okI_mem (lo := 0) (hi := 8) (by simp [okI]; omega) hx
    -- sizes
    refine lc_do (S := ⟨ps.map pk, fun _ => True⟩) (fun x => if flowD x = f then some (lenD3 x) else none) (fun _ _ => trivial) (by rw [List.length_map]; exact small_size (by omega)) (fun i x h k hi sb kk => ?_) (fun p1 hp1 => ?_)
    · obtain ⟨y, _, rfl⟩ := List.mem_map.mp (mem_at hi)
      have kk := kk h .refl
      refine And.intro (fun e => ?_) fun e => ?_
      · have e : y.2.1 = f := of_decide_eq_true e
        rw [if_pos (show flowD (pk y) = f from e)] at kk
        exact kk
      · have e : ¬ y.2.1 = f := of_decide_eq_false e
        rw [if_neg (show ¬ flowD (pk y) = f from e)] at kk
        exact kk
    refine And.intro szl fun p2 hp2 => ?_
    have e1 : put h6 p1 (.lst ((ps.map pk).filterMap fun x => if flowD x = f then some (lenD3 x) else none)) p1 = some (.lst (((ps.filter fun p => decide (p.2.1 = f)).map (·.2.2)).map .int)) := by
      rw [put_same, filter_pk]
    have n12 : p1 ≠ p2 := ne_fresh e1 hp2
    have hfil : (ps.filter fun p => decide (p.2.1 = f)).length ≤ 31 := Nat.le_trans (List.length_filter_le _ _) hlen
    refine Exists.intro _ (Exists.intro _ (And.intro ((put_ne n12).trans e1) (And.intro put_same (And.intro (small_size (by rw [List.length_map, List.length_map]; simp; omega)) fun p3 hp3 => ?_))))
    obtain ⟨L, hL⟩ : ∃ L, L = (ps.filter fun p => decide (p.2.1 = f)).map (·.2.2) ++ [1] := ⟨_, rfl⟩
    have hLd : ((ps.filter fun p => decide (p.2.1 = f)).map (·.2.2)).map D.int ++ [D.int 1] = L.map .int := by rw [hL, List.map_append]; rfl
    have hLne : L ≠ [] := by rw [hL]; simp
    have hLin : ∀ x ∈ L, 1 ≤ x ∧ x ≤ 60 := by
      rw [hL]
      refine all_snoc (fun x hx => ?_) ⟨by decide, by decide⟩
      obtain ⟨y, hy, rfl⟩ := List.mem_map.mp hx
      have := hps y (List.mem_filter.mp hy).1
      omega
    have hfit : ∀ p ∈ ps, p.2.1 = f → p.2.2 ≤ maxL L := fun p hp hf => by
      refine maxL_top ?_
      rw [hL]
      exact List.mem_append_left _ (List.mem_map.mpr ⟨p, List.mem_filter.mpr ⟨hp, decide_eq_true hf⟩, rfl⟩)
    rw [hLd] at *
    have hD7 := ((hD6.new (o := .lst ((ps.map pk).filterMap fun x => if flowD x = f then some (lenD3 x) else none)) hp1).new (o := .lst [.int 1]) hp2).new (o := .lst (L.map .int)) hp3
    have mx := maxL_in hLne hLin
    -- burst
    refine ints_l put_same (And.intro hLne ?_)
    refine Exists.intro p (Exists.intro r (Exists.intro _ (And.intro rfl (And.intro hD7 (And.intro ⟨by decide, by decide⟩ fun v1 h7 hv11 hv12 hD8 hk8 => ?_)))))
    refine Exists.intro p (Exists.intro r (Exists.intro _ (And.intro rfl (And.intro hD8 (And.intro ⟨by decide, by decide⟩ fun v2 h8 hv21 hv22 hD9 hk9 => ?_)))))
    refine And.intro szl (pick_l hD9 ⟨Nat.zero_lt_succ _, Nat.le_of_ble_eq_true rfl⟩ fun x h9 hx hD10 hk10 => ?_)
    obtain ⟨b0, rfl, hb01, hb02⟩ := okI_mem (lo := 0) (hi := 100) (by simp [okI]; omega) hx
    -- bucket
    refine Exists.intro p (Exists.intro r (And.intro rfl (And.intro hD10 fun t0 m0 h10 ht01 ht02 hm01 hm02 hg0 hD11 hk11 => ?_)))
    refine And.intro szl (And.intro szl (And.intro szl (And.intro szl (pick_l hD11 ⟨Nat.zero_lt_succ _, Nat.le_of_ble_eq_true rfl⟩ fun x h11 hx hD12 hk12 => ?_))))
    obtain ⟨t, m, rfl, ht, hm, hg⟩ : ∃ t m : Int, x = .tup [.int t, .int m] ∧ (1 ≤ t ∧ t ≤ 100) ∧ (1 ≤ m ∧ m ≤ 100) ∧ Nat.gcd t.natAbs m.natAbs = 1 := by
      simp only [List.mem_cons, List.not_mem_nil, or_false] at hx
      rcases hx with rfl | rfl | rfl | rfl
      · exact ⟨t0, m0, rfl, ⟨ht01, ht02⟩, ⟨hm01, hm02⟩, hg0⟩
      · exact ⟨1, 1, rfl, by decide, by decide, by decide⟩
      · exact ⟨1, 2, rfl, by decide, by decide, by decide⟩
      · exact ⟨2, 3, rfl, by decide, by decide, by decide⟩
    refine And.intro szl ?_
    obtain ⟨s1, s2, fix, kept, shD⟩ := shaped_all (b := maxL L + b0) hlen hf0 (by omega) ht hm hg hps hP.asc fun p hp hf => by have := hfit p hp hf; omega
    -- due
    refine Exists.intro ps (Exists.intro f (Exists.intro (maxL L + b0) (Exists.intro t (Exists.intro m (And.intro rfl (And.intro s1 fun h12 sb12 => ?_))))))
    refine Exists.intro ps (Exists.intro f (Exists.intro (maxL L + b0) (Exists.intro t (Exists.intro m (And.intro rfl (And.intro s1 fun h13 sb13 => ?_))))))
    refine And.intro rfl (And.intro rfl (Exists.intro ps (Exists.intro f (Exists.intro (maxL L + b0) (Exists.intro t (Exists.intro m (And.intro rfl (And.intro s1 fun h14 sb14 => ?_))))))))
    have shDD := sh_tup (shs_cons shD (shs_cons shD shs_nil))
    refine And.intro szl (And.intro shDD.shows (And.intro szl (And.intro shDD.shows ?_)))
    refine And.intro (fun z => absurd z (by simp)) fun _ => ?_
    -- again
    generalize shapedL 1000000000 f (maxL L + b0) t m ps = due at *
    refine Exists.intro due (Exists.intro f (Exists.intro (maxL L + b0) (Exists.intro t (Exists.intro m (And.intro rfl (And.intro s2 fun h15 sb15 => ?_))))))
    refine Exists.intro due (Exists.intro f (Exists.intro (maxL L + b0) (Exists.intro t (Exists.intro m (And.intro rfl (And.intro ⟨s2.arr, by have := s2.len; omega⟩ (And.intro hf0 (And.intro s2.b1 (And.intro s2.ht (And.intro s2.hm (And.intro hg fun h16 sb16 => ?_)))))))))))
    rw [fix, kept]
    have shK2 := sh_tup (shs_cons shD (shs_cons shK shs_nil))
    refine And.intro szl (And.intro shK2.shows (And.intro szl (And.intro szl (And.intro shK2.shows ?_))))
    refine And.intro (fun z => absurd z (by simp [jdgD])) fun _ => ?_
    exact Exists.intro _ (And.intro .refl ⟨((((hD12.sub sb12).sub sb13).sub sb14).sub sb15).sub sb16, _, _, _, _, _, _, _, _, _, rfl⟩)
end
section
theorem all_mk {l : PySem.W.OpenLaw} {w : World} {K : PySem.W.Frag} {h : Heap} {mg : Str → Option Value} {fa : Addr} (X : K.In h) (Gm : h.Ns mainGlobals mg) (hfa : mg "law" = some (.ref fa))
    {f0 : Addr} {od0 an0 : Option Addr} {sl0 : Array (Option Value)} {oc0 kV0 dc0 pm0 cd0 ct0 : Value}
    (a0 : PySem.W.nsIn K mainGlobals "does_break" = some (some (.ref f0))) (l0 : K.lookup f0 = some ⟨oc0, od0, .func (PySem.W.fnOf "does_break" "does_break" (defArgs s_does_break) (defBody s_does_break) (defScope s_does_break) .none kV0 dc0 pm0 an0 cd0 ct0), sl0⟩) (c0 : PySem.W.codeIn K cd0 "does_break" = true) (k0 : PySem.W.keepIn K (.ref f0) = true)
    {f1 : Addr} {od1 an1 : Option Addr} {sl1 : Array (Option Value)} {oc1 kV1 dc1 pm1 cd1 ct1 : Value}
    (a1 : PySem.W.nsIn K mainGlobals "breaks_of" = some (some (.ref f1))) (l1 : K.lookup f1 = some ⟨oc1, od1, .func (PySem.W.fnOf "breaks_of" "breaks_of" (defArgs s_breaks_of) (defBody s_breaks_of) (defScope s_breaks_of) .none kV1 dc1 pm1 an1 cd1 ct1), sl1⟩) (c1 : PySem.W.codeIn K cd1 "breaks_of" = true) (k1 : PySem.W.keepIn K (.ref f1) = true)
    {f2 : Addr} {od2 an2 : Option Addr} {sl2 : Array (Option Value)} {oc2 kV2 dc2 pm2 cd2 ct2 : Value}
    (a2 : PySem.W.nsIn K mainGlobals "is_integer" = some (some (.ref f2))) (l2 : K.lookup f2 = some ⟨oc2, od2, .func (PySem.W.fnOf "is_integer" "is_integer" (defArgs s_is_integer) (defBody s_is_integer) (defScope s_is_integer) .none kV2 dc2 pm2 an2 cd2 ct2), sl2⟩) (c2 : PySem.W.codeIn K cd2 "is_integer" = true) (k2 : PySem.W.keepIn K (.ref f2) = true)
    {f3 : Addr} {od3 an3 : Option Addr} {sl3 : Array (Option Value)} {oc3 kV3 dc3 pm3 cd3 ct3 : Value}
    (a3 : PySem.W.nsIn K mainGlobals "is_tuple" = some (some (.ref f3))) (l3 : K.lookup f3 = some ⟨oc3, od3, .func (PySem.W.fnOf "is_tuple" "is_tuple" (defArgs s_is_tuple) (defBody s_is_tuple) (defScope s_is_tuple) .none kV3 dc3 pm3 an3 cd3 ct3), sl3⟩) (c3 : PySem.W.codeIn K cd3 "is_tuple" = true) (k3 : PySem.W.keepIn K (.ref f3) = true)
    {f4 : Addr} {od4 an4 : Option Addr} {sl4 : Array (Option Value)} {oc4 kV4 dc4 pm4 cd4 ct4 : Value}
    (a4 : PySem.W.nsIn K mainGlobals "is_fraction" = some (some (.ref f4))) (l4 : K.lookup f4 = some ⟨oc4, od4, .func (PySem.W.fnOf "is_fraction" "is_fraction" (defArgs s_is_fraction) (defBody s_is_fraction) (defScope s_is_fraction) .none kV4 dc4 pm4 an4 cd4 ct4), sl4⟩) (c4 : PySem.W.codeIn K cd4 "is_fraction" = true) (k4 : PySem.W.keepIn K (.ref f4) = true)
    {f5 : Addr} {od5 an5 : Option Addr} {sl5 : Array (Option Value)} {oc5 kV5 dc5 pm5 cd5 ct5 : Value}
    (a5 : PySem.W.nsIn K mainGlobals "is_from" = some (some (.ref f5))) (l5 : K.lookup f5 = some ⟨oc5, od5, .func (PySem.W.fnOf "is_from" "is_from" (defArgs s_is_from) (defBody s_is_from) (defScope s_is_from) .none kV5 dc5 pm5 an5 cd5 ct5), sl5⟩) (c5 : PySem.W.codeIn K cd5 "is_from" = true) (k5 : PySem.W.keepIn K (.ref f5) = true)
    {f6 : Addr} {od6 an6 : Option Addr} {sl6 : Array (Option Value)} {oc6 kV6 dc6 pm6 cd6 ct6 : Value}
    (a6 : PySem.W.nsIn K mainGlobals "is_bucket" = some (some (.ref f6))) (l6 : K.lookup f6 = some ⟨oc6, od6, .func (PySem.W.fnOf "is_bucket" "is_bucket" (defArgs s_is_bucket) (defBody s_is_bucket) (defScope s_is_bucket) .none kV6 dc6 pm6 an6 cd6 ct6), sl6⟩) (c6 : PySem.W.codeIn K cd6 "is_bucket" = true) (k6 : PySem.W.keepIn K (.ref f6) = true)
    {f7 : Addr} {od7 an7 : Option Addr} {sl7 : Array (Option Value)} {oc7 kV7 dc7 pm7 cd7 ct7 : Value}
    (a7 : PySem.W.nsIn K mainGlobals "is_packet" = some (some (.ref f7))) (l7 : K.lookup f7 = some ⟨oc7, od7, .func (PySem.W.fnOf "is_packet" "is_packet" (defArgs s_is_packet) (defBody s_is_packet) (defScope s_is_packet) .none kV7 dc7 pm7 an7 cd7 ct7), sl7⟩) (c7 : PySem.W.codeIn K cd7 "is_packet" = true) (k7 : PySem.W.keepIn K (.ref f7) = true)
    {f8 : Addr} {od8 an8 : Option Addr} {sl8 : Array (Option Value)} {oc8 kV8 dc8 pm8 cd8 ct8 : Value}
    (a8 : PySem.W.nsIn K mainGlobals "are_arrivals" = some (some (.ref f8))) (l8 : K.lookup f8 = some ⟨oc8, od8, .func (PySem.W.fnOf "are_arrivals" "are_arrivals" (defArgs s_are_arrivals) (defBody s_are_arrivals) (defScope s_are_arrivals) .none kV8 dc8 pm8 an8 cd8 ct8), sl8⟩) (c8 : PySem.W.codeIn K cd8 "are_arrivals" = true) (k8 : PySem.W.keepIn K (.ref f8) = true)
    {f9 : Addr} {od9 an9 : Option Addr} {sl9 : Array (Option Value)} {oc9 kV9 dc9 pm9 cd9 ct9 : Value}
    (a9 : PySem.W.nsIn K mainGlobals "need_bucket" = some (some (.ref f9))) (l9 : K.lookup f9 = some ⟨oc9, od9, .func (PySem.W.fnOf "need_bucket" "need_bucket" (defArgs s_need_bucket) (defBody s_need_bucket) (defScope s_need_bucket) .none kV9 dc9 pm9 an9 cd9 ct9), sl9⟩) (c9 : PySem.W.codeIn K cd9 "need_bucket" = true) (k9 : PySem.W.keepIn K (.ref f9) = true)
    {f10 : Addr} {od10 an10 : Option Addr} {sl10 : Array (Option Value)} {oc10 kV10 dc10 pm10 cd10 ct10 : Value}
    (a10 : PySem.W.nsIn K mainGlobals "judge_bucket" = some (some (.ref f10))) (l10 : K.lookup f10 = some ⟨oc10, od10, .func (PySem.W.fnOf "judge_bucket" "judge_bucket" (defArgs s_judge_bucket) (defBody s_judge_bucket) (defScope s_judge_bucket) .none kV10 dc10 pm10 an10 cd10 ct10), sl10⟩) (c10 : PySem.W.codeIn K cd10 "judge_bucket" = true) (k10 : PySem.W.keepIn K (.ref f10) = true)
    {f11 : Addr} {od11 an11 : Option Addr} {sl11 : Array (Option Value)} {oc11 kV11 dc11 pm11 cd11 ct11 : Value}
    (a11 : PySem.W.nsIn K mainGlobals "least_moment" = some (some (.ref f11))) (l11 : K.lookup f11 = some ⟨oc11, od11, .func (PySem.W.fnOf "least_moment" "least_moment" (defArgs s_least_moment) (defBody s_least_moment) (defScope s_least_moment) .none kV11 dc11 pm11 an11 cd11 ct11), sl11⟩) (c11 : PySem.W.codeIn K cd11 "least_moment" = true) (k11 : PySem.W.keepIn K (.ref f11) = true)
    {f12 : Addr} {od12 an12 : Option Addr} {sl12 : Array (Option Value)} {oc12 kV12 dc12 pm12 cd12 ct12 : Value}
    (a12 : PySem.W.nsIn K mainGlobals "shaped" = some (some (.ref f12))) (l12 : K.lookup f12 = some ⟨oc12, od12, .func (PySem.W.fnOf "shaped" "shaped" (defArgs s_shaped) (defBody s_shaped) (defScope s_shaped) .none kV12 dc12 pm12 an12 cd12 ct12), sl12⟩) (c12 : PySem.W.codeIn K cd12 "shaped" = true) (k12 : PySem.W.keepIn K (.ref f12) = true)
    {f13 : Addr} {od13 an13 : Option Addr} {sl13 : Array (Option Value)} {oc13 kV13 dc13 pm13 cd13 ct13 : Value}
    (a13 : PySem.W.nsIn K mainGlobals "_law_shaped" = some (some (.ref f13))) (l13 : K.lookup f13 = some ⟨oc13, od13, .func (PySem.W.fnOf "_law_shaped" "_law_shaped" (defArgs s__law_shaped) (defBody s__law_shaped) (defScope s__law_shaped) .none kV13 dc13 pm13 an13 cd13 ct13), sl13⟩) (c13 : PySem.W.codeIn K cd13 "_law_shaped" = true) (k13 : PySem.W.keepIn K (.ref f13) = true)
    {f14 : Addr} {od14 an14 : Option Addr} {sl14 : Array (Option Value)} {oc14 kV14 dc14 pm14 cd14 ct14 : Value}
    (a14 : PySem.W.nsIn K mainGlobals "_law_draw" = some (some (.ref f14))) (l14 : K.lookup f14 = some ⟨oc14, od14, .func (PySem.W.fnOf "_law_draw" "_law_draw" (defArgs s__law_draw) (defBody s__law_draw) (defScope s__law_draw) .none kV14 dc14 pm14 an14 cd14 ct14), sl14⟩) (c14 : PySem.W.codeIn K cd14 "_law_draw" = true) (k14 : PySem.W.keepIn K (.ref f14) = true)
    {f15 : Addr} {od15 an15 : Option Addr} {sl15 : Array (Option Value)} {oc15 kV15 dc15 pm15 cd15 ct15 : Value}
    (a15 : PySem.W.nsIn K mainGlobals "_law_pick" = some (some (.ref f15))) (l15 : K.lookup f15 = some ⟨oc15, od15, .func (PySem.W.fnOf "_law_pick" "_law_pick" (defArgs s__law_pick) (defBody s__law_pick) (defScope s__law_pick) .none kV15 dc15 pm15 an15 cd15 ct15), sl15⟩) (c15 : PySem.W.codeIn K cd15 "_law_pick" = true) (k15 : PySem.W.keepIn K (.ref f15) = true)
    {f16 : Addr} {od16 an16 : Option Addr} {sl16 : Array (Option Value)} {oc16 kV16 dc16 pm16 cd16 ct16 : Value}
    (a16 : PySem.W.nsIn K mainGlobals "_law_common" = some (some (.ref f16))) (l16 : K.lookup f16 = some ⟨oc16, od16, .func (PySem.W.fnOf "_law_common" "_law_common" (defArgs s__law_common) (defBody s__law_common) (defScope s__law_common) .none kV16 dc16 pm16 an16 cd16 ct16), sl16⟩) (c16 : PySem.W.codeIn K cd16 "_law_common" = true) (k16 : PySem.W.keepIn K (.ref f16) = true)
    {f17 : Addr} {od17 an17 : Option Addr} {sl17 : Array (Option Value)} {oc17 kV17 dc17 pm17 cd17 ct17 : Value}
    (a17 : PySem.W.nsIn K mainGlobals "_law_fraction" = some (some (.ref f17))) (l17 : K.lookup f17 = some ⟨oc17, od17, .func (PySem.W.fnOf "_law_fraction" "_law_fraction" (defArgs s__law_fraction) (defBody s__law_fraction) (defScope s__law_fraction) .none kV17 dc17 pm17 an17 cd17 ct17), sl17⟩) (c17 : PySem.W.codeIn K cd17 "_law_fraction" = true) (k17 : PySem.W.keepIn K (.ref f17) = true)
    {f18 : Addr} {od18 an18 : Option Addr} {sl18 : Array (Option Value)} {oc18 kV18 dc18 pm18 cd18 ct18 : Value}
    (a18 : PySem.W.nsIn K mainGlobals "_law_rate" = some (some (.ref f18))) (l18 : K.lookup f18 = some ⟨oc18, od18, .func (PySem.W.fnOf "_law_rate" "_law_rate" (defArgs s__law_rate) (defBody s__law_rate) (defScope s__law_rate) .none kV18 dc18 pm18 an18 cd18 ct18), sl18⟩) (c18 : PySem.W.codeIn K cd18 "_law_rate" = true) (k18 : PySem.W.keepIn K (.ref f18) = true)
    {f19 : Addr} {od19 an19 : Option Addr} {sl19 : Array (Option Value)} {oc19 kV19 dc19 pm19 cd19 ct19 : Value}
    (a19 : PySem.W.nsIn K mainGlobals "_law_arrivals" = some (some (.ref f19))) (l19 : K.lookup f19 = some ⟨oc19, od19, .func (PySem.W.fnOf "_law_arrivals" "_law_arrivals" (defArgs s__law_arrivals) (defBody s__law_arrivals) (defScope s__law_arrivals) .none kV19 dc19 pm19 an19 cd19 ct19), sl19⟩) (c19 : PySem.W.codeIn K cd19 "_law_arrivals" = true) (k19 : PySem.W.keepIn K (.ref f19) = true)
    {f20 : Addr} {od20 an20 : Option Addr} {sl20 : Array (Option Value)} {oc20 kV20 dc20 pm20 cd20 ct20 : Value}
    (a20 : PySem.W.nsIn K mainGlobals "_law_deck" = some (some (.ref f20))) (l20 : K.lookup f20 = some ⟨oc20, od20, .func (PySem.W.fnOf "_law_deck" "_law_deck" (defArgs s__law_deck) (defBody s__law_deck) (defScope s__law_deck) .none kV20 dc20 pm20 an20 cd20 ct20), sl20⟩) (c20 : PySem.W.codeIn K cd20 "_law_deck" = true) (k20 : PySem.W.keepIn K (.ref f20) = true)
    {f21 : Addr} {od21 an21 : Option Addr} {sl21 : Array (Option Value)} {oc21 kV21 dc21 pm21 cd21 ct21 : Value}
    (a21 : PySem.W.nsIn K mainGlobals "law" = some (some (.ref f21))) (l21 : K.lookup f21 = some ⟨oc21, od21, .func (PySem.W.fnOf "law" "law" (defArgs s_law) (defBody s_law) (defScope s_law) .none kV21 dc21 pm21 an21 cd21 ct21), sl21⟩) (c21 : PySem.W.codeIn K cd21 "law" = true) (k21 : PySem.W.keepIn K (.ref f21) = true)
    (z_enumerate : PySem.W.nsIn K mainGlobals "enumerate" = some none)
    (z_isinstance : PySem.W.nsIn K mainGlobals "isinstance" = some none)
    (z_bool : PySem.W.nsIn K mainGlobals "bool" = some none)
    (z_int : PySem.W.nsIn K mainGlobals "int" = some none)
    (z_len : PySem.W.nsIn K mainGlobals "len" = some none)
    (z_tuple : PySem.W.nsIn K mainGlobals "tuple" = some none)
    (z_all : PySem.W.nsIn K mainGlobals "all" = some none)
    (z_zip : PySem.W.nsIn K mainGlobals "zip" = some none)
    (z_range : PySem.W.nsIn K mainGlobals "range" = some none)
    (z_max : PySem.W.nsIn K mainGlobals "max" = some none)
    (z_sorted : PySem.W.nsIn K mainGlobals "sorted" = some none)
    (z_any : PySem.W.nsIn K mainGlobals "any" = some none)
    (z_abs : PySem.W.nsIn K mainGlobals "abs" = some none)
    (z_list : PySem.W.nsIn K mainGlobals "list" = some none)
    (z_repr : PySem.W.nsIn K mainGlobals "repr" = some none)
    (g_gcd : PySem.W.nsIn K mainGlobals "gcd" = some (some (.builtin "math.gcd")))
    : ∃ fd : FuncData, (∀ (s : Shared) (v : Value), BindsTo s fd ⟨[v], []⟩ [("script", v)]) ∧ ∀ base : Heap, K.In base → base.Ns mainGlobals mg → FnG l.prog w K mg base CX0 7 fa fd ["script"] (spV K sp_law) := by
  have e := hfa.symm.trans (PySem.W.mg_of X Gm a21)
  cases e
  refine ⟨PySem.W.fnOf "law" "law" (defArgs s_law) (defBody s_law) (defScope s_law) .none kV21 dc21 pm21 an21 cd21 ct21, fun s v => .of_eq rfl, fun base _ _ => ?_⟩
  have C_does_break := kn_does_break (P := l.prog) (w := w) (K := K) (mg := mg) (base := base) (fun_mk (st := s_does_break) l0 c0 k0) (PySem.W.mg_of X Gm a0)
  have C_breaks_of := kn_breaks_of (P := l.prog) (w := w) (K := K) (mg := mg) (base := base) (fun_mk (st := s_breaks_of) l1 c1 k1) (PySem.W.mg_of X Gm a1) C_does_break (PySem.W.mg_none_of X Gm z_enumerate)
  have C_is_integer := kn_is_integer (P := l.prog) (w := w) (K := K) (mg := mg) (base := base) (fun_mk (st := s_is_integer) l2 c2 k2) (PySem.W.mg_of X Gm a2) (PySem.W.mg_none_of X Gm z_isinstance) (PySem.W.mg_none_of X Gm z_bool) (PySem.W.mg_none_of X Gm z_int)
  have C_is_tuple := kn_is_tuple (P := l.prog) (w := w) (K := K) (mg := mg) (base := base) (fun_mk (st := s_is_tuple) l3 c3 k3) (PySem.W.mg_of X Gm a3) (PySem.W.mg_none_of X Gm z_len) (PySem.W.mg_none_of X Gm z_isinstance) (PySem.W.mg_none_of X Gm z_tuple)
  have C_is_fraction := kn_is_fraction (P := l.prog) (w := w) (K := K) (mg := mg) (base := base) (fun_mk (st := s_is_fraction) l4 c4 k4) (PySem.W.mg_of X Gm a4) C_is_integer C_is_tuple (PySem.W.mg_of X Gm g_gcd)
  have C_is_from := kn_is_from (P := l.prog) (w := w) (K := K) (mg := mg) (base := base) (fun_mk (st := s_is_from) l5 c5 k5) (PySem.W.mg_of X Gm a5) C_is_integer
  have C_is_bucket := kn_is_bucket (P := l.prog) (w := w) (K := K) (mg := mg) (base := base) (fun_mk (st := s_is_bucket) l6 c6 k6) (PySem.W.mg_of X Gm a6) C_is_fraction C_is_from C_is_tuple
  have C_is_packet := kn_is_packet (P := l.prog) (w := w) (K := K) (mg := mg) (base := base) (fun_mk (st := s_is_packet) l7 c7 k7) (PySem.W.mg_of X Gm a7) C_is_from C_is_tuple
  have C_are_arrivals := kn_are_arrivals (P := l.prog) (w := w) (K := K) (mg := mg) (base := base) (fun_mk (st := s_are_arrivals) l8 c8 k8) (PySem.W.mg_of X Gm a8) C_is_packet (PySem.W.mg_none_of X Gm z_all) (PySem.W.mg_none_of X Gm z_zip) (PySem.W.mg_none_of X Gm z_isinstance) (PySem.W.mg_none_of X Gm z_tuple)
  have C_need_bucket := kn_need_bucket (P := l.prog) (w := w) (K := K) (mg := mg) (base := base) (fun_mk (st := s_need_bucket) l9 c9 k9) (PySem.W.mg_of X Gm a9) C_is_bucket C_is_from C_are_arrivals
  have C_judge_bucket := kn_judge_bucket (P := l.prog) (w := w) (K := K) (mg := mg) (base := base) (fun_mk (st := s_judge_bucket) l10 c10 k10) (PySem.W.mg_of X Gm a10) C_breaks_of C_need_bucket
  have C_least_moment := kn_least_moment (P := l.prog) (w := w) (K := K) (mg := mg) (base := base) (fun_mk (st := s_least_moment) l11 c11 k11) (PySem.W.mg_of X Gm a11) (PySem.W.mg_none_of X Gm z_range) (PySem.W.mg_none_of X Gm z_len) (PySem.W.mg_none_of X Gm z_max)
  have C_shaped := kn_shaped (P := l.prog) (w := w) (K := K) (mg := mg) (base := base) (fun_mk (st := s_shaped) l12 c12 k12) (PySem.W.mg_of X Gm a12) C_least_moment C_need_bucket (PySem.W.mg_none_of X Gm z_tuple) (PySem.W.mg_none_of X Gm z_sorted) (PySem.W.mg_none_of X Gm z_enumerate) (PySem.W.mg_none_of X Gm z_any)
  have C__law_shaped := kn__law_shaped (P := l.prog) (w := w) (K := K) (mg := mg) (base := base) (fun_mk (st := s__law_shaped) l13 c13 k13) (PySem.W.mg_of X Gm a13) (PySem.W.mg_none_of X Gm z_tuple) (PySem.W.mg_none_of X Gm z_sorted) (PySem.W.mg_none_of X Gm z_enumerate) (PySem.W.mg_none_of X Gm z_max)
  have C__law_draw := kn__law_draw (P := l.prog) (w := w) (K := K) (mg := mg) (base := base) (fun_mk (st := s__law_draw) l14 c14 k14) (PySem.W.mg_of X Gm a14) (PySem.W.mg_none_of X Gm z_int) (PySem.W.mg_none_of X Gm z_max)
  have C__law_pick := kn__law_pick (P := l.prog) (w := w) (K := K) (mg := mg) (base := base) (fun_mk (st := s__law_pick) l15 c15 k15) (PySem.W.mg_of X Gm a15) C__law_draw (PySem.W.mg_none_of X Gm z_len)
  have C__law_common := kn__law_common (P := l.prog) (w := w) (K := K) (mg := mg) (base := base) (fun_mk (st := s__law_common) l16 c16 k16) (PySem.W.mg_of X Gm a16) (PySem.W.mg_none_of X Gm z_int) (PySem.W.mg_none_of X Gm z_abs)
  have C__law_fraction := kn__law_fraction (P := l.prog) (w := w) (K := K) (mg := mg) (base := base) (fun_mk (st := s__law_fraction) l17 c17 k17) (PySem.W.mg_of X Gm a17) C__law_common
  have C__law_rate := kn__law_rate (P := l.prog) (w := w) (K := K) (mg := mg) (base := base) (fun_mk (st := s__law_rate) l18 c18 k18) (PySem.W.mg_of X Gm a18) C__law_fraction C__law_draw C__law_pick
  have C__law_arrivals := kn__law_arrivals (P := l.prog) (w := w) (K := K) (mg := mg) (base := base) (fun_mk (st := s__law_arrivals) l19 c19 k19) (PySem.W.mg_of X Gm a19) C__law_pick C__law_draw (PySem.W.mg_none_of X Gm z_tuple) (PySem.W.mg_none_of X Gm z_range) (PySem.W.mg_none_of X Gm z_len)
  have C__law_deck := kn__law_deck (P := l.prog) (w := w) (K := K) (mg := mg) (base := base) (fun_mk (st := s__law_deck) l20 c20 k20) (PySem.W.mg_of X Gm a20) (PySem.W.mg_none_of X Gm z_list) (PySem.W.mg_none_of X Gm z_int)
  have C_law := kn_law (P := l.prog) (w := w) (K := K) (mg := mg) (base := base) (fun_mk (st := s_law) l21 c21 k21) (PySem.W.mg_of X Gm a21) C_judge_bucket C_shaped C__law_shaped C__law_pick C__law_rate C__law_draw C__law_arrivals C__law_deck (PySem.W.mg_none_of X Gm z_range) (PySem.W.mg_none_of X Gm z_repr) (PySem.W.mg_none_of X Gm z_max) (PySem.W.mg_none_of X Gm z_list)
  exact C_law.g
end
end G
open PySem PySem.W PyProof.Rows
set_option maxHeartbeats 0 in
theorem PySem.Challenge.cw_fairqueue_k33_whole_shaped_arrivals_holds : PySem.Challenge.rw_fairqueue_k33_whole_shaped_arrivals.Holds := by
  w_on; o_law; k_head; (case hw => w_witness2)
  k_fill
  refine G.walkG (l := PySem.Challenge.rw_fairqueue_k33_whole_shaped_arrivals) (n := 63) (k := 7) (x := "script") (CX := fun _ => L2.CX0) (sp := fun w => G.spV _ G.sp_law) rfl (by decide) rfl ⟨rfl, by decide, by decide⟩ (fun w h Y => PySem.W.kIn_of Y) ?F (fun w H a ns hl _ _ hS => G.law_sp hS ⟨ns, rfl, hl, fun _ => rfl⟩) (fun _ _ _ _ _ h => h)
  case F =>
    intro w mg fa h KX GX hmg
    refine' G.all_mk KX GX hmg ?a0 ?l0 ?c0 ?k0 ?a1 ?l1 ?c1 ?k1 ?a2 ?l2 ?c2 ?k2 ?a3 ?l3 ?c3 ?k3 ?a4 ?l4 ?c4 ?k4 ?a5 ?l5 ?c5 ?k5 ?a6 ?l6 ?c6 ?k6 ?a7 ?l7 ?c7 ?k7 ?a8 ?l8 ?c8 ?k8 ?a9 ?l9 ?c9 ?k9 ?a10 ?l10 ?c10 ?k10 ?a11 ?l11 ?c11 ?k11 ?a12 ?l12 ?c12 ?k12 ?a13 ?l13 ?c13 ?k13 ?a14 ?l14 ?c14 ?k14 ?a15 ?l15 ?c15 ?k15 ?a16 ?l16 ?c16 ?k16 ?a17 ?l17 ?c17 ?k17 ?a18 ?l18 ?c18 ?k18 ?a19 ?l19 ?c19 ?k19 ?a20 ?l20 ?c20 ?k20 ?a21 ?l21 ?c21 ?k21 ?z_enumerate ?z_isinstance ?z_bool ?z_int ?z_len ?z_tuple ?z_all ?z_zip ?z_range ?z_max ?z_sorted ?z_any ?z_abs ?z_list ?z_repr ?g_gcd
    (case a0 => k_is); (case l0 => k_is); (case c0 => k_is); (case k0 => k_is); (case a1 => k_is); (case l1 => k_is); (case c1 => k_is); (case k1 => k_is)
    (case a2 => k_is); (case l2 => k_is); (case c2 => k_is); (case k2 => k_is); (case a3 => k_is); (case l3 => k_is); (case c3 => k_is); (case k3 => k_is)
    (case a4 => k_is); (case l4 => k_is); (case c4 => k_is); (case k4 => k_is); (case a5 => k_is); (case l5 => k_is); (case c5 => k_is); (case k5 => k_is)
    (case a6 => k_is); (case l6 => k_is); (case c6 => k_is); (case k6 => k_is); (case a7 => k_is); (case l7 => k_is); (case c7 => k_is); (case k7 => k_is)
    (case a8 => k_is); (case l8 => k_is); (case c8 => k_is); (case k8 => k_is); (case a9 => k_is); (case l9 => k_is); (case c9 => k_is); (case k9 => k_is)
    (case a10 => k_is); (case l10 => k_is); (case c10 => k_is); (case k10 => k_is); (case a11 => k_is); (case l11 => k_is); (case c11 => k_is); (case k11 => k_is)
    (case a12 => k_is); (case l12 => k_is); (case c12 => k_is); (case k12 => k_is); (case a13 => k_is); (case l13 => k_is); (case c13 => k_is); (case k13 => k_is)
    (case a14 => k_is); (case l14 => k_is); (case c14 => k_is); (case k14 => k_is); (case a15 => k_is); (case l15 => k_is); (case c15 => k_is); (case k15 => k_is)
    (case a16 => k_is); (case l16 => k_is); (case c16 => k_is); (case k16 => k_is); (case a17 => k_is); (case l17 => k_is); (case c17 => k_is); (case k17 => k_is)
    (case a18 => k_is); (case l18 => k_is); (case c18 => k_is); (case k18 => k_is); (case a19 => k_is); (case l19 => k_is); (case c19 => k_is); (case k19 => k_is)
    (case a20 => k_is); (case l20 => k_is); (case c20 => k_is); (case k20 => k_is); (case a21 => k_is); (case l21 => k_is); (case c21 => k_is); (case k21 => k_is)
    (case z_enumerate => k_is); (case z_isinstance => k_is); (case z_bool => k_is); (case z_int => k_is); (case z_len => k_is); (case z_tuple => k_is); (case z_all => k_is); (case z_zip => k_is)
    (case z_range => k_is); (case z_max => k_is); (case z_sorted => k_is); (case z_any => k_is); (case z_abs => k_is); (case z_list => k_is); (case z_repr => k_is); (case g_gcd => k_is)
