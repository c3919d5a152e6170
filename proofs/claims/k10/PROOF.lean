import PyProof.Rows.All
import Wide.All
import OpenK.AllK
import Wide.FinOn
import HandS.ForMost
import HandS.Wide
import HandS.Zip
import HandS.Walk
import HandS.IsInst
import HandS.Star
import HandS.Style
import HandS.Flow
import HandS.TupAny
import HandS.TupMul
import HandS.Deep
import HandS.SortInts
import HandS.Text
import HandS.Flt
import KE.GoesEnum
import KE.GoesMore
import HandS.Head0
import HandS.Head1
import HandS.Head2
import HandS.HeadEnd
import HandS.HeadHook1
import HandS.HeadHook2
import PyProof.FitsInt
import KE.KStateDown
import PySem.Challenge.RW_linkcounts_k10_what_is_a_scheme
set_option Elab.async false
set_option linter.all false
set_option maxRecDepth 100000
set_option maxHeartbeats 4000000
/-! a def's promise where the guards of repr are known to be none -/
namespace L3
open PySem PySem.Spec PyProof.Rows L2

structure FnG (P : Program) (w : World) (K : PySem.W.Frag) (mg : Str → Option Value)
    (base : Heap) (CX : CXT) (k : Nat) (f : Addr) (fd : FuncData) (ps : List Str) (sp : Sp) : Prop where
  len : ∀ vs H Q E, sp vs H Q E → vs.length = ps.length
  run : ∀ (A : Around) (outer : List Env) (s : Shared) (H : Hp) (args : Args)
    (us : List Value) (vs : List V) (Q : VK) (E : XK), Room k A → A.guards = some [] →
    Env0 P w K mg base A outer s H → BindsTo s fd args (ps.zip us) → Vals vs us →
    sp vs H Q E → codeAny (model P w) A (.call (.ref f) args) (CR CX outer P w H s Q E) s

section
variable {CX : CXT} {P : Program} {w : World} {K : PySem.W.Frag} {mg : Str → Option Value}
  {base : Heap} {k : Nat} {f : Addr} {fd : FuncData} {ps : List Str} {sp : Sp}

theorem FnG.mono {j : Nat} (F : FnG P w K mg base CX j f fd ps sp) (h : j ≤ k) :
    FnG P w K mg base CX k f fd ps sp :=
  ⟨F.len, fun A o s H a us vs Q E r g => F.run A o s H a us vs Q E (r.mono h) g⟩

/-- a def by its body -/
theorem fnG_of {name qual : Str} {params : Arguments} {body : List Stmt} {scope : Scope}
    {dV kV doc pm cdv ct oc : Value} {an od : Option Addr} {osl : Array (Option Value)} {N : List Str}
    (lk : K.lookup f = some ⟨oc, od, .func (PySem.W.fnOf name qual params body scope dV kV doc pm an cdv ct), osl⟩)
    (hcd : PySem.W.codeIn K cdv qual = true) (S : FnScope N ps scope)
    (len : ∀ vs H Q E, sp vs H Q E → vs.length = ps.length)
    (hb : ∀ (A : Around) (outer : List Env) (s : Shared) (H : Hp) (vs : List V) (Q : VK) (E : XK),
      Room k (A.deeper (envOfC qual scope s.heap.objs.size f cdv)) → A.guards = some [] → sp vs H Q E →
      ∃ t, PSs (cxOf CX P w K mg base N qual scope f cdv A outer s H E) body t ∧
        t { nx := fun _ H' => Q .non H', rt := Q } (start N vs) H) :
    FnG P w K mg base CX (k + 1) f
      (PySem.W.fnOf name qual params body scope dV kV doc pm an cdv ct) ps sp := by
  refine ⟨len, ?_⟩
  intro A outer s H args us vs Q E hr gd e0 hbd r hsp
  have hl := len _ _ _ _ hsp
  have up : ∀ b o, base.get? b = some o → s.heap.get? b = some o :=
    fun b o e => (e0.bs b o e).1
  have KX := e0.mod.kin.keeps up
  have lim := e0.mod.nolimit.keeps up
  refine codeAny_call_function hr.depth (KX _ _ lk) rfl S.co S.gen rfl
    (PySem.W.codeRec_of KX hcd) (hbd _ _ _ _ ?_)
  refine wpAny_newFunctionEnv_cells S.kind (fun y hy => ?_) (fun env he s1 x => ?_)
  · rcases S.par y.1 (List.of_mem_zip (show (y.1, y.2) ∈ ps.zip us from hy)).1 with q | q
    · exact Or.inl q
    · exact Or.inr ⟨q, PySem.W.cellsFrom_some _ _ _ (Or.inl q)⟩
  subst he
  refine ⟨lim.keeps x.toInCall.keep, codeAny_func ?_⟩
  obtain ⟨t, ht, hq⟩ := hb A outer s H vs Q E (hr.deeper _) gd hsp
  have I := inv_start (CX := CX) (E := E) S hr.hd e0 hl r x
  refine wpAny_mono (ht.run [] s1 _ H _ I hq) ?_ (fun e s' hs => hs)
  intro fl s' hs
  cases fl with
  | ret u =>
    obtain ⟨v, σ', H', J, rv, q⟩ := hs
    exact ⟨v, H', J.os, J.bare, J.base, J.hok, rv, q⟩
  | next =>
    obtain ⟨σ', H', J, q⟩ := hs
    exact ⟨V.non, H', J.os, J.bare, J.base, J.hok, rfl, q⟩
  | brk => exact (show False from let ⟨_, _, _, q⟩ := hs; q).elim
  | cont => exact (show False from let ⟨_, _, _, q⟩ := hs; q).elim

end
section
variable {X : Cx} {CX : CXT} {k : Nat} {f : Addr} {fd : FuncData} {ps : List Str} {sp : Sp} {E : XK}

/-- the callee runs -/
theorem runG {pins : List (Addr × Obj)} {σ : L2.St} {H : Hp} {s : Shared} {Q : VK} {us : List Value}
    {vs : List V} (F : FnG X.prog X.w X.K X.mg X.base CX k f fd ps sp) (hr : Room k X.A)
    (gd : X.A.guards = some []) (hb : Binds X.K fd ps []) (hx : Passes CX X E)
    (I : Inv X pins σ H s) (r : Vals vs us) (h : sp vs H Q E) :
    wpAny (model X.prog X.w) X.A (call (.ref f) us) (EP X pins σ Q) X.xe s := by
  have hl : (us ++ ([] : List Value)).length = ps.length := by
    rw [List.append_nil, ← r.length]
    exact F.len _ _ _ _ h
  have hbd := hb s us I.kIn hl
  rw [List.append_nil] at hbd
  refine wpAny_call (codeAny_mono
    (F.run X.A X.stack s H ⟨us, []⟩ us vs Q E hr gd I.env0 hbd r h) ?_)
  intro r s' hq
  cases r with
  | error e => exact hx pins σ H s e s' I hq
  | ok fl =>
    cases fl with
    | ret u => exact I.after hq
    | next => exact hq.elim
    | brk => exact hq.elim
    | cont => exact hq.elim

def tCallG (sp : Sp) (E : XK) (t : TA) : TE := fun σ H Q => t σ H fun vs H1 => sp vs H1 Q E

/-- f(e, ..) -/
theorem peG_call {x : Str} {p pos : Pos} {e : Expr} {es : List Expr} {t : TA}
    (F : FnG X.prog X.w X.K X.mg X.base CX k f fd ps sp) (hr : Room k X.A) (gd : X.A.guards = some [])
    (hg : Gl X x) (hm : X.mg x = some (.ref f)) (hk : PySem.W.keepIn X.K (.ref f) = true)
    (hb : Binds X.K fd ps []) (hx : Passes CX X E) (ha : PA X (e :: es) t)
    (hd : (x == ("__debug__" : Str)) = false)
    (he : starEach (e :: es) X.env = (false, eval e X.env) :: starEach es X.env)
    (hpl : (backTo pos (starEach es X.env)).any (·.1) = false) :
    PE X (.Call (.Name x p) (e :: es) [] pos) (tCallG sp E t) := by
  constructor
  intro pins s σ H Q I h
  refine wpAny_Call_Name_kw (ld_glob I hg hm ?_ hd)
  refine PySem.W.callWith_K (h₀ := X.base) I.ok.mod.kin hk ?_ he hpl
  refine thn (ha.run pos pins s σ H _ I h) ?_
  rintro us s1 ⟨vs, H1, I1, r, q⟩
  exact ⟨I1.kIn, runG F hr gd hb hx I1 r q⟩
/-- f() -/
theorem peG_call0 {x : Str} {p pos : Pos}
    (F : FnG X.prog X.w X.K X.mg X.base CX k f fd ps sp) (hr : Room k X.A) (gd : X.A.guards = some [])
    (hg : Gl X x) (hm : X.mg x = some (.ref f)) (hk : PySem.W.keepIn X.K (.ref f) = true)
    (hb : Binds X.K fd ps []) (hx : Passes CX X E) (hd : (x == ("__debug__" : Str)) = false) :
    PE X (.Call (.Name x p) [] [] pos) (tCallG sp E tNil) := by
  constructor
  intro pins s σ H Q I h
  refine wpAny_Call_Name_kw (ld_glob I hg hm ?_ hd)
  exact PySem.W.callWith_K0 I.kIn hk (runG (us := []) F hr gd hb hx I .nil h)
end

/-- the law's call, from its promise -/
theorem lawG {P : Program} {w : World} {K : PySem.W.Frag} {mg mb : Str → Option Value} {CX : CXT}
    {k : Nat} {fa a : Addr} {fd : FuncData} {x : Str} {sp : Sp} {s₁ : Shared} {vs : List Value}
    {ns : List Int} (KX : K.In s₁.heap) (hns : s₁.heap.Ns mainGlobals mg)
    (hb : s₁.heap.Ns builtinsNs mb) (hbb : ∀ x : Str, x ≠ "__name__" → mb x = bootBuiltins x)
    (hlim : s₁.heap.NoLimit) (hg : s₁.gens = #[])
    (ha : s₁.heap.get? a = some { cls := .type "list", data := .seq vs.toArray })
    (hi : IntsAre vs ns) (hl : ns.length ≤ sizeLine) (hr : Room k callerA)
    (F : ∀ base : Heap, K.In base → base.Ns mainGlobals mg → FnG P w K mg base CX k fa fd [x] sp)
    (hbind : ∀ (s : Shared) (u : Value), BindsTo s fd ⟨[u], []⟩ [(x, u)])
    (hsp : ∀ H : Hp, Only H → SqL K H a (ns.map V.int) →
      sp [.ref a] H (fun v _ => v = .bl true) fun _ _ _ => False)
    (hCX : ∀ H e s', CX [] H s₁ (fun _ _ _ => False) e s' → False) :
    codeAny (model P w) callerA (.call (.ref fa) ⟨[.ref a], []⟩)
      (fun r s' => r = .ok (.ret (.bool true)) ∧ OldK s₁.heap s'.heap ∧ s'.os = s₁.os ∧ AllBare s'.gens) s₁ := by
  have rv := vals_ints hi
  have lenV := hi.length
  have main : ∀ H : Hp, Only H → SqL K H a (ns.map V.int) → HOk P w H s₁.heap →
      (∀ b, b ≠ a → H b = none) → (H a = none ∨ K.lookup a = none) →
      codeAny (model P w) callerA (.call (.ref fa) ⟨[.ref a], []⟩)
        (fun r s' => r = .ok (.ret (.bool true)) ∧ OldK s₁.heap s'.heap ∧ s'.os = s₁.os ∧ AllBare s'.gens) s₁ := by
    intro H hO hS hok hA hK
    have free : ∀ {b : Addr}, b ≠ a ∨ H a = none → H b = none := fun {b} h => by
      by_cases e : b = a
      · rw [e]
        exact h.resolve_left (fun z => z e)
      · exact hA b e
    have noD : ∀ {b : Addr} {o : Obj} {es : Array DictEntry} {ep : Nat}, s₁.heap.get? b = some o →
        o.data = .dict es ep → H b = none := fun {b o es ep} e d => free (Or.inl (by
      rintro rfl
      rw [ha] at e
      cases e
      exact nomatch (show Data.seq vs.toArray _ = Data.dict es ep from d)))
    have nsK : ∀ {b : Addr} {m : Str → Option Value}, s₁.heap.Ns b m → (hidT s₁.heap H).Ns b m :=
      fun {b m} h => by
        obtain ⟨o, es, ep, e, d, r⟩ := h
        exact ⟨o, es, ep, hidT_get e (noD e d), d, r⟩
    have hKb : K.In (hidT s₁.heap H) := fun b o e => hidT_get (KX b o e) (by
      rcases hK with q | q
      · exact free (Or.inr q)
      · refine free (Or.inl ?_)
        rintro rfl
        rw [q] at e
        cases e)
    have hM : Mod K mg (hidT s₁.heap H) := by
      refine ⟨hKb, nsK hns, ⟨mb, nsK hb, hbb⟩, ?_⟩
      obtain ⟨mc, h1, h2⟩ := hlim
      exact ⟨mc, nsK h1, h2⟩
    have none_in : ∀ b : Addr, b ∉ frs ([] : List Env) := fun b z => by
      have z' : b ∈ ([] : List Addr) := z
      cases z'
    have e0 : Env0 P w K mg (hidT s₁.heap H) callerA [] s₁ H :=
      ⟨rfl, hM, fun b o e => of_hidT e, Nat.le_of_eq (hidT_size _ _), trivial,
        fun b hb => (none_in b hb).elim, hok, .of_eq hg⟩
    refine codeAny_mono ((F _ hKb (nsK hns)).run callerA [] s₁ H ⟨[.ref a], []⟩ [.ref a] [.ref a] _ _
      hr rfl e0 (hbind s₁ (.ref a)) (.cons rfl .nil) (hsp H hO hS)) ?_
    intro r s' h
    cases r with
    | error e => exact (hCX H e s' h).elim
    | ok fl =>
      cases fl with
      | next => exact h.elim
      | brk => exact h.elim
      | cont => exact h.elim
      | ret u =>
        obtain ⟨v, H', os, bare, un, hok', r', q⟩ := h
        obtain rfl : v = .bl true := q
        obtain rfl : u = Value.bool true := r'
        refine ⟨rfl, OldK.of_keep (fun b o e => ?_), os, bare⟩
        rcases hO b with z | ⟨ob, xs, z⟩
        · exact un.keep b o e z (none_in b) (fun z => nomatch z)
        · have z2 := un.frzs b ob _ z
          have e1 := (hok b _ z).1
          have e2 := (hok' b _ z2).1
          rw [e] at e1
          cases e1
          exact e2
  cases hk : K.lookup a with
  | some o =>
    have e := KX a o hk
    rw [ha] at e
    cases e
    refine main (fun _ => none) (fun _ => Or.inl rfl) ?_ (fun b u z => nomatch z) (fun _ _ => rfl) (Or.inl rfl)
    refine Or.inr ⟨_, vs.toArray, _, hk, rfl, rfl, rfl, ?_, by simpa using rv⟩
    rw [List.size_toArray, lenV]
    exact hl
  | none =>
    let scr : HO := .frz { cls := .type "list", data := .seq vs.toArray } (.lst (ns.map V.int))
    have at_ : ∀ b u, (if b = a then some scr else none) = some u → b = a ∧ u = scr := fun b u z => by
      by_cases hb : b = a
      · rw [if_pos hb] at z
        exact ⟨hb, (Option.some.inj z).symm⟩
      · rw [if_neg hb] at z
        cases z
    refine main (fun b => if b = a then some scr else none) (fun b => ?_)
      (Or.inl (Or.inr ⟨_, if_pos rfl⟩)) (fun b u z => ?_) (fun b hb => if_neg hb) (Or.inr hk)
    · by_cases hb : b = a
      · exact Or.inr ⟨_, _, if_pos hb⟩
      · exact Or.inl (if_neg hb)
    · obtain ⟨rfl, rfl⟩ := at_ b u z
      refine ⟨ha, ?_, vs, _, rv, ha⟩
      rw [List.length_map]
      exact hl

/-- the goal behind k_head -/
theorem walkG {l : PySem.W.OpenLaw} {n k : Nat} {q : Program} {loose : List Str}
    {XP : (Str → Option Value) → Heap → Prop} {YP : World → Heap → Prop} {d : DefRec}
    {K : Params → PySem.W.Frag} {CX : World → CXT} {sp : World → Sp} {x : Str}
    (hn : l.most = some n) (hn2 : n ≤ sizeLine) (hdf : d.params.defaults = []) (hr : Room k callerA)
    (hY : ∀ (w : World) (h : Heap), YP w h → (K w.params).In h)
    (F : ∀ (w : World) (mg : Str → Option Value) (fa : Addr) (h : Heap), (K w.params).In h →
      h.Ns mainGlobals mg → mg d.name = some (.ref fa) →
      ∃ fd : FuncData, (∀ (s : Shared) (u : Value), BindsTo s fd ⟨[u], []⟩ [(x, u)]) ∧
        ∀ base : Heap, (K w.params).In base → base.Ns mainGlobals mg →
          FnG l.prog w (K w.params) mg base (CX w) k fa fd [x] (sp w))
    (hsp : ∀ (w : World) (H : Hp) (a : Addr) (ns : List Int), ns.length ≤ n → Only H →
      SqL (K w.params) H a (ns.map V.int) →
      sp w [.ref a] H (fun v _ => v = .bl true) fun _ _ _ => False)
    (hCX : ∀ (w : World) (H : Hp) (s : Shared) (e : Value) (s' : Shared),
      CX w [] H s (fun _ _ _ => False) e s' → False) :
    PySem.W.WalkO q loose XP YP l.row.toRowW d [] (fun f vs => PySem.call f vs) := by
  refine Att.attach_call hn hdf ?_
  intro w s₀ s₁ mg mb fa o pm cd doc a vs ns G Y ho hd hcd hmg hobj hints hlen hg
  have KX := hY w _ Y
  obtain ⟨fd, hb, hF⟩ := F w mg fa _ KX G.T.g hmg
  exact lawG KX G.T.g G.T.b G.T.builtins G.T.nolimit hg hobj hints (Nat.le_trans hlen hn2) hr hF hb
    (fun H hO hS => hsp w H a ns hlen hO hS) (fun H e s' => hCX w H s₁ e s')
end L3

set_option Elab.async false
set_option linter.all false
set_option maxRecDepth 100000
set_option maxHeartbeats 4000000
/-! data, slots, the state's relation -/
namespace L3
open PySem PySem.Spec PyProof.Rows L2
abbrev D := PySem.PyData

mutual
/-- v is the data d over the visible heap M -/
inductive Hd (K : PySem.W.Frag) (M : Hp) : V → D → Prop
  | non : Hd K M .non .none
  | bl (b : Bool) : Hd K M (.bl b) (.bool b)
  | int (i : Int) : Hd K M (.int i) (.int i)
  | str (x : Str) : Hd K M (.str x) (.str x)
  | lst {a : Addr} {xs : List V} {ds : List D} : M a = some (.lst xs) → HdA K M xs ds → Hd K M (.ref a) (.list ds)
  | tup {a : Addr} {xs : List V} {ds : List D} : SqT K M a xs → HdA K M xs ds → Hd K M (.ref a) (.tuple ds)
inductive HdA (K : PySem.W.Frag) (M : Hp) : List V → List D → Prop
  | nil : HdA K M [] []
  | cons {v : V} {vs : List V} {d : D} {ds : List D} : Hd K M v d → HdA K M vs ds → HdA K M (v :: vs) (d :: ds)
end

/-! only tuples matter where there is no list within -/
mutual
def flat : D → Bool
  | .none | .bool _ | .int _ | .str _ => true
  | .tuple xs => flatA xs
  | .list _ => false
  | .dict _ => false
def flatA : List D → Bool
  | [] => true
  | x :: xs => flat x && flatA xs
end

section
variable {K : PySem.W.Frag} {M M' : Hp}
theorem sqT_mono {a : Addr} {xs : List V} (e : ∀ o, M a = some o → (∃ ys, o = .tup ys) ∨ (∃ ob ys, o = .frz ob (.tup ys)) → M' a = some o)
    (h : SqT K M a xs) : SqT K M' a xs := by
  rcases h with (h | ⟨o, h⟩) | h
  · exact Or.inl (Or.inl (e _ h (Or.inl ⟨_, rfl⟩)))
  · exact Or.inl (Or.inr ⟨o, e _ h (Or.inr ⟨_, _, rfl⟩)⟩)
  · exact Or.inr h
mutual
theorem Hd.mono (e : Same M M') : ∀ (d : D) (v : V), Hd K M v d → Hd K M' v d
  | .none, _, h => by cases h; exact .non
  | .bool _, _, h => by cases h; exact .bl _
  | .int _, _, h => by cases h; exact .int _
  | .str _, _, h => by cases h; exact .str _
  | .list ds, _, h => by
    cases h with
    | lst h1 h2 => exact .lst (e _ _ h1) (HdA.mono e ds _ h2)
  | .tuple ds, _, h => by
    cases h with
    | tup h1 h2 => exact .tup (sqT_mono (fun o q _ => e _ o q) h1) (HdA.mono e ds _ h2)
  | .dict _, _, h => by cases h
theorem HdA.mono (e : Same M M') : ∀ (ds : List D) (vs : List V), HdA K M vs ds → HdA K M' vs ds
  | [], _, h => by cases h; exact .nil
  | d :: ds, _, h => by
    cases h with
    | cons h1 h2 => exact .cons (Hd.mono e d _ h1) (HdA.mono e ds _ h2)
end
/-! where there is no list within, only tuples are read -/
mutual
theorem Hd.flat (e : ∀ a o, M a = some o → (∀ xs, o ≠ .lst xs) → M' a = some o) : ∀ (d : D) (v : V), flat d = true → Hd K M v d → Hd K M' v d
  | .none, _, _, h => by cases h; exact .non
  | .bool _, _, _, h => by cases h; exact .bl _
  | .int _, _, _, h => by cases h; exact .int _
  | .str _, _, _, h => by cases h; exact .str _
  | .list ds, _, f, _ => by simp [L3.flat] at f
  | .tuple ds, _, f, h => by
    cases h with
    | tup h1 h2 =>
      refine .tup (sqT_mono (fun o q z => e _ o q ?_) h1) (HdA.flat e ds _ (by simpa [L3.flat] using f) h2)
      rintro xs rfl
      rcases z with ⟨_, z⟩ | ⟨_, _, z⟩ <;> cases z
  | .dict _, _, _, h => by cases h
theorem HdA.flat (e : ∀ a o, M a = some o → (∀ xs, o ≠ .lst xs) → M' a = some o) : ∀ (ds : List D) (vs : List V), flatA ds = true → HdA K M vs ds → HdA K M' vs ds
  | [], _, _, h => by cases h; exact .nil
  | d :: ds, _, f, h => by
    simp only [L3.flatA, Bool.and_eq_true] at f
    cases h with
    | cons h1 h2 => exact .cons (Hd.flat e d _ f.1 h1) (HdA.flat e ds _ f.2 h2)
end
mutual
theorem Hd.dp : ∀ (d : D) (v : V), Hd K M v d → Dp K M v d
  | .none, _, h => by cases h; exact .non
  | .bool _, _, h => by cases h; exact .bl _
  | .int _, _, h => by cases h; exact .int _
  | .str _, _, h => by cases h; exact .str _
  | .list ds, _, h => by
    cases h with
    | lst h1 h2 => exact .lst (SqL.of h1) (HdA.dp ds _ h2)
  | .tuple ds, _, h => by
    cases h with
    | tup h1 h2 => exact .tup h1 (HdA.dp ds _ h2)
  | .dict _, _, h => by cases h
theorem HdA.dp : ∀ (ds : List D) (vs : List V), HdA K M vs ds → DpAll K M vs ds
  | [], _, h => by cases h; exact .nil
  | d :: ds, _, h => by
    cases h with
    | cons h1 h2 => exact .cons (Hd.dp d _ h1) (HdA.dp ds _ h2)
end
theorem HdA.length : ∀ {vs : List V} {ds : List D}, HdA K M vs ds → vs.length = ds.length
  | _, _, .nil => rfl
  | _, _, .cons _ t => congrArg (· + 1) t.length
theorem HdA.append : ∀ {vs ws : List V} {ds es : List D}, HdA K M vs ds → HdA K M ws es → HdA K M (vs ++ ws) (ds ++ es)
  | _, _, _, _, .nil, h => h
  | _, _, _, _, .cons a t, h => .cons a (t.append h)
theorem HdA.get : ∀ {vs : List V} {ds : List D} {i : Nat} {d : D}, HdA K M vs ds → ds[i]? = some d → ∃ v, vs[i]? = some v ∧ Hd K M v d
  | _, _, _, _, .nil, e => by simp at e
  | _, _, 0, _, .cons a t, e => by
    simp at e
    subst e
    exact ⟨_, rfl, a⟩
  | _, _, i + 1, _, .cons a t, e => by
    obtain ⟨v, h1, h2⟩ := HdA.get (i := i) t (by simpa using e)
    exact ⟨v, by simpa using h1, h2⟩
theorem HdA.getV : ∀ {vs : List V} {ds : List D} {i : Nat} {v : V}, HdA K M vs ds → vs[i]? = some v → ∃ d, ds[i]? = some d ∧ Hd K M v d
  | _, _, _, _, .nil, e => by simp at e
  | _, _, 0, _, .cons a t, e => by
    simp at e
    subst e
    exact ⟨_, rfl, a⟩
  | _, _, i + 1, _, .cons a t, e => by
    obtain ⟨v, h1, h2⟩ := HdA.getV (i := i) t (by simpa using e)
    exact ⟨v, by simpa using h1, h2⟩
theorem HdA.set : ∀ {vs : List V} {ds : List D} (i : Nat) {v : V} {d : D}, HdA K M vs ds → Hd K M v d → HdA K M (vs.set i v) (ds.set i d)
  | _, _, _, _, _, .nil, _ => .nil
  | _, _, 0, _, _, .cons _ t, h => .cons h t
  | _, _, i + 1, _, _, .cons a t, h => .cons a (t.set i h)
theorem HdA.take : ∀ {vs : List V} {ds : List D} (n : Nat), HdA K M vs ds → HdA K M (vs.take n) (ds.take n)
  | _, _, 0, _ => .nil
  | _, _, _ + 1, .nil => .nil
  | _, _, n + 1, .cons a t => .cons a (t.take n)
theorem HdA.drop : ∀ {vs : List V} {ds : List D} (n : Nat), HdA K M vs ds → HdA K M (vs.drop n) (ds.drop n)
  | _, _, 0, t => t
  | _, _, _ + 1, .nil => .nil
  | _, _, n + 1, .cons _ t => t.drop n
theorem HdA.rep {vs : List V} {ds : List D} (h : HdA K M vs ds) : ∀ k : Nat, HdA K M (List.replicate k vs).flatten (List.replicate k ds).flatten
  | 0 => .nil
  | k + 1 => by
    rw [List.replicate_succ, List.replicate_succ, List.flatten_cons, List.flatten_cons]
    exact h.append (h.rep k)
end

/-! ### slots -/
/-- an object that one frame alone holds -/
inductive Ob where
  | l (xs : List D)
  | d (kvs : List (Key × D))
inductive Sl where
  | un
  | sh (d : D)
  | ow (o : Ob)
  | sc (ns : List Int)
abbrev Sls := List Sl

def ObR (K : PySem.W.Frag) (M : Hp) : Ob → HO → Prop
  | .l ds, .lst vs => HdA K M vs ds
  | .d kds, .dK kvs => kvs.map (·.1) = kds.map (·.1) ∧ HdA K M (kvs.map (·.2)) (kds.map (·.2))
  | _, _ => False
theorem ObR.mono {K : PySem.W.Frag} {M M' : Hp} (e : Same M M') {o : Ob} {h : HO} (r : ObR K M o h) : ObR K M' o h := by
  cases o with
  | l ds => cases h <;> first | exact HdA.mono e _ _ r | exact r.elim
  | d kds => cases h <;> first | exact ⟨r.1, HdA.mono e _ _ r.2⟩ | exact r.elim
theorem ObR.mut {K : PySem.W.Frag} {M : Hp} {o : Ob} {h : HO} (r : ObR K M o h) : (∃ vs, h = .lst vs) ∨ ∃ kvs, h = .dK kvs := by
  cases o with
  | l ds => cases h <;> first | exact Or.inl ⟨_, rfl⟩ | exact r.elim
  | d kds => cases h <;> first | exact Or.inr ⟨_, rfl⟩ | exact r.elim

def SlotR (K : PySem.W.Frag) (B M0 M H : Hp) (x : Sl) (ov : Option V) : Prop :=
  match x with
  | .un => True
  | .sh d => ∃ v, ov = some v ∧ Hd K M v d
  | .ow o => ∃ a h, ov = some (.ref a) ∧ H a = some h ∧ M a = none ∧ B a = none ∧ ObR K M o h
  | .sc ns => ∃ a, ov = some (.ref a) ∧ SqL K M0 a (ns.map V.int)

/-- B: what is to stay; M0, M: what is shared, at the entry and now; sl: the slots; σ, H: the machine's -/
structure Rel (K : PySem.W.Frag) (B M0 M : Hp) (sl : Sls) (σ : L2.St) (H : Hp) : Prop where
  len : sl.length = σ.length
  exB : Same B H
  exM : Same M H
  m0 : Same M0 M
  mb : ∀ a o, M a = some o → B a = none ∨ M0 a = some o
  slot : ∀ (i : Nat) (x : Sl), sl[i]? = some x → SlotR K B M0 M H x (σ[i]?.getD none)
  inj : ∀ (i j : Nat) (oi oj : Ob) (a : Addr), sl[i]? = some (.ow oi) → sl[j]? = some (.ow oj) → σ[i]? = some (some (.ref a)) → σ[j]? = some (some (.ref a)) → i = j

theorem getD_some {α : Type} {o : Option (Option α)} {v : α} (h : o.getD none = some v) : o = some (some v) := by
  cases o with
  | none => cases h
  | some q => exact congrArg some h

theorem same_upd {H : Hp} {p : Addr} {o : HO} (h : H p = none) : Same H (upd H p o) := fun b x e => by
  rw [upd_ne (ne_of_none e h)]
  exact e
theorem same_upd2 {H H' : Hp} {p : Addr} {o : HO} (e : Same H H') : Same (upd H p o) (upd H' p o) := fun b x q => by
  by_cases hb : b = p
  · subst hb
    rw [upd_same] at q ⊢
    exact q
  · rw [upd_ne hb] at q ⊢
    exact e b x q
theorem none_back {H H' : Hp} {p : Addr} (e : Same H H') (h : H' p = none) : H p = none := e.free h

section
variable {K : PySem.W.Frag} {B M0 M : Hp} {sl : Sls} {σ : L2.St} {H : Hp}
theorem Rel.sh (r : Rel K B M0 M sl σ H) {i : Nat} {d : D} (h : sl[i]? = some (.sh d)) : ∃ v, σ[i]? = some (some v) ∧ Hd K M v d := by
  obtain ⟨v, e, q⟩ := r.slot i _ h
  exact ⟨v, getD_some e, q⟩
theorem Rel.ow (r : Rel K B M0 M sl σ H) {i : Nat} {o : Ob} (h : sl[i]? = some (.ow o)) :
    ∃ a ho, σ[i]? = some (some (.ref a)) ∧ H a = some ho ∧ M a = none ∧ B a = none ∧ ObR K M o ho := by
  obtain ⟨a, ho, e, q⟩ := r.slot i _ h
  exact ⟨a, ho, getD_some e, q⟩

/-- a new object, not looked at -/
theorem Rel.laid (r : Rel K B M0 M sl σ H) {p : Addr} {o : HO} (hp : H p = none) : Rel K B M0 M sl σ (upd H p o) := by
  have s := same_upd (o := o) hp
  refine ⟨r.len, r.exB.trans s, r.exM.trans s, r.m0, r.mb, fun i x e => ?_, r.inj⟩
  have q := r.slot i x e
  cases x with
  | un => trivial
  | sh d => exact q
  | sc ns => exact q
  | ow o =>
    obtain ⟨a, h, e1, e2, e3⟩ := q
    exact ⟨a, h, e1, s a h e2, e3⟩
/-- more is shared -/
theorem Rel.more (r : Rel K B M0 M sl σ H) {a : Addr} {o : HO} (ha : H a = some o) (hm : M a = none) (hb : B a = none)
    (hn : ∀ (i : Nat) (oi : Ob), sl[i]? = some (.ow oi) → σ[i]? ≠ some (some (.ref a))) : Rel K B M0 (upd M a o) sl σ H := by
  have s := same_upd (o := o) hm
  refine ⟨r.len, r.exB, fun b x e => ?_, r.m0.trans s, fun b x e => ?_, fun i x e => ?_, r.inj⟩
  · by_cases hb : b = a
    · subst hb
      rw [upd_same] at e
      cases e
      exact ha
    · rw [upd_ne hb] at e
      exact r.exM b x e
  · by_cases hba : b = a
    · subst hba
      exact Or.inl hb
    · rw [upd_ne hba] at e
      exact r.mb b x e
  · have q := r.slot i x e
    cases x with
    | un => trivial
    | sh d =>
      obtain ⟨v, e1, e2⟩ := q
      exact ⟨v, e1, e2.mono s⟩
    | sc ns => exact q
    | ow o =>
      obtain ⟨b, h, e1, e2, e3, e4, e5⟩ := q
      have hba : b ≠ a := by
        rintro rfl
        exact hn i _ e (getD_some e1)
      refine ⟨b, h, e1, e2, ?_, e4, e5.mono s⟩
      rw [upd_ne hba]
      exact e3
/-- .. under a base that holds it -/
theorem Rel.pub {a : Addr} {o : HO} (r : Rel K (upd B a o) M0 M sl σ H) (hb : B a = none) (hm : M a = none) : Rel K B M0 (upd M a o) sl σ H := by
  have ha : H a = some o := r.exB a o upd_same
  have r' : Rel K B M0 M sl σ H := by
    refine ⟨r.len, (same_upd hb).trans r.exB, r.exM, r.m0, fun b x e => ?_, fun i x e => ?_, r.inj⟩
    · by_cases hba : b = a
      · subst hba
        exact Or.inl hb
      · have := r.mb b x e
        rw [upd_ne hba] at this
        exact this
    · have q := r.slot i x e
      cases x with
      | un => trivial
      | sh d => exact q
      | sc ns => exact q
      | ow o' =>
        obtain ⟨b, h, e1, e2, e3, e4, e5⟩ := q
        refine ⟨b, h, e1, e2, e3, ?_, e5⟩
        exact none_back (same_upd hb) e4
  refine r'.more ha hm hb (fun i oi e z => ?_)
  obtain ⟨b, h, e1, e2, e3, e4, e5⟩ := r.ow e
  rw [e1] at z
  cases z
  rw [upd_same] at e4
  cases e4
theorem Rel.back {a : Addr} {o : HO} (r : Rel K (upd B a o) M0 M sl σ H) (hb : B a = none) : Rel K B M0 M sl σ H := by
  refine ⟨r.len, (same_upd hb).trans r.exB, r.exM, r.m0, fun b x e => ?_, fun i x e => ?_, r.inj⟩
  · by_cases hba : b = a
    · subst hba
      exact Or.inl hb
    · have := r.mb b x e
      rw [upd_ne hba] at this
      exact this
  · have q := r.slot i x e
    cases x with
    | un => trivial
    | sh d => exact q
    | sc ns => exact q
    | ow o' =>
      obtain ⟨b, h, e1, e2, e3, e4, e5⟩ := q
      exact ⟨b, h, e1, e2, e3, none_back (same_upd hb) e4, e5⟩
/-- a new object, to be kept as it is -/
theorem Rel.keep {a : Addr} {o : HO} (r : Rel K B M0 M sl σ H) (ha : H a = none) : Rel K (upd B a o) M0 M sl σ (upd H a o) := by
  have s := same_upd (o := o) ha
  refine ⟨r.len, same_upd2 r.exB, r.exM.trans s, r.m0, fun b x e => ?_, fun i x e => ?_, r.inj⟩
  · have hba : b ≠ a := ne_of_none (r.exM b x e) ha
    rw [upd_ne hba]
    exact r.mb b x e
  · have q := r.slot i x e
    cases x with
    | un => trivial
    | sh d => exact q
    | sc ns => exact q
    | ow o' =>
      obtain ⟨b, h, e1, e2, e3, e4, e5⟩ := q
      refine ⟨b, h, e1, s b h e2, e3, ?_, e5⟩
      rw [upd_ne (ne_of_none e2 ha)]
      exact e4
theorem get_set {α : Type} {l : List α} {i j : Nat} {x y : α} (h : (l.set i x)[j]? = some y) : (j = i ∧ y = x) ∨ (j ≠ i ∧ l[j]? = some y) := by
  by_cases e : i = j
  · subst e
    by_cases hl : i < l.length
    · rw [List.getElem?_set_self hl] at h
      exact Or.inl ⟨rfl, (Option.some.inj h).symm⟩
    · rw [List.getElem?_eq_none (by simpa using hl)] at h
      cases h
  · rw [List.getElem?_set_ne e] at h
    exact Or.inr ⟨fun z => e z.symm, h⟩
/-- a slot is given a shared value -/
theorem Rel.setSh (r : Rel K B M0 M sl σ H) (i : Nat) {d : D} {v : V} (h : Hd K M v d) : Rel K B M0 M (sl.set i (.sh d)) (σ.set i (some v)) H := by
  refine ⟨by simpa using r.len, r.exB, r.exM, r.m0, r.mb, fun j x e => ?_, fun j k oj ok a e1 e2 e3 e4 => ?_⟩
  · rcases get_set e with ⟨rfl, rfl⟩ | ⟨ne, e⟩
    · have hl : j < σ.length := by
        rw [← r.len]
        have := (List.getElem?_eq_some_iff.mp e).1
        simpa using this
      refine ⟨v, ?_, h⟩
      rw [List.getElem?_set_self hl]
      rfl
    · rw [List.getElem?_set_ne (Ne.symm ne)]
      exact r.slot j x e
  · rcases get_set e1 with ⟨_, z⟩ | ⟨n1, e1⟩
    · cases z
    rcases get_set e2 with ⟨_, z⟩ | ⟨n2, e2⟩
    · cases z
    rw [List.getElem?_set_ne (Ne.symm n1)] at e3
    rw [List.getElem?_set_ne (Ne.symm n2)] at e4
    exact r.inj j k oj ok a e1 e2 e3 e4
/-- a slot is given an object of its own -/
theorem Rel.setOw {a : Addr} {h : HO} (r : Rel K (upd B a h) M0 M sl σ H) (hb : B a = none) (hm : M a = none) (i : Nat) {o : Ob} (ho : ObR K M o h) :
    Rel K B M0 M (sl.set i (.ow o)) (σ.set i (some (.ref a))) H := by
  have r' := r.back hb
  have ha : H a = some h := r.exB a h upd_same
  have no : ∀ {j : Nat} {oj : Ob}, sl[j]? = some (.ow oj) → σ[j]? ≠ some (some (.ref a)) := fun {j oj} e z => by
    obtain ⟨b, h', e1, e2, e3, e4, e5⟩ := r.ow e
    rw [e1] at z
    cases z
    rw [upd_same] at e4
    cases e4
  refine ⟨by simpa using r.len, r'.exB, r.exM, r.m0, r'.mb, fun j x e => ?_, fun j k oj ok b e1 e2 e3 e4 => ?_⟩
  · rcases get_set e with ⟨rfl, rfl⟩ | ⟨ne, e⟩
    · have hl : j < σ.length := by
        rw [← r.len]
        have := (List.getElem?_eq_some_iff.mp e).1
        simpa using this
      refine ⟨a, h, ?_, ha, hm, hb, ho⟩
      rw [List.getElem?_set_self hl]
      rfl
    · rw [List.getElem?_set_ne (Ne.symm ne)]
      exact r'.slot j x e
  · have key : ∀ {m : Nat} {om : Ob}, (sl.set i (Sl.ow o))[m]? = some (.ow om) → (σ.set i (some (V.ref a)))[m]? = some (some (.ref b)) →
        (m = i ∧ b = a) ∨ (m ≠ i ∧ sl[m]? = some (.ow om) ∧ σ[m]? = some (some (.ref b)) ∧ b ≠ a) := fun {m om} q1 q2 => by
      rcases get_set q1 with ⟨rfl, _⟩ | ⟨n1, q1⟩
      · rcases get_set q2 with ⟨_, z⟩ | ⟨z, _⟩
        · cases z
          exact Or.inl ⟨rfl, rfl⟩
        · exact absurd rfl z
      · rw [List.getElem?_set_ne (Ne.symm n1)] at q2
        refine Or.inr ⟨n1, q1, q2, ?_⟩
        rintro rfl
        exact no q1 q2
    rcases key e1 e3 with ⟨rfl, z1⟩ | ⟨n1, q1, q2, z1⟩
    · rcases key e2 e4 with ⟨rfl, _⟩ | ⟨_, _, _, z2⟩
      · rfl
      · exact absurd z1 z2
    · rcases key e2 e4 with ⟨rfl, z2⟩ | ⟨_, q3, q4, _⟩
      · exact absurd z2 z1
      · exact r.inj j k oj ok b q1 q3 q2 q4
/-- a slot's own object is written -/
theorem Rel.write (r : Rel K B M0 M sl σ H) {i : Nat} {o o' : Ob} {a : Addr} {h' : HO} (e : sl[i]? = some (.ow o)) (ea : σ[i]? = some (some (.ref a))) (ho : ObR K M o' h') :
    Rel K B M0 M (sl.set i (.ow o')) σ (upd H a h') := by
  obtain ⟨b, h, e1, e2, e3, e4, e5⟩ := r.ow e
  rw [ea] at e1
  cases e1
  refine ⟨by simpa using r.len, fun b x q => ?_, fun b x q => ?_, r.m0, r.mb, fun j x q => ?_, fun j k oj ok b q1 q2 q3 q4 => ?_⟩
  · have hb : b ≠ a := by
      rintro rfl
      rw [e4] at q
      cases q
    rw [upd_ne hb]
    exact r.exB b x q
  · have hb : b ≠ a := by
      rintro rfl
      rw [e3] at q
      cases q
    rw [upd_ne hb]
    exact r.exM b x q
  · rcases get_set q with ⟨rfl, rfl⟩ | ⟨ne, q⟩
    · refine ⟨a, h', ?_, upd_same, e3, e4, ho⟩
      rw [ea]
      rfl
    · have s := r.slot j x q
      cases x with
      | un => trivial
      | sh d => exact s
      | sc ns => exact s
      | ow oj =>
        obtain ⟨b, hj, s1, s2, s3⟩ := s
        have hb : b ≠ a := by
          rintro rfl
          exact ne (r.inj j i oj o b q e (getD_some s1) ea)
        refine ⟨b, hj, s1, ?_, s3⟩
        rw [upd_ne hb]
        exact s2
  · have key : ∀ {m : Nat} {om : Ob}, (sl.set i (Sl.ow o'))[m]? = some (.ow om) → ∃ on, sl[m]? = some (.ow on) := fun {m om} q => by
      rcases get_set q with ⟨rfl, _⟩ | ⟨_, q⟩
      · exact ⟨_, e⟩
      · exact ⟨_, q⟩
    obtain ⟨o1, p1⟩ := key q1
    obtain ⟨o2, p2⟩ := key q2
    exact r.inj j k o1 o2 b p1 p2 q3 q4
/-- a slot is forgotten -/
theorem Rel.drop (r : Rel K B M0 M sl σ H) (i : Nat) (ov : Option V) : Rel K B M0 M (sl.set i .un) (σ.set i ov) H := by
  refine ⟨by simpa using r.len, r.exB, r.exM, r.m0, r.mb, fun j x q => ?_, fun j k oj ok b q1 q2 q3 q4 => ?_⟩
  · rcases get_set q with ⟨rfl, rfl⟩ | ⟨ne, q⟩
    · trivial
    · rw [List.getElem?_set_ne (Ne.symm ne)]
      exact r.slot j x q
  · rcases get_set q1 with ⟨_, z⟩ | ⟨n1, q1⟩
    · cases z
    rcases get_set q2 with ⟨_, z⟩ | ⟨n2, q2⟩
    · cases z
    rw [List.getElem?_set_ne (Ne.symm n1)] at q3
    rw [List.getElem?_set_ne (Ne.symm n2)] at q4
    exact r.inj j k oj ok b q1 q2 q3 q4
/-- an own list becomes a shared one -/
theorem Rel.share (r : Rel K B M0 M sl σ H) {i : Nat} {ds : List D} (e : sl[i]? = some (.ow (.l ds))) :
    ∃ a vs, σ[i]? = some (some (.ref a)) ∧ Same M (upd M a (.lst vs)) ∧ Hd K (upd M a (.lst vs)) (.ref a) (.list ds) ∧ M a = none ∧ H a = some (.lst vs) ∧ B a = none ∧ HdA K M vs ds ∧
      Rel K B M0 (upd M a (.lst vs)) (sl.set i (.sh (.list ds))) σ H := by
  obtain ⟨a, h, e1, e2, e3, e4, e5⟩ := r.ow e
  cases h <;> first | exact e5.elim | skip
  rename_i vs
  have s := same_upd (o := .lst vs) e3
  have hh : Hd K (upd M a (.lst vs)) (.ref a) (.list ds) := .lst upd_same (HdA.mono s _ _ e5)
  have r1 : Rel K B M0 M (sl.set i .un) σ H := by
    have := r.drop i (some (.ref a))
    have ee : σ.set i (some (V.ref a)) = σ := by
      apply List.ext_getElem?
      intro j
      by_cases hj : i = j
      · subst hj
        rw [List.getElem?_set_self (List.getElem?_eq_some_iff.mp e1).1, e1]
      · rw [List.getElem?_set_ne hj]
    rw [ee] at this
    exact this
  have r2 := r1.more (a := a) (o := .lst vs) e2 e3 e4 (fun j oj q z => by
    rcases get_set q with ⟨_, z'⟩ | ⟨ne, q⟩
    · cases z'
    · exact ne (r.inj j i oj _ a q e z e1))
  have r3 := r2.setSh i hh
  have ee : σ.set i (some (V.ref a)) = σ := by
    apply List.ext_getElem?
    intro j
    by_cases hj : i = j
    · subst hj
      rw [List.getElem?_set_self (List.getElem?_eq_some_iff.mp e1).1, e1]
    · rw [List.getElem?_set_ne hj]
  rw [ee, List.set_set] at r3
  exact ⟨a, vs, e1, s, hh, e3, e2, e4, e5, r3⟩
end
end L3

set_option Elab.async false
set_option linter.all false
set_option maxRecDepth 100000
set_option maxHeartbeats 4000000
/-! the core: terms and what they say -/
namespace L3
open PySem PySem.Spec PyProof.Rows L2

/-! ### results -/
inductive R (α : Type) where
  | ok (a : α) (s : Sls)
  | bad
def R.bnd {α β : Type} (r : R α) (k : α → Sls → R β) : R β :=
  match r with
  | .ok a s => k a s
  | .bad => .bad
def R.opt {α : Type} (o : Option α) (s : Sls) : R α :=
  match o with
  | some a => .ok a s
  | none => .bad
@[simp] theorem bnd_ok {α β : Type} (a : α) (s : Sls) (k : α → Sls → R β) : (R.ok a s).bnd k = k a s := rfl
@[simp] theorem bnd_bad {α β : Type} (k : α → Sls → R β) : (R.bad : R α).bnd k = .bad := rfl
@[simp] theorem opt_some {α : Type} (a : α) (s : Sls) : R.opt (some a) s = .ok a s := rfl
@[simp] theorem opt_none {α : Type} (s : Sls) : R.opt (none : Option α) s = .bad := rfl
theorem bnd_of {α β : Type} {r : R α} {k : α → Sls → R β} {b : β} {s' : Sls} (h : r.bnd k = .ok b s') : ∃ a s, r = .ok a s ∧ k a s = .ok b s' := by
  cases r with
  | ok a s => exact ⟨a, s, rfl, h⟩
  | bad => cases h
theorem opt_of {α : Type} {o : Option α} {s s' : Sls} {a : α} (h : R.opt o s = .ok a s') : o = some a ∧ s = s' := by
  cases o with
  | none => cases h
  | some b => cases h; exact ⟨rfl, rfl⟩

/-! ### values -/
def kD : Key → D
  | .inl i => .int i
  | .inr x => .str x
def Ob.data : Ob → D
  | .l xs => .list xs
  | .d kvs => .dict (kvs.map fun p => (kD p.1, p.2))

abbrev Line : Nat := 16777216
def fitN (n : Nat) : Bool := decide (n ≤ Line)

def boolOf : D → Option Bool
  | .bool b => some b
  | _ => none
def boolsOf : List D → Option (List Bool)
  | [] => some []
  | .bool b :: r => (boolsOf r).map (b :: ·)
  | _ :: _ => none
def intsOf : List D → Option (List Int)
  | [] => some []
  | .int i :: r => (intsOf r).map (i :: ·)
  | _ :: _ => none
def strsOf : List D → Option (List Str)
  | [] => some []
  | .str x :: r => (strsOf r).map (x :: ·)
  | _ :: _ => none

def truth : D → Option Bool
  | .none => some false
  | .bool b => some b
  | .int i => some (i != 0)
  | .str x => if fitN x.length then some ((x.length : Int) != 0) else none
  | .list xs => some (!xs.isEmpty)
  | .tuple xs => some (!xs.isEmpty)
  | .dict _ => none

/-- a op b -/
def bop : Operator → D → D → Option D
  | .Add, .int i, .int j => some (.int (i + j))
  | .Add, .str x, .str y => if fitN (x.length + y.length) then some (.str (x ++ y)) else none
  | .Add, .list xs, .list ys => if fitN (xs.length + ys.length) then some (.list (xs ++ ys)) else none
  | .Add, .tuple xs, .tuple ys => if fitN (xs.length + ys.length) then some (.tuple (xs ++ ys)) else none
  | .Sub, .int i, .int j => some (.int (i - j))
  | .Mult, .int i, .int j => if i.natAbs.log2 + j.natAbs.log2 < 1000000 then some (.int (i * j)) else none
  | .Mult, .list xs, .int k => if -(2 ^ 62) ≤ k ∧ k ≤ 2 ^ 62 ∧ xs.length * k.toNat ≤ Line then some (.list (List.replicate k.toNat xs).flatten) else none
  | .Mult, .tuple xs, .int k => if xs.isEmpty = false ∧ 2 ≤ k ∧ k ≤ 1000 ∧ xs.length ≤ 1000 then some (.tuple (List.replicate k.toNat xs).flatten) else none
  | .FloorDiv, .int i, .int j => if 0 < j ∧ j.natAbs.log2 < 9000 then some (.int (i / j)) else none
  | .Mod, .int i, .int j => if 0 < j then some (.int (i % j)) else none
  | .Pow, .int i, .int j => if 0 ≤ j ∧ j ≤ 1000000 ∧ i.natAbs < 2 ^ 64 then some (.int (i ^ j.toNat)) else none
  | _, _, _ => none

def lexLtD : List Int → List Int → Bool := HT.lexLt

def strEq : D → D → Option Bool
  | .str a, .str b => some (a == b)
  | _, _ => none
/-- a cmp b -/
def cop : CmpOp → D → D → Option Bool
  | .Eq, x, y => if SeqAt.shaped x && SeqAt.shaped y then some (PyData.eqv x y) else strEq x y
  | .NotEq, x, y => if SeqAt.shaped x && SeqAt.shaped y then some (!PyData.eqv x y) else (strEq x y).map (!·)
  | .Lt, .int i, .int j => some (decide (i < j))
  | .LtE, .int i, .int j => some (decide (i ≤ j))
  | .Gt, .int i, .int j => some (decide (j < i))
  | .GtE, .int i, .int j => some (decide (j ≤ i))
  | .Lt, .tuple xs, .tuple ys => match intsOf xs, intsOf ys with
    | some ns, some ms => some (HT.lexLt ns ms)
    | _, _ => none
  | .Is, x, .none => some (match x with | .none => true | _ => false)
  | .IsNot, x, .none => some (match x with | .none => false | _ => true)
  | .Is, .bool a, .bool b => some (decide (a = b))
  | .IsNot, .bool a, .bool b => some (!decide (a = b))
  | .In, x, .list ys => if SeqAt.shaped x && SeqAt.shaped (.list ys) then some (ys.any fun z => PyData.eqv z x) else none
  | .NotIn, x, .list ys => if SeqAt.shaped x && SeqAt.shaped (.list ys) then some (!ys.any fun z => PyData.eqv z x) else none
  | .In, x, .tuple ys => if SeqAt.shaped x && SeqAt.shaped (.tuple ys) then some (ys.any fun z => PyData.eqv z x) else none
  | .NotIn, x, .tuple ys => if SeqAt.shaped x && SeqAt.shaped (.tuple ys) then some (!ys.any fun z => PyData.eqv z x) else none
  | _, _, _ => none

/-- a[i] -/
def ixD : D → D → Option D
  | .list xs, .int i => atI xs i
  | .tuple xs, .int i => atI xs i
  | .str z, .int i => if fitN z.length then (atI z.cps.toList i).map fun c => .str ⟨#[c]⟩ else none
  | _, _ => none
def cutD {α : Type} (xs : List α) (lo hi : Option Int) : List α := (xs.drop (HT.sIx xs.length 0 lo)).take (HT.sIx xs.length xs.length hi - HT.sIx xs.length 0 lo)
/-- a[lo:hi] -/
def slD : D → Option Int → Option Int → Option D
  | .list xs, lo, hi => some (.list (cutD xs lo hi))
  | .tuple xs, lo, hi => some (.tuple (cutD xs lo hi))
  | .str z, lo, hi => if fitN z.length then some (.str (cutS z lo hi)) else none
  | _, _, _ => none

/-! ### built-in functions -/
inductive Bf where
  | len | all | any | max | min | sum | int | list | tuple | repr | str | abs | sorted
  deriving DecidableEq
def Bf.nm : Bf → Str
  | .len => "len" | .all => "all" | .any => "any" | .max => "max" | .min => "min" | .sum => "sum" | .int => "int" | .list => "list" | .tuple => "tuple"
  | .repr => "repr" | .str => "str" | .abs => "abs" | .sorted => "sorted"
def maxL : List Int → Option Int
  | [] => none
  | x :: r => some (r.foldl (fun a b => if b > a then b else a) x)
def minL : List Int → Option Int
  | [] => none
  | x :: r => some (r.foldl (fun a b => if b < a then b else a) x)
def seqOf : D → Option (List D)
  | .list xs => some xs
  | .tuple xs => some xs
  | _ => none
def reprOk (d : D) : Bool := d.showable && !d.hasDict && decide (d.depth ≤ 64) && fitN d.shown.length
def max3 (i j k : Int) : Int := if i < j then (if j < k then k else j) else if i < k then k else i
def min3 (i j k : Int) : Int := if j < i then (if k < j then k else j) else if k < i then k else i
def bfn : Bf → List D → Option D
  | .len, [.list xs] => some (.int xs.length)
  | .len, [.tuple xs] => some (.int xs.length)
  | .len, [.str z] => if fitN z.length then some (.int z.length) else none
  | .all, [.list xs] => (boolsOf xs).map fun bs => .bool (bs.all id)
  | .any, [.list xs] => (boolsOf xs).map fun bs => .bool (bs.any id)
  | .max, [.int i, .int j] => some (.int (if j > i then j else i))
  | .min, [.int i, .int j] => some (.int (if j < i then j else i))
  | .max, [.list xs] => (intsOf xs).bind fun ns => (maxL ns).map .int
  | .min, [.list xs] => (intsOf xs).bind fun ns => (minL ns).map .int
  | .sum, [.list xs] => (intsOf xs).map fun ns => .int ns.sum
  | .int, [.int i] => some (.int i)
  | .int, [.bool b] => some (.int (if b then 1 else 0))
  | .list, [.list xs] => some (.list xs)
  | .list, [.tuple xs] => some (.list xs)
  | .tuple, [.list xs] => some (.tuple xs)
  | .tuple, [.tuple xs] => some (.tuple xs)
  | .repr, [d] => if reprOk d then some (.str d.shown) else none
  | .str, [.int i] => if i.natAbs.log2 < 1920 then some (.str (toString i)) else none
  | .abs, [.int i] => some (.int (if i < 0 then -i else i))
  | .sorted, [.list xs] => (intsOf xs).map fun ns => .list ((ns.mergeSort (fun a b => decide (a ≤ b))).map .int)
  | .max, [.int i, .int j, .int k] => some (.int (max3 i j k))
  | .min, [.int i, .int j, .int k] => some (.int (min3 i j k))
  | _, _ => none
/-- isinstance(x, T) -/
inductive Ty where
  | int | bool | str | tuple | list
  deriving DecidableEq
def Ty.nm : Ty → Str
  | .int => "int" | .bool => "bool" | .str => "str" | .tuple => "tuple" | .list => "list"
def isD : Ty → D → Option Bool
  | t, .none => some false
  | t, .bool _ => some (match t with | .int => true | .bool => true | _ => false)
  | t, .int _ => some (match t with | .int => true | _ => false)
  | t, .str _ => some (match t with | .str => true | _ => false)
  | t, .tuple _ => some (match t with | .tuple => true | _ => false)
  | t, .list _ => some (match t with | .list => true | _ => false)
  | _, .dict _ => none

/-! ### terms -/
mutual
inductive Tg where
  | nm (i : Nat)
  | tp (ts : Tgs)
inductive Tgs where
  | nil
  | cons (t : Tg) (r : Tgs)
end
mutual
inductive E where
  | c (k : Const)
  | v (i : Nat)
  | g (j : Nat)
  | pk (i : Nat)
  | tup (es : Es)
  | lst (es : Es)
  | bin (o : Operator) (a b : E)
  | neg (a : E)
  | nt (a : E)
  | and (a b : E)
  | or (a b : E)
  | cmp (o : CmpOp) (a b : E)
  | chain (o1 o2 : CmpOp) (a b c : E)
  | ite (c a b : E)
  | ix (a i : E)
  | cut (a : E) (lo hi : Oe)
  | sc (i : Nat) (lo hi : Option Int)
  | bf (f : Bf) (es : Es)
  | isi (a : E) (t : Ty)
  | call (f : Nat) (fr : Bool) (as : As)
  | lc (own : List (Str × Nat)) (t : Tg) (it : It) (cond : Oe) (elt : E)
inductive Es where
  | nil
  | cons (e : E) (r : Es)
inductive Oe where
  | n
  | s (e : E)
inductive As where
  | nil
  | v (e : E) (r : As)
  | o (i : Nat) (r : As)
  | p (i : Nat) (r : As)
  | sc (i : Nat) (r : As)
  | k (f : Nat) (as : As) (i : Nat) (r : As)
inductive It where
  | e (e : E)
  | rng (es : Es)
  | enum (e : E)
  | zip (a b : E)
end
mutual
inductive S where
  | asg (i : Nat) (e : E)
  | asgO (i : Nat) (e : E)
  | asgT (t : Tg) (e : E)
  | par (is : List Nat) (es : Es)
  | setI (i : Nat) (ie : E) (e : E)
  | aug (i : Nat) (o : Operator) (e : E)
  | app (i : Nat) (e : E)
  | ext (i : Nat) (e : E)
  | ex (e : E)
  | ret (e : E)
  | retN
  | retF (e : E)
  | retO (i : Nat)
  | retI (i : Nat)
  | ite (c : E) (a b : Ss)
  | for (t : Tg) (it : It) (b : Ss)
  | whl (c : E) (b : Ss)
  | brk
  | cnt
  | pass
  | never
inductive Ss where
  | nil
  | cons (s : S) (r : Ss)
end

/-! ### evaluation -/
/-- a value, or a place to be looked at later -/
abbrev Ov := D ⊕ Nat
def rd : Ov → Sls → Option D
  | .inl d, _ => some d
  | .inr i, s => match s[i]? with
    | some (.sh d) => some d
    | some (.ow o) => some o.data
    | _ => none
def rdA : List Ov → Sls → Option (List D)
  | [], _ => some []
  | o :: r, s => match rd o s, rdA r s with
    | some d, some ds => some (d :: ds)
    | _, _ => none
/-- an argument on its way into a call -/
inductive Av where
  | v (d : D)
  | o (i : Nat)
  | p (i : Nat)
  | s (i : Nat)
/-- what a def says: the arguments' slots, the answer and the arguments' slots behind it -/
abbrev Sem1 := List Sl → Option (D × List Sl)
def cD : Const → Option D
  | .none => some .none
  | .bool b => some (.bool b)
  | .int i => some (.int i)
  | .str x => some (.str x)
  | _ => none

mutual
def asgTg : Tg → D → Sls → Option Sls
  | .nm i, d, s => some (s.set i (.sh d))
  | .tp ts, .tuple ds, s => asgTgs ts ds s
  | .tp _, _, _ => none
def asgTgs : Tgs → List D → Sls → Option Sls
  | .nil, [], s => some s
  | .cons t r, d :: ds, s => match asgTg t d s with
    | some s1 => asgTgs r ds s1
    | none => none
  | _, _, _ => none
end

def wipeS (s : Sls) : List Nat → Sls
  | [] => s
  | v :: vs => (wipeS s vs).set v .un
/-- the comprehension's own names as they were -/
def backS (s0 s : Sls) : List Nat → Sls
  | [] => s
  | v :: vs => (backS s0 s vs).set v ((s0[v]?).getD .un)
def isOw (s : Sls) (v : Nat) : Bool := match s[v]? with
  | some (.ow _) => true
  | _ => false
def isOwL (s : Sls) (v : Nat) : Bool := match s[v]? with
  | some (.ow (.l _)) => true
  | _ => false
/-- a comprehension's turns -/
def lcL (turn : D → Sls → R (Option D)) : List D → List D → Sls → R (List D)
  | [], acc, s => .ok acc s
  | d :: r, acc, s => (turn d s).bnd fun o s1 => lcL turn r (match o with | some y => acc ++ [y] | none => acc) s1
def rngL (lo hi : Int) : List D := (List.range (hi - lo).toNat).map fun (i : Nat) => PyData.int (lo + (i : Int))
def rngDn (lo hi : Int) : List D := (List.range (lo - hi).toNat).map fun (i : Nat) => PyData.int (lo - (i : Int))
def okR (i : Int) : Bool := decide (-(2 ^ 60) ≤ i ∧ i ≤ 2 ^ 60)
def rngD : List D → Option (List D)
  | [.int j] => if okR j then some (rngL 0 j) else none
  | [.int i, .int j] => if okR i && okR j then some (rngL i j) else none
  | [.int i, .int j, .int c] => if okR i && okR j && decide (c = -1) then some (rngDn i j) else none
  | _ => none
def enumL : Nat → List D → List D
  | _, [] => []
  | k, d :: r => .tuple [.int k, d] :: enumL (k + 1) r
def zipL : List D → List D → List D
  | d :: r, e :: t => .tuple [d, e] :: zipL r t
  | _, _ => []
def itemsOf : D → Option (List D)
  | .list xs => some xs
  | .tuple xs => some xs
  | .str z => some (z.cps.toList.map fun c => .str ⟨#[c]⟩)
  | _ => none
def enumOf : D → Option (List D)
  | .list xs => some (enumL 0 xs)
  | .tuple xs => some (enumL 0 xs)
  | _ => none
def zipOf : D → D → Option (List D)
  | .list xs, .list ys => some (zipL xs ys)
  | .tuple xs, .tuple ys => some (zipL xs ys)
  | _, _ => none
/-- the slots handed to a call -/
def argSl : List Av → Sls → Option (List Sl)
  | [], _ => some []
  | a :: r, s => match argSl r s with
    | none => none
    | some t => match a with
      | .v d => some (.sh d :: t)
      | .o i => match s[i]? with
        | some (.ow o) => some (.ow o :: t)
        | _ => none
      | .p i => match s[i]? with
        | some (.sh d) => some (.sh d :: t)
        | some (.ow (.l ds)) => some (.sh (.list ds) :: t)
        | _ => none
      | .s i => match s[i]? with
        | some (.sc ns) => some (.sc ns :: t)
        | _ => none
/-- what they are behind it -/
def backSl : List Av → List Sl → Sls → Option Sls
  | [], _, s => some s
  | .o i :: r, .ow o :: t, s => backSl r t (s.set i (.ow o))
  | .o _ :: _, _, _ => none
  | _ :: r, _ :: t, s => backSl r t s
  | _ :: _, [], _ => none
def hasO : List Av → Bool
  | [] => false
  | .o _ :: _ => true
  | _ :: r => hasO r
def hasP : List Av → Sls → Bool
  | [], _ => false
  | .p i :: r, s => isOw s i || hasP r s
  | _ :: r, s => hasP r s
def oIx : List Av → List Nat
  | [] => []
  | .o i :: r => i :: oIx r
  | _ :: r => oIx r
def pIx : List Av → List Nat
  | [] => []
  | .p i :: r => i :: pIx r
  | _ :: r => pIx r
def callOk (avs : List Av) : Bool := decide (oIx avs).Nodup && (pIx avs).all fun i => !(oIx avs).contains i
def doCall (φ : Sem1) (avs : List Av) (s : Sls) : R D :=
  if callOk avs then
    match argSl avs s with
    | none => .bad
    | some sl => match φ sl with
      | none => .bad
      | some (d, outs) => if hasP avs s && (hasO avs || !flat d) then .bad else
        match backSl avs outs s with
        | none => .bad
        | some s' => .ok d s'
  else .bad

/-- an operand: a name is looked at when all are there -/
def here (i : Nat) (s : Sls) : Bool := match s[i]? with
  | some (.sh _) => true
  | some (.ow _) => true
  | some (.sc _) => true
  | _ => false
def opnd (a : E) (r : R D) (s : Sls) : R Ov := match a with
  | .pk i => if here i s then .ok (.inr i) s else .bad
  | _ => r.bnd fun d s => .ok (.inl d) s
def tru (r : R D) : R Bool := r.bnd fun d s => .opt (truth d) s
@[simp] theorem tru_ok' (d : D) (s : Sls) : tru (.ok d s) = .opt (truth d) s := rfl
section
variable (Φ : Nat → Sem1)
mutual
def ev : E → Sls → R D
  | .c k, s => .opt (cD k) s
  | .v i, s => match s[i]? with
    | some (.sh d) => .ok d s
    | some (.ow (.l xs)) => .ok (.list xs) (s.set i (.sh (.list xs)))
    | _ => .bad
  | .g j, s => match Φ j [] with
    | some (d, _) => .ok d s
    | none => .bad
  | .pk _, _ => .bad
  | .tup es, s => (evs es s).bnd fun ds s => .ok (.tuple ds) s
  | .lst es, s => (evs es s).bnd fun ds s => .ok (.list ds) s
  | .bin o a b, s => (opnd a (ev a s) s).bnd fun x s => (opnd b (ev b s) s).bnd fun y s => match rd x s, rd y s with
    | some d, some e => .opt (bop o d e) s
    | _, _ => .bad
  | .neg a, s => (ev a s).bnd fun d s => match d with
    | .int i => .ok (.int (-i)) s
    | _ => .bad
  | .nt a, s => (tru (ev a s)).bnd fun b s => .ok (.bool (!b)) s
  | .and a b, s => (ev a s).bnd fun d s => match truth d with
    | some true => ev b s
    | some false => .ok d s
    | none => .bad
  | .or a b, s => (ev a s).bnd fun d s => match truth d with
    | some true => .ok d s
    | some false => ev b s
    | none => .bad
  | .cmp o a b, s => (opnd a (ev a s) s).bnd fun x s => (opnd b (ev b s) s).bnd fun y s => match rd x s, rd y s with
    | some d, some e => .opt ((cop o d e).map .bool) s
    | _, _ => .bad
  | .chain o1 o2 a b c, s => (ev a s).bnd fun d s => (ev b s).bnd fun e s => match cop o1 d e with
    | none => .bad
    | some false => .ok (.bool false) s
    | some true => (ev c s).bnd fun f s => .opt ((cop o2 e f).map .bool) s
  | .ite c a b, s => (tru (ev c s)).bnd fun t s => if t then ev a s else ev b s
  | .ix a i, s => (opnd a (ev a s) s).bnd fun x s => (opnd i (ev i s) s).bnd fun y s => match rd x s, rd y s with
    | some d, some e => .opt (ixD d e) s
    | _, _ => .bad
  | .cut a lo hi, s => (opnd a (ev a s) s).bnd fun x s => (evb lo s).bnd fun l s => (evb hi s).bnd fun h s => match rd x s with
    | some d => .opt (slD d l h) s
    | none => .bad
  | .sc i lo hi, s => match s[i]? with
    | some (.sc ns) => .ok (.list (cutD (ns.map .int) lo hi)) s
    | _ => .bad
  | .bf f es, s => (evos es s).bnd fun os s => match rdA os s with
    | some ds => .opt (bfn f ds) s
    | none => .bad
  | .isi a t, s => (opnd a (ev a s) s).bnd fun x s => match rd x s with
    | some d => .opt ((isD t d).map .bool) s
    | none => .bad
  | .call f _ as, s => (evas as s).bnd fun avs s => doCall (Φ f) avs s
  | .lc own t it cond elt, s => (evIt it s).bnd fun items s0 =>
    if (own.map (·.2)).any (isOw s0) then .bad else
    (lcL (fun d s => match asgTg t d (wipeS s (own.map (·.2))) with
      | none => .bad
      | some s1 => (evc cond s1).bnd fun b s2 => if b then (ev elt s2).bnd fun y s3 => .ok (some y) s3 else .ok none s2) items [] s0).bnd
      fun ys s1 => if fitN ys.length then .ok (.list ys) (backS s0 s1 (own.map (·.2))) else .bad
def evs : Es → Sls → R (List D)
  | .nil, s => .ok [] s
  | .cons e r, s => (ev e s).bnd fun d s => (evs r s).bnd fun ds s => .ok (d :: ds) s
def evos : Es → Sls → R (List Ov)
  | .nil, s => .ok [] s
  | .cons e r, s => (opnd e (ev e s) s).bnd fun d s => (evos r s).bnd fun ds s => .ok (d :: ds) s
def evb : Oe → Sls → R (Option Int)
  | .n, s => .ok none s
  | .s e, s => (ev e s).bnd fun d s => match d with
    | .int i => .ok (some i) s
    | _ => .bad
def evc : Oe → Sls → R Bool
  | .n, s => .ok true s
  | .s e, s => tru (ev e s)
def evas : As → Sls → R (List Av)
  | .nil, s => .ok [] s
  | .v e r, s => (ev e s).bnd fun d s => (evas r s).bnd fun as s => .ok (.v d :: as) s
  | .o i r, s => if here i s then (evas r s).bnd fun as s => .ok (.o i :: as) s else .bad
  | .p i r, s => if here i s then (evas r s).bnd fun as s => .ok (.p i :: as) s else .bad
  | .sc i r, s => if here i s then (evas r s).bnd fun as s => .ok (.s i :: as) s else .bad
  | .k f as i r, s => (evas as s).bnd fun avs s => (doCall (Φ f) avs s).bnd fun _ s => (evas r s).bnd fun as s => .ok (.o i :: as) s
def evIt : It → Sls → R (List D)
  | .e e, s => (ev e s).bnd fun d s => .opt (itemsOf d) s
  | .rng es, s => (evs es s).bnd fun ds s => .opt (rngD ds) s
  | .enum e, s => (ev e s).bnd fun d s => .opt (enumOf d) s
  | .zip a b, s => (ev a s).bnd fun d s => (ev b s).bnd fun e s => .opt (zipOf d e) s
end
/-! ### statements -/
inductive Fl where
  | nx (s : Sls)
  | rt (d : D) (s : Sls)
  | bk (s : Sls)
  | ct (s : Sls)
  | bad
def R.thn {α : Type} (r : R α) (k : α → Sls → Fl) : Fl := match r with
  | .ok a s => k a s
  | .bad => .bad
omit Φ in @[simp] theorem thn_ok {α : Type} (a : α) (s : Sls) (k : α → Sls → Fl) : (R.ok a s).thn k = k a s := rfl
omit Φ in @[simp] theorem thn_bad {α : Type} (k : α → Sls → Fl) : (R.bad : R α).thn k = .bad := rfl
omit Φ in theorem thn_of {α : Type} {r : R α} {k : α → Sls → Fl} (h : r.thn k ≠ .bad) : ∃ a s, r = .ok a s ∧ k a s = r.thn k := by
  cases r with
  | ok a s => exact ⟨a, s, rfl, rfl⟩
  | bad => exact absurd rfl h
def forL (turn : D → Sls → Fl) : List D → Sls → Fl
  | [], s => .nx s
  | d :: r, s => match turn d s with
    | .nx s1 => forL turn r s1
    | .ct s1 => forL turn r s1
    | .bk s1 => .nx s1
    | .rt d s1 => .rt d s1
    | .bad => .bad
def whlN (test : Sls → R Bool) (body : Sls → Fl) : Nat → Sls → Fl
  | 0, _ => .bad
  | n + 1, s => (test s).thn fun b s1 => if b then match body s1 with
      | .nx s2 => whlN test body n s2
      | .ct s2 => whlN test body n s2
      | .bk s2 => .nx s2
      | .rt d s2 => .rt d s2
      | .bad => .bad
    else .nx s1
def setsL : List Nat → List D → Sls → Option Sls
  | [], [], s => some s
  | i :: is, d :: ds, s => setsL is ds (s.set i (.sh d))
  | _, _, _ => none
/-- x[i] := d -/
def putAt (o : Ob) (i d : D) : Option Ob := match o, i with
  | .l xs, .int k => (ixN xs.length k).map fun j => .l (xs.set j d)
  | _, _ => none
def getAt (o : Ob) (i : D) : Option D := match o, i with
  | .l xs, .int k => atI xs k
  | _, _ => none
variable (W : Nat)
mutual
def st : S → Sls → Fl
  | .asg i e, s => (ev Φ e s).thn fun d s => .nx (s.set i (.sh d))
  | .asgO i e, s => (ev Φ e s).thn fun d s => match d with
    | .list xs => .nx (s.set i (.ow (.l xs)))
    | _ => .bad
  | .asgT t e, s => (ev Φ e s).thn fun d s => match asgTg t d s with
    | some s1 => .nx s1
    | none => .bad
  | .par is es, s => (evs Φ es s).thn fun ds s => match setsL is ds s with
    | some s1 => .nx s1
    | none => .bad
  | .setI i ie e, s => (ev Φ e s).thn fun d s => if isOw s i then (ev Φ ie s).thn fun k s => match s[i]? with
    | some (.ow o) => match putAt o k d with
      | some o1 => .nx (s.set i (.ow o1))
      | none => .bad
    | _ => .bad
    else .bad
  | .aug i op e, s => match s[i]? with
    | some (.sh (.int x)) => (ev Φ e s).thn fun d s => match d with
      | .int y => if op = .Add then .nx (s.set i (.sh (.int (x + y)))) else if op = .Sub then .nx (s.set i (.sh (.int (x - y)))) else .bad
      | _ => .bad
    | _ => .bad
  | .app i e, s => if isOwL s i then (ev Φ e s).thn fun d s => match s[i]? with
    | some (.ow (.l xs)) => if fitN (xs.length + 1) then .nx (s.set i (.ow (.l (xs ++ [d])))) else .bad
    | _ => .bad
    else .bad
  | .ext i e, s => if isOwL s i then (ev Φ e s).thn fun d s => match s[i]?, d with
    | some (.ow (.l xs)), .list ys => if fitN (xs.length + ys.length) then .nx (s.set i (.ow (.l (xs ++ ys)))) else .bad
    | _, _ => .bad
    else .bad
  | .ex e, s => (ev Φ e s).thn fun _ s => .nx s
  | .ret e, s => (ev Φ e s).thn fun d s => .rt d s
  | .retN, s => .rt .none s
  | .retF e, s => (ev Φ e s).thn fun d s => .rt d s
  | .retO i, s => match s[i]? with
    | some (.ow (.l xs)) => .rt (.list xs) (s.set i .un)
    | _ => .bad
  | .retI i, s => match s[i]? with
    | some (.ow _) => .rt .none s
    | _ => .bad
  | .ite c a b, s => (tru (ev Φ c s)).thn fun t s => if t then sts a s else sts b s
  | .for t it b, s => (evIt Φ it s).thn fun items s => forL (fun d s => match asgTg t d s with
      | some s1 => sts b s1
      | none => .bad) items s
  | .whl c b, s => whlN (fun s => tru (ev Φ c s)) (fun s => sts b s) W s
  | .brk, s => .bk s
  | .cnt, s => .ct s
  | .pass, s => .nx s
  | .never, _ => .bad
def sts : Ss → Sls → Fl
  | .nil, s => .nx s
  | .cons a r, s => match st a s with
    | .nx s1 => sts r s1
    | f => f
end
end

/-! ### programs -/
/-- what a def hands back: a shared value, a new list, its own argument -/
inductive RK where
  | sh
  | fr
  | io (j : Nat)
  deriving DecidableEq
structure FunDef where
  nm : Str
  np : Nat
  n : Nat
  rk : RK
  io : List Nat
  body : Ss
inductive Def where
  | fn (f : FunDef)
  | cst (nm : Str) (d : D)
/-- own objects stand at the marked places alone -/
def owIn (io : List Nat) : Nat → List Sl → Bool
  | _, [] => true
  | k, .ow _ :: r => io.contains k && owIn io (k + 1) r
  | k, _ :: r => owIn io (k + 1) r
def runDef (Φ : Nat → Sem1) (W : Nat) (f : FunDef) : Sem1 := fun args =>
  if args.length = f.np ∧ owIn f.io 0 args = true then
    match sts Φ W f.body (args ++ List.replicate (f.n - f.np) .un) with
    | .rt d s => some (d, s.take f.np)
    | .nx s => match f.rk with
      | .io _ => none
      | _ => some (.none, s.take f.np)
    | _ => none
  else none
def sem (tb : Nat → Option Def) (W : Nat) : Nat → Nat → Sem1
  | 0, _ => fun _ => none
  | k + 1, j => match tb j with
    | some (.fn f) => runDef (sem tb W k) W f
    | some (.cst _ d) => fun _ => some (d, [])
    | none => fun _ => none
/-- of a term: where it gives a list, it is a new one -/
def fr : E → Bool
  | .v _ | .pk _ | .g _ | .ix _ _ | .and _ _ | .or _ _ => false
  | .ite _ a b => fr a && fr b
  | .call _ f _ => f
  | _ => true
end L3

set_option Elab.async false
set_option linter.all false
set_option maxRecDepth 100000
set_option maxHeartbeats 4000000
/-! operations are sound -/
namespace L3
open PySem PySem.Spec PyProof.Rows L2

/-- what may be looked at: a shared value, or a frame's own object -/
inductive Pk (K : PySem.W.Frag) (M H : Hp) : V → D → Prop
  | sh {v : V} {d : D} : Hd K M v d → Pk K M H v d
  | ow {a : Addr} {vs : List V} {ds : List D} : H a = some (.lst vs) → HdA K M vs ds → Pk K M H (.ref a) (.list ds)
  | od {a : Addr} {kvs : List (Key × V)} {kds : List (Key × D)} : H a = some (.dK kvs) → kvs.map (·.1) = kds.map (·.1) → HdA K M (kvs.map (·.2)) (kds.map (·.2)) →
      Pk K M H (.ref a) (.dict (kds.map fun p => (kD p.1, p.2)))

def OpRes (K : PySem.W.Frag) (M H : Hp) (fr : Bool) (v : V) (H' : Hp) (d : D) : Prop :=
  (H' = H ∧ Hd K M v d ∧ (fr = true → ∀ ds, d ≠ .list ds)) ∨
  (∃ a vs ds, v = .ref a ∧ d = .list ds ∧ H a = none ∧ H' = upd H a (.lst vs) ∧ HdA K M vs ds) ∨
  (∃ a vs ds, v = .ref a ∧ d = .tuple ds ∧ H a = none ∧ H' = upd H a (.tup vs) ∧ HdA K M vs ds)

/-- an answer behind an evaluation -/
def Res (K : PySem.W.Frag) (fr : Bool) (B M0 M : Hp) (sl : Sls) (σ : L2.St) (H : Hp) (v : V) (d : D) : Prop :=
  ((fr = true → ∀ ds, d ≠ .list ds) ∧ Rel K B M0 M sl σ H ∧ Hd K M v d) ∨
  (∃ a vs ds, v = .ref a ∧ d = .list ds ∧ Rel K (upd B a (.lst vs)) M0 M sl σ H ∧ B a = none ∧ M a = none ∧ HdA K M vs ds)

section
variable {K : PySem.W.Frag} {B M0 M H H' : Hp} {sl : Sls} {σ : L2.St} {v : V} {d : D} {f : Bool}
theorem Res.shared (h : Res K f B M0 M sl σ H v d) : ∃ M', Same M M' ∧ Rel K B M0 M' sl σ H ∧ Hd K M' v d := by
  rcases h with ⟨_, r, hd⟩ | ⟨a, vs, ds, rfl, rfl, r, hb, hm, ha⟩
  · exact ⟨M, Same.refl _, r, hd⟩
  · have s := same_upd (o := .lst vs) hm
    exact ⟨_, s, r.pub hb hm, .lst upd_same (HdA.mono s _ _ ha)⟩
theorem OpRes.res (r : Rel K B M0 M sl σ H) (h : OpRes K M H f v H' d) : ∃ M', Same M M' ∧ Res K f B M0 M' sl σ H' v d := by
  rcases h with ⟨rfl, hd, z⟩ | ⟨a, vs, ds, rfl, rfl, ha, rfl, hA⟩ | ⟨a, vs, ds, rfl, rfl, ha, rfl, hA⟩
  · exact ⟨M, Same.refl _, Or.inl ⟨z, r, hd⟩⟩
  · exact ⟨M, Same.refl _, Or.inr ⟨a, vs, ds, rfl, rfl, r.keep ha, none_back r.exB ha, none_back r.exM ha, hA⟩⟩
  · have hm := none_back r.exM ha
    have s := same_upd (o := .tup vs) hm
    refine ⟨upd M a (.tup vs), s, Or.inl ⟨(by intro _ _ z; cases z), (r.laid ha).more upd_same hm (none_back r.exB ha) ?_, .tup (SqT.of upd_same) (HdA.mono s _ _ hA)⟩⟩
    intro i oi e z
    obtain ⟨b, h, e1, e2, _⟩ := r.ow e
    rw [e1] at z
    cases z
    rw [ha] at e2
    cases e2
theorem Pk.dp (s : Same M H) (p : Pk K M H v d) (nd : ∀ k, d ≠ .dict k) : Dp K H v d := by
  cases p with
  | sh h => exact (h.mono s).dp
  | ow h1 h2 => exact .lst (SqL.of h1) ((HdA.mono s _ _ h2).dp)
  | od _ _ _ => exact absurd rfl (nd _)
theorem Pk.int {i : Int} (p : Pk K M H v (.int i)) : v = .int i := by
  cases p with
  | sh h => cases h; rfl
theorem Pk.bl {b : Bool} (p : Pk K M H v (.bool b)) : v = .bl b := by
  cases p with
  | sh h => cases h; rfl
theorem Pk.str {x : Str} (p : Pk K M H v (.str x)) : v = .str x := by
  cases p with
  | sh h => cases h; rfl
theorem Pk.non (p : Pk K M H v .none) : v = .non := by
  cases p with
  | sh h => cases h; rfl
theorem Pk.lst {ds : List D} (s : Same M H) (p : Pk K M H v (.list ds)) : ∃ a vs, v = .ref a ∧ H a = some (.lst vs) ∧ HdA K M vs ds := by
  cases p with
  | sh h =>
    cases h with
    | lst h1 h2 => exact ⟨_, _, rfl, s _ _ h1, h2⟩
  | ow h1 h2 => exact ⟨_, _, rfl, h1, h2⟩
theorem Pk.tup {ds : List D} (s : Same M H) (p : Pk K M H v (.tuple ds)) : ∃ a vs, v = .ref a ∧ SqT K H a vs ∧ SqT K M a vs ∧ HdA K M vs ds := by
  cases p with
  | sh h =>
    cases h with
    | tup h1 h2 => exact ⟨_, _, rfl, sqT_mono (fun o q _ => s _ o q) h1, h1, h2⟩
theorem hdA_ints : ∀ {vs : List V} {ns : List Int}, HdA K M vs (ns.map .int) → vs = ns.map V.int
  | _, [], h => by cases h; rfl
  | _, n :: ns, h => by
    cases h with
    | cons a t =>
      cases a
      rw [hdA_ints t]
      rfl
theorem hdA_bools : ∀ {vs : List V} {ns : List Bool}, HdA K M vs (ns.map .bool) → vs = ns.map V.bl
  | _, [], h => by cases h; rfl
  | _, n :: ns, h => by
    cases h with
    | cons a t =>
      cases a
      rw [hdA_bools t]
      rfl
theorem hdA_of_ints : ∀ ns : List Int, HdA K M (ns.map V.int) (ns.map .int)
  | [] => .nil
  | n :: ns => .cons (.int n) (hdA_of_ints ns)
end
theorem intsOf_eq : ∀ {xs : List D} {ns : List Int}, intsOf xs = some ns → xs = ns.map .int
  | [], _, h => by cases h; rfl
  | .int i :: xs, ns, h => by
    simp only [intsOf, Option.map_eq_some_iff] at h
    obtain ⟨a, h1, rfl⟩ := h
    rw [intsOf_eq h1]
    rfl
  | .none :: _, _, h => by cases h
  | .bool _ :: _, _, h => by cases h
  | .str _ :: _, _, h => by cases h
  | .list _ :: _, _, h => by cases h
  | .tuple _ :: _, _, h => by cases h
  | .dict _ :: _, _, h => by cases h
theorem boolsOf_eq : ∀ {xs : List D} {ns : List Bool}, boolsOf xs = some ns → xs = ns.map .bool
  | [], _, h => by cases h; rfl
  | .bool i :: xs, ns, h => by
    simp only [boolsOf, Option.map_eq_some_iff] at h
    obtain ⟨a, h1, rfl⟩ := h
    rw [boolsOf_eq h1]
    rfl
  | .none :: _, _, h => by cases h
  | .int _ :: _, _, h => by cases h
  | .str _ :: _, _, h => by cases h
  | .list _ :: _, _, h => by cases h
  | .tuple _ :: _, _, h => by cases h
  | .dict _ :: _, _, h => by cases h

def r2 (K : PySem.W.Frag) (p : D → D → Option D) (fr : Bool) : R2 := fun x y H Q =>
  ∃ M dx dy d, Same M H ∧ Pk K M H x dx ∧ Pk K M H y dy ∧ p dx dy = some d ∧ ∀ v H', OpRes K M H fr v H' d → Q v H'

theorem res_int {K : PySem.W.Frag} {M H : Hp} {f : Bool} (i : Int) : OpRes K M H f (.int i) H (.int i) := Or.inl ⟨rfl, .int i, fun _ _ z => by cases z⟩
theorem res_bl {K : PySem.W.Frag} {M H : Hp} {f : Bool} (i : Bool) : OpRes K M H f (.bl i) H (.bool i) := Or.inl ⟨rfl, .bl i, fun _ _ z => by cases z⟩
theorem res_str {K : PySem.W.Frag} {M H : Hp} {f : Bool} (i : Str) : OpRes K M H f (.str i) H (.str i) := Or.inl ⟨rfl, .str i, fun _ _ z => by cases z⟩
theorem res_lst {K : PySem.W.Frag} {M H : Hp} {f : Bool} {a : Addr} {vs : List V} {ds : List D} (ha : H a = none) (h : HdA K M vs ds) : OpRes K M H f (.ref a) (upd H a (.lst vs)) (.list ds) :=
  Or.inr (Or.inl ⟨a, vs, ds, rfl, rfl, ha, rfl, h⟩)
theorem res_tup {K : PySem.W.Frag} {M H : Hp} {f : Bool} {a : Addr} {vs : List V} {ds : List D} (ha : H a = none) (h : HdA K M vs ds) : OpRes K M H f (.ref a) (upd H a (.tup vs)) (.tuple ds) :=
  Or.inr (Or.inr ⟨a, vs, ds, rfl, rfl, ha, rfl, h⟩)
theorem res_old {K : PySem.W.Frag} {M H : Hp} {f : Bool} {a : Addr} {vs : List V} {ds : List D} (ha : SqT K M a vs) (h : HdA K M vs ds) : OpRes K M H f (.ref a) H (.tuple ds) :=
  Or.inl ⟨rfl, .tup ha h, fun _ _ z => by cases z⟩
theorem line_eq : Line = sizeLine := by decide
theorem fit_le {n : Nat} (h : fitN n = true) : n ≤ sizeLine := by
  have := of_decide_eq_true h
  rw [← line_eq]
  exact this

theorem bop_ok {X : Cx} (op : Operator) : OpR X (binaryOp op) (r2 X.K (bop op) true) := by
  intro pins s σ H x y v u Q I rx ry h
  obtain ⟨M, dx, dy, d, sm, px, py, e, q⟩ := h
  unfold bop at e
  split at e
  case h_1 i j =>
    cases e
    obtain rfl := px.int
    obtain rfl := py.int
    exact op_add pins s σ H _ _ v u Q I rx ry ⟨i, j, rfl, rfl, q _ _ (res_int _)⟩
  case h_2 a b =>
    split at e <;> cases e
    rename_i hf
    obtain rfl := px.str
    obtain rfl := py.str
    exact op_add_str pins s σ H _ _ v u Q I rx ry ⟨a, b, rfl, rfl, fit_le hf, q _ _ (res_str _)⟩
  case h_3 a b =>
    split at e <;> cases e
    rename_i hf
    obtain ⟨p, vs, rfl, hp, h1⟩ := px.lst sm
    obtain ⟨p', ws, rfl, hp', h2⟩ := py.lst sm
    refine op_cat pins s σ H _ _ v u Q I rx ry ⟨p, p', vs, ws, rfl, rfl, hp, hp', ?_, fun z hz => q _ _ (res_lst hz (h1.append h2))⟩
    rw [h1.length, h2.length]
    exact fit_le hf
  case h_4 a b =>
    split at e <;> cases e
    rename_i hf
    obtain ⟨p, vs, rfl, hp, hm, h1⟩ := px.tup sm
    obtain ⟨p', ws, rfl, hp', hm', h2⟩ := py.tup sm
    refine op_catA pins s σ H _ _ v u Q I rx ry ⟨p, p', vs, ws, rfl, rfl, hp, hp', ?_, fun z => ?_, fun z z' => ?_, fun _ _ z hz => q _ _ (res_tup hz (h1.append h2))⟩
    · rw [h1.length, h2.length]
      exact fit_le hf
    · subst z
      cases h1
      exact q _ _ (res_old hm' h2)
    · subst z'
      cases h2
      rw [List.append_nil] at q
      exact q _ _ (res_old hm h1)
  case h_5 i j =>
    cases e
    obtain rfl := px.int
    obtain rfl := py.int
    exact op_sub pins s σ H _ _ v u Q I rx ry ⟨i, j, rfl, rfl, q _ _ (res_int _)⟩
  case h_6 i j =>
    split at e <;> cases e
    rename_i hf
    obtain rfl := px.int
    obtain rfl := py.int
    exact op_mulW pins s σ H _ _ v u Q I rx ry ⟨i, j, rfl, rfl, hf, q _ _ (res_int _)⟩
  case h_7 a k =>
    split at e <;> cases e
    rename_i hf
    obtain ⟨p, vs, rfl, hp, h1⟩ := px.lst sm
    obtain rfl := py.int
    refine op_rep pins s σ H _ _ v u Q I rx ry ⟨p, k, vs, rfl, rfl, hp, ?_, ?_, ?_, fun z hz => q _ _ (res_lst hz (h1.rep _))⟩
    · omega
    · omega
    · rw [h1.length, ← line_eq]
      exact hf.2.2
  case h_8 a k =>
    split at e <;> cases e
    rename_i hf
    obtain ⟨p, vs, rfl, hp, hm, h1⟩ := px.tup sm
    obtain rfl := py.int
    refine op_repT pins s σ H _ _ v u Q I rx ry ⟨p, k, vs, rfl, rfl, hp, ?_, hf.2.1, hf.2.2.1, ?_, fun z hz => q _ _ (res_tup hz (h1.rep _))⟩
    · rintro rfl
      cases h1
      exact absurd hf.1 (by decide)
    · rw [h1.length]
      exact hf.2.2.2
  case h_9 i j =>
    split at e <;> cases e
    rename_i hf
    obtain rfl := px.int
    obtain rfl := py.int
    exact op_fdivW pins s σ H _ _ v u Q I rx ry ⟨i, j, rfl, rfl, hf, q _ _ (res_int _)⟩
  case h_10 i j =>
    split at e <;> cases e
    rename_i hf
    obtain rfl := px.int
    obtain rfl := py.int
    exact op_mod pins s σ H _ _ v u Q I rx ry ⟨i, j, rfl, rfl, hf, q _ _ (res_int _)⟩
  case h_11 i j =>
    split at e <;> cases e
    rename_i hf
    obtain rfl := px.int
    obtain rfl := py.int
    exact op_pow pins s σ H _ _ v u Q I rx ry ⟨i, j, rfl, rfl, hf, q _ _ (res_int _)⟩
  case h_12 => cases e

theorem shaped_nd {d : D} (h : SeqAt.shaped d = true) : ∀ k, d ≠ .dict k := by
  rintro k rfl
  simp [SeqAt.shaped, PyData.canLay0] at h

def r2b (K : PySem.W.Frag) (p : D → D → Option Bool) : R2 := fun x y H Q =>
  ∃ M dx dy b, Same M H ∧ Pk K M H x dx ∧ Pk K M H y dy ∧ p dx dy = some b ∧ Q (.bl b) H

theorem strEq_of {dx dy : D} {b : Bool} (h : strEq dx dy = some b) : ∃ a c, dx = .str a ∧ dy = .str c ∧ b = (a == c) := by
  unfold strEq at h
  split at h
  · cases h
    exact ⟨_, _, rfl, rfl, rfl⟩
  · cases h
theorem str_beq {a c : Str} : decide (V.str a = V.str c) = (a == c) := by
  rw [Bool.eq_iff_iff]
  simp
theorem cop_ok {X : Cx} (op : CmpOp) (hu : X.A.units + 65 < cLine) : OpR X (compareOp op) (r2b X.K (cop op)) := by
  intro pins s σ H x y v u Q I rx ry h
  obtain ⟨M, dx, dy, b, sm, px, py, e, q⟩ := h
  have hu64 : X.A.units + 64 < cLine := by omega
  unfold cop at e
  split at e
  case h_1 =>
    split at e
    · cases e
      rename_i hf
      rw [Bool.and_eq_true] at hf
      exact op_eqD hu64 pins s σ H _ _ v u Q I rx ry ⟨_, _, px.dp sm (shaped_nd hf.1), py.dp sm (shaped_nd hf.2), hf.1, hf.2, q⟩
    · obtain ⟨a, c, rfl, rfl, rfl⟩ := strEq_of e
      obtain rfl := px.str
      obtain rfl := py.str
      refine op_eq pins s σ H _ _ v u Q I rx ry ⟨rfl, ?_⟩
      rw [str_beq]
      exact q
  case h_2 =>
    split at e
    · cases e
      rename_i hf
      rw [Bool.and_eq_true] at hf
      exact op_neD hu64 pins s σ H _ _ v u Q I rx ry ⟨_, _, px.dp sm (shaped_nd hf.1), py.dp sm (shaped_nd hf.2), hf.1, hf.2, q⟩
    · rw [Option.map_eq_some_iff] at e
      obtain ⟨b', e, rfl⟩ := e
      obtain ⟨a, c, rfl, rfl, rfl⟩ := strEq_of e
      obtain rfl := px.str
      obtain rfl := py.str
      refine op_ne pins s σ H _ _ v u Q I rx ry ⟨rfl, ?_⟩
      rw [str_beq]
      exact q
  case h_3 i j =>
    cases e
    obtain rfl := px.int
    obtain rfl := py.int
    exact op_lt pins s σ H _ _ v u Q I rx ry ⟨i, j, rfl, rfl, q⟩
  case h_4 i j =>
    cases e
    obtain rfl := px.int
    obtain rfl := py.int
    exact op_le pins s σ H _ _ v u Q I rx ry ⟨i, j, rfl, rfl, q⟩
  case h_5 i j =>
    cases e
    obtain rfl := px.int
    obtain rfl := py.int
    exact op_gt pins s σ H _ _ v u Q I rx ry ⟨i, j, rfl, rfl, q⟩
  case h_6 i j =>
    cases e
    obtain rfl := px.int
    obtain rfl := py.int
    exact op_ge pins s σ H _ _ v u Q I rx ry ⟨i, j, rfl, rfl, q⟩
  case h_7 xs ys =>
    split at e
    · rename_i ns ms e1 e2
      cases e
      have h1 := intsOf_eq e1
      have h2 := intsOf_eq e2
      subst h1 h2
      obtain ⟨p, vs, rfl, hp, hm, a1⟩ := px.tup sm
      obtain ⟨p', ws, rfl, hp', hm', a2⟩ := py.tup sm
      have z1 := hdA_ints a1
      have z2 := hdA_ints a2
      subst z1 z2
      exact op_ltT (by omega) pins s σ H _ _ v u Q I rx ry ⟨p, p', ns, ms, rfl, rfl, hp, hp', q⟩
    · cases e
  case h_8 =>
    cases e
    obtain rfl := py.non
    refine op_isN pins s σ H _ _ v u Q I rx ry ⟨rfl, ?_⟩
    cases px with
    | sh h => cases h <;> exact q
    | ow _ _ => exact q
    | od _ _ _ => exact q
  case h_9 =>
    cases e
    obtain rfl := py.non
    refine op_notN pins s σ H _ _ v u Q I rx ry ⟨rfl, ?_⟩
    cases px with
    | sh h => cases h <;> exact q
    | ow _ _ => exact q
    | od _ _ _ => exact q
  case h_10 a c =>
    cases e
    obtain rfl := px.bl
    obtain rfl := py.bl
    exact op_isBl pins s σ H _ _ v u Q I rx ry ⟨a, c, rfl, rfl, q⟩
  case h_11 a c =>
    cases e
    obtain rfl := px.bl
    obtain rfl := py.bl
    exact op_notBl pins s σ H _ _ v u Q I rx ry ⟨a, c, rfl, rfl, q⟩
  case h_12 ys =>
    split at e <;> cases e
    rename_i hf
    rw [Bool.and_eq_true] at hf
    exact op_inD hu pins s σ H _ _ v u Q I rx ry ⟨_, _, px.dp sm (shaped_nd hf.1), py.dp sm (shaped_nd hf.2), hf.1, hf.2, q⟩
  case h_13 ys =>
    split at e <;> cases e
    rename_i hf
    rw [Bool.and_eq_true] at hf
    exact op_notInD hu pins s σ H _ _ v u Q I rx ry ⟨_, _, px.dp sm (shaped_nd hf.1), py.dp sm (shaped_nd hf.2), hf.1, hf.2, q⟩
  case h_14 ys =>
    split at e <;> cases e
    rename_i hf
    rw [Bool.and_eq_true] at hf
    obtain ⟨as, r1⟩ := Dp.reads I _ _ _ (px.dp sm (shaped_nd hf.1)) rx
    obtain ⟨bs, r2⟩ := Dp.reads I _ _ _ (py.dp sm (shaped_nd hf.2)) ry
    exact SeqAt.in_tuple_reads r2 r1 (SeqAt.canLay_of_shaped hf.2) (SeqAt.canLay_of_shaped hf.1) (room_in_shaped hf.1 hu) ⟨.bl _, H, I, rfl, q⟩
  case h_15 ys =>
    split at e <;> cases e
    rename_i hf
    rw [Bool.and_eq_true] at hf
    obtain ⟨as, r1⟩ := Dp.reads I _ _ _ (px.dp sm (shaped_nd hf.1)) rx
    obtain ⟨bs, r2⟩ := Dp.reads I _ _ _ (py.dp sm (shaped_nd hf.2)) ry
    exact SeqAt.notIn_tuple_reads r2 r1 (SeqAt.canLay_of_shaped hf.2) (SeqAt.canLay_of_shaped hf.1) (room_in_shaped hf.1 hu) ⟨.bl _, H, I, rfl, q⟩
  case h_16 => cases e

/-! ### subscripts -/
theorem IxR.imp {X : Cx} {r r' : R2} (h : IxR X r) (hi : ∀ x y H Q, r' x y H Q → r x y H Q) : IxR X r' :=
  fun value slice pins s σ H x y v u Q I rx ry q => h value slice pins s σ H x y v u Q I rx ry (hi _ _ _ _ q)
theorem atI_nil {α : Type} (i : Int) : atI ([] : List α) i = none := by
  unfold atI
  cases ixN ([] : List α).length i with
  | none => rfl
  | some j => simp
theorem atI_hd {K : PySem.W.Frag} {M : Hp} {vs : List V} {ds : List D} {i : Int} {d : D} (h : HdA K M vs ds) (e : atI ds i = some d) : ∃ v, atI vs i = some v ∧ Hd K M v d := by
  unfold atI at e ⊢
  rw [h.length]
  cases hx : ixN ds.length i with
  | none => rw [hx] at e; cases e
  | some j =>
    rw [hx] at e
    exact h.get e
theorem ix_ok {X : Cx} : IxR X (r2 X.K ixD false) := by
  refine IxR.imp ix_seq (fun x y H Q h => ?_)
  obtain ⟨M, dx, dy, d, sm, px, py, e, q⟩ := h
  unfold ixD at e
  split at e
  · rename_i xs i
    obtain ⟨a, vs, rfl, ha, hA⟩ := px.lst sm
    obtain rfl := py.int
    obtain ⟨v, h1, h2⟩ := atI_hd hA e
    exact Or.inl ⟨a, vs, i, v, rfl, rfl, SqL.of ha, h1, q _ _ (Or.inl ⟨rfl, h2, fun z => nomatch z⟩)⟩
  · rename_i xs i
    obtain ⟨a, vs, rfl, ha, _, hA⟩ := px.tup sm
    obtain rfl := py.int
    obtain ⟨v, h1, h2⟩ := atI_hd hA e
    exact Or.inr (Or.inl ⟨a, vs, i, v, rfl, rfl, ha, h1, q _ _ (Or.inl ⟨rfl, h2, fun z => nomatch z⟩)⟩)
  · rename_i z i
    split at e
    · rename_i hf
      rw [Option.map_eq_some_iff] at e
      obtain ⟨c, h1, rfl⟩ := e
      obtain rfl := px.str
      obtain rfl := py.int
      exact Or.inr (Or.inr ⟨z, i, c, rfl, rfl, fit_le hf, h1, q _ _ (res_str _)⟩)
    · cases e
  · cases e

/-! ### slices -/
def rSl (K : PySem.W.Frag) : V → Option Int → Option Int → Hp → VK → Prop := fun x lo hi H Q =>
  ∃ M dx d, Same M H ∧ Pk K M H x dx ∧ slD dx lo hi = some d ∧ ∀ v H', OpRes K M H true v H' d → Q v H'
theorem SlR.imp {X : Cx} {r r' : V → Option Int → Option Int → Hp → VK → Prop} (h : SlR X r) (hi : ∀ x lo hi H Q, r' x lo hi H Q → r x lo hi H Q) : SlR X r' :=
  fun pins s σ H x v vl vu lo hi' sl Q I rx hs p1 p2 q => h pins s σ H x v vl vu lo hi' sl Q I rx hs p1 p2 (hi _ _ _ _ _ q)
theorem cut_hd {K : PySem.W.Frag} {M : Hp} {vs : List V} {ds : List D} (h : HdA K M vs ds) (lo hi : Option Int) : HdA K M (cutV vs lo hi) (cutD ds lo hi) := by
  unfold cutV cutD
  rw [h.length]
  exact (h.drop _).take _
theorem cut_all {α : Type} {xs : List α} {lo hi : Option Int} (h : HT.sIx xs.length 0 lo = 0 ∧ HT.sIx xs.length xs.length hi = xs.length) : cutD xs lo hi = xs := by
  unfold cutD
  rw [h.1, h.2]
  simp
theorem sl_ok {X : Cx} : SlR X (rSl X.K) := by
  refine SlR.imp (SlR.or sl_list (SlR.or sl_tupA sl_str)) (fun x lo hi H Q h => ?_)
  obtain ⟨M, dx, d, sm, px, e, q⟩ := h
  unfold slD at e
  split at e
  · cases e
    obtain ⟨a, vs, rfl, ha, hA⟩ := px.lst sm
    exact Or.inl ⟨a, vs, rfl, SqL.of ha, fun p hp => q _ _ (res_lst hp (cut_hd hA lo hi))⟩
  · cases e
    obtain ⟨a, vs, rfl, ha, hm, hA⟩ := px.tup sm
    refine Or.inr (Or.inl ⟨a, vs, rfl, ha, fun w => ?_, fun w p hp => q _ _ (res_tup hp (cut_hd hA lo hi))⟩)
    rw [hA.length] at w
    rw [cut_all w] at q
    exact q _ _ (res_old hm hA)
  · rename_i z
    split at e <;> cases e
    rename_i hf
    obtain rfl := px.str
    exact Or.inr (Or.inr ⟨z, rfl, fit_le hf, q _ _ (res_str _)⟩)
  · cases e

/-! ### truth -/
theorem isEmpty_hd {K : PySem.W.Frag} {M : Hp} {vs : List V} {ds : List D} (h : HdA K M vs ds) : vs.isEmpty = ds.isEmpty := by
  cases h <;> rfl
theorem tru_V {K : PySem.W.Frag} {M H : Hp} {x : V} {d : D} {b : Bool} (sm : Same M H) (h : Hd K M x d) (e : truth d = some b) : TruV K x H b := by
  cases h with
  | non => cases e; rfl
  | bl c => cases e; rfl
  | int i => cases e; rfl
  | str y =>
    simp only [truth] at e
    split at e <;> cases e
    rename_i hf
    exact ⟨fit_le hf, rfl⟩
  | lst h1 h2 =>
    cases e
    exact Or.inl ⟨_, SqL.of (sm _ _ h1), by rw [isEmpty_hd h2]⟩
  | tup h1 h2 =>
    cases e
    exact Or.inr (Or.inl ⟨_, sqT_mono (fun o q _ => sm _ o q) h1, by rw [isEmpty_hd h2]⟩)

/-! ### built-in functions -/
inductive PkA (K : PySem.W.Frag) (M H : Hp) : List V → List D → Prop
  | nil : PkA K M H [] []
  | cons {v : V} {vs : List V} {d : D} {ds : List D} : Pk K M H v d → PkA K M H vs ds → PkA K M H (v :: vs) (d :: ds)
def rBf (K : PySem.W.Frag) (f : Bf) : List V → Hp → VK → Prop := fun xs H Q =>
  ∃ M ds d, Same M H ∧ PkA K M H xs ds ∧ bfn f ds = some d ∧ ∀ v H', OpRes K M H true v H' d → Q v H'
theorem PkA.one {K : PySem.W.Frag} {M H : Hp} {xs : List V} {d : D} (p : PkA K M H xs [d]) : ∃ x, xs = [x] ∧ Pk K M H x d := by
  cases p with
  | cons a t => cases t; exact ⟨_, rfl, a⟩
theorem PkA.two {K : PySem.W.Frag} {M H : Hp} {xs : List V} {d e : D} (p : PkA K M H xs [d, e]) : ∃ x y, xs = [x, y] ∧ Pk K M H x d ∧ Pk K M H y e := by
  cases p with
  | cons a t =>
    cases t with
    | cons b t => cases t; exact ⟨_, _, rfl, a, b⟩
theorem PkA.three {K : PySem.W.Frag} {M H : Hp} {xs : List V} {d e f : D} (p : PkA K M H xs [d, e, f]) : ∃ x y z, xs = [x, y, z] ∧ Pk K M H x d ∧ Pk K M H y e ∧ Pk K M H z f := by
  cases p with
  | cons a t =>
    obtain ⟨y, z, rfl, b, c⟩ := PkA.two t
    exact ⟨_, _, _, rfl, a, b, c⟩
theorem maxL_mem : ∀ {l : List Int} {a : Int}, (l.foldl (fun a b => if b > a then b else a) a ∈ a :: l) ∧ ∀ y ∈ a :: l, y ≤ l.foldl (fun a b => if b > a then b else a) a
  | [], a => ⟨by simp, by simp⟩
  | x :: r, a => by
    simp only [List.foldl_cons]
    by_cases hx : x > a
    · rw [if_pos hx]
      have h := @maxL_mem r x
      refine ⟨List.mem_cons_of_mem _ h.1, fun y hy => ?_⟩
      rcases List.mem_cons.mp hy with e | hy
      · have := h.2 x List.mem_cons_self
        omega
      · exact h.2 y hy
    · rw [if_neg hx]
      have h := @maxL_mem r a
      refine ⟨?_, fun y hy => ?_⟩
      · rcases List.mem_cons.mp h.1 with e | e
        · rw [e]
          exact List.mem_cons_self
        · exact List.mem_cons_of_mem _ (List.mem_cons_of_mem _ e)
      · rcases List.mem_cons.mp hy with e | hy
        · subst e
          exact h.2 _ List.mem_cons_self
        · rcases List.mem_cons.mp hy with e | hy
          · have := h.2 a List.mem_cons_self
            omega
          · exact h.2 y (List.mem_cons_of_mem _ hy)
theorem minL_mem : ∀ {l : List Int} {a : Int}, (l.foldl (fun a b => if b < a then b else a) a ∈ a :: l) ∧ ∀ y ∈ a :: l, l.foldl (fun a b => if b < a then b else a) a ≤ y
  | [], a => ⟨by simp, by simp⟩
  | x :: r, a => by
    simp only [List.foldl_cons]
    by_cases hx : x < a
    · rw [if_pos hx]
      have h := @minL_mem r x
      refine ⟨List.mem_cons_of_mem _ h.1, fun y hy => ?_⟩
      rcases List.mem_cons.mp hy with e | hy
      · have := h.2 x List.mem_cons_self
        omega
      · exact h.2 y hy
    · rw [if_neg hx]
      have h := @minL_mem r a
      refine ⟨?_, fun y hy => ?_⟩
      · rcases List.mem_cons.mp h.1 with e | e
        · rw [e]
          exact List.mem_cons_self
        · exact List.mem_cons_of_mem _ (List.mem_cons_of_mem _ e)
      · rcases List.mem_cons.mp hy with e | hy
        · subst e
          exact h.2 _ List.mem_cons_self
        · rcases List.mem_cons.mp hy with e | hy
          · have := h.2 a List.mem_cons_self
            omega
          · exact h.2 y (List.mem_cons_of_mem _ hy)
theorem maxL_is {ns : List Int} {m k : Int} (h : maxL ns = some m) (h1 : k ∈ ns) (h2 : ∀ y, y ∈ ns → y ≤ k) : k = m := by
  cases ns with
  | nil => cases h
  | cons x r =>
    cases h
    have a := @maxL_mem r x
    have b := a.2 _ h1
    have c := h2 _ a.1
    omega
theorem minL_is {ns : List Int} {m k : Int} (h : minL ns = some m) (h1 : k ∈ ns) (h2 : ∀ y, y ∈ ns → k ≤ y) : k = m := by
  cases ns with
  | nil => cases h
  | cons x r =>
    cases h
    have a := @minL_mem r x
    have b := a.2 _ h1
    have c := h2 _ a.1
    omega
theorem sorted_same {a b : List Int} (hp : a.Perm b) (ha : a.Pairwise (· ≤ ·)) : a = b.mergeSort (fun x y => decide (x ≤ y)) := by
  have h1 : (b.mergeSort (fun x y => decide (x ≤ y))).Pairwise (· ≤ ·) := by
    have := List.pairwise_mergeSort (le := fun x y : Int => decide (x ≤ y)) (fun a b c => by simp only [decide_eq_true_eq]; omega) (fun a b => by simp only [Bool.or_eq_true, decide_eq_true_eq]; omega) b
    exact this.imp (fun h => of_decide_eq_true h)
  exact List.Perm.eq_of_pairwise (fun x y _ _ h1 h2 => by omega) ha h1 (hp.trans (List.mergeSort_perm b _).symm)

theorem ints_hd {K : PySem.W.Frag} {M : Hp} {vs : List V} {ds : List D} {ns : List Int} (h : HdA K M vs ds) (e : intsOf ds = some ns) : vs = ns.map V.int := by
  have := intsOf_eq e
  subst this
  exact hdA_ints h
theorem bools_hd {K : PySem.W.Frag} {M : Hp} {vs : List V} {ds : List D} {ns : List Bool} (h : HdA K M vs ds) (e : boolsOf ds = some ns) : vs = ns.map V.bl := by
  have := boolsOf_eq e
  subst this
  exact hdA_bools h

section
variable {X : Cx} {Q : VK} {xs : List V} {us : List Value} {pins : List (Addr × Obj)} {s : Shared} {σ : L2.St} {H : Hp}
/-- the built-in that a name stands for -/
def Bf.val : Bf → Value
  | .len => .builtin "len" | .all => .builtin "all" | .any => .builtin "any" | .max => .builtin "max" | .min => .builtin "min" | .sum => .builtin "sum"
  | .int => .type "int" | .list => .type "list" | .tuple => .type "tuple" | .repr => .builtin "repr" | .str => .type "str" | .abs => .builtin "abs" | .sorted => .builtin "sorted"
theorem repr_ok (hg : X.A.guards = some []) (hu : X.A.units + 66 < cLine) {M : Hp} {d' : D} {x : V} {u : Value} (I : Inv X pins σ H s) (ru : RelV x u)
    (sm : Same M H) (px : Pk X.K M H x d') (hf : reprOk d' = true) (q : Q (.str d'.shown) H) : wpAny (model X.prog X.w) X.A (call (.builtin "repr") [u]) (EP X pins σ Q) X.xe s := by
  simp only [reprOk, Bool.and_eq_true, Bool.not_eq_true', decide_eq_true_eq] at hf
  obtain ⟨⟨⟨h1, h2⟩, h3⟩, h4⟩ := hf
  have nd : ∀ k, d' ≠ .dict k := by
    rintro k rfl
    simp [PyData.hasDict] at h2
  have dp := px.dp sm nd
  have fin : ∀ (tk : Nat) (h' : Heap) (u : Tok), (∀ b o, s.heap.get? b = some o → h'.get? b = some o) → EP X pins σ Q (.str d'.shown u) { s with heap := h', toks := tk } :=
    fun tk h' u k => ⟨.str d'.shown, H, I.kept (t' := tk) k, ⟨_, rfl⟩, q⟩
  have fin0 : EP X pins σ Q (.str d'.shown s.toks) { s with toks := s.toks + 1 } := fin _ s.heap _ (fun _ _ e => e)
  have hsz := fit_le h4
  obtain ⟨as, rr⟩ := Dp.reads I _ _ _ dp ru
  cases rr with
  | none => exact PySem.P.repr_of_none fin0
  | bool b => exact PySem.P.repr_of_bool fin0
  | int i t => exact PySem.P.repr_of_int (by simpa [PyData.showable] using h1) fin0
  | str x t => exact PySem.P.repr_of_str fin0 hsz
  | list a1 a2 a3 a4 =>
    exact repr_of_reads' (.list a1 a2 a3 a4) h1 (PyData.noDict_hsm h2) hg (by omega) (fun _ _ e => e) (fun h' u tk k => fin tk h' u k) hsz
  | tuple a1 a2 a3 a4 =>
    exact repr_of_reads' (.tuple a1 a2 a3 a4) h1 (PyData.noDict_hsm h2) hg (by omega) (fun _ _ e => e) (fun h' u tk k => fin tk h' u k) hsz
  | dict _ _ _ _ _ => exact absurd rfl (nd _)

theorem bf_ok (hc : X.calm = true) (hg : X.A.guards = some []) (hu : X.A.units + 66 < cLine) (f : Bf) : CallR X f.val (rBf X.K f) := by
  intro pins s σ H xs us Q I r h
  obtain ⟨M, ds, d, sm, p, e, q⟩ := h
  unfold bfn at e
  split at e
  case h_1 a =>
    cases e
    obtain ⟨x, rfl, px⟩ := p.one
    obtain ⟨b, vs, rfl, hb, hA⟩ := px.lst sm
    rw [← hA.length] at q
    exact call_len_seq pins s σ H _ us Q I r ⟨b, vs, rfl, Or.inl (SqL.of hb), q _ _ (res_int _)⟩
  case h_2 a =>
    cases e
    obtain ⟨x, rfl, px⟩ := p.one
    obtain ⟨b, vs, rfl, hb, _, hA⟩ := px.tup sm
    rw [← hA.length] at q
    exact call_len_seq pins s σ H _ us Q I r ⟨b, vs, rfl, Or.inr hb, q _ _ (res_int _)⟩
  case h_3 a =>
    split at e <;> cases e
    rename_i hf
    obtain ⟨x, rfl, px⟩ := p.one
    obtain rfl := px.str
    exact call_len_str pins s σ H _ us Q I r ⟨_, rfl, fit_le hf, q _ _ (res_int _)⟩
  case h_4 a =>
    rw [Option.map_eq_some_iff] at e
    obtain ⟨bs, e1, rfl⟩ := e
    obtain ⟨x, rfl, px⟩ := p.one
    obtain ⟨b, vs, rfl, hb, hA⟩ := px.lst sm
    have := bools_hd hA e1
    subst this
    exact cr_all hc pins s σ H _ us Q I r ⟨b, bs, rfl, SqL.of hb, q _ _ (res_bl _)⟩
  case h_5 a =>
    rw [Option.map_eq_some_iff] at e
    obtain ⟨bs, e1, rfl⟩ := e
    obtain ⟨x, rfl, px⟩ := p.one
    obtain ⟨b, vs, rfl, hb, hA⟩ := px.lst sm
    have := bools_hd hA e1
    subst this
    exact cr_any hc pins s σ H _ us Q I r ⟨b, bs, rfl, SqL.of hb, q _ _ (res_bl _)⟩
  case h_6 i j =>
    cases e
    obtain ⟨x, y, rfl, px, py⟩ := p.two
    obtain rfl := px.int
    obtain rfl := py.int
    exact call_max2 hc pins s σ H _ us Q I r ⟨_, _, rfl, q _ _ (res_int _)⟩
  case h_7 i j =>
    cases e
    obtain ⟨x, y, rfl, px, py⟩ := p.two
    obtain rfl := px.int
    obtain rfl := py.int
    exact call_min2 hc pins s σ H _ us Q I r ⟨_, _, rfl, q _ _ (res_int _)⟩
  case h_8 a =>
    rw [Option.bind_eq_some_iff] at e
    obtain ⟨ns, e1, e2⟩ := e
    rw [Option.map_eq_some_iff] at e2
    obtain ⟨m, e2, rfl⟩ := e2
    obtain ⟨x, rfl, px⟩ := p.one
    obtain ⟨b, vs, rfl, hb, hA⟩ := px.lst sm
    have := ints_hd hA e1
    subst this
    refine cr_max hc pins s σ H _ us Q I r ⟨b, ns, rfl, SqL.of hb, ?_, fun k k1 k2 => ?_⟩
    · cases ns with
      | nil => cases e2
      | cons _ _ => exact Nat.succ_pos _
    · rw [maxL_is e2 k1 k2]
      exact q _ _ (res_int _)
  case h_9 a =>
    rw [Option.bind_eq_some_iff] at e
    obtain ⟨ns, e1, e2⟩ := e
    rw [Option.map_eq_some_iff] at e2
    obtain ⟨m, e2, rfl⟩ := e2
    obtain ⟨x, rfl, px⟩ := p.one
    obtain ⟨b, vs, rfl, hb, hA⟩ := px.lst sm
    have := ints_hd hA e1
    subst this
    refine cr_min hc pins s σ H _ us Q I r ⟨b, ns, rfl, SqL.of hb, ?_, fun k k1 k2 => ?_⟩
    · cases ns with
      | nil => cases e2
      | cons _ _ => exact Nat.succ_pos _
    · rw [minL_is e2 k1 k2]
      exact q _ _ (res_int _)
  case h_10 a =>
    rw [Option.map_eq_some_iff] at e
    obtain ⟨ns, e1, rfl⟩ := e
    obtain ⟨x, rfl, px⟩ := p.one
    obtain ⟨b, vs, rfl, hb, hA⟩ := px.lst sm
    have := ints_hd hA e1
    subst this
    exact cr_sum hc pins s σ H _ us Q I r ⟨b, ns, rfl, SqL.of hb, q _ _ (res_int _)⟩
  case h_11 i =>
    cases e
    obtain ⟨x, rfl, px⟩ := p.one
    obtain rfl := px.int
    exact call_int1 pins s σ H _ us Q I r (Or.inl ⟨_, rfl, q _ _ (res_int _)⟩)
  case h_12 i =>
    cases e
    obtain ⟨x, rfl, px⟩ := p.one
    obtain rfl := px.bl
    exact call_int1 pins s σ H _ us Q I r (Or.inr ⟨_, rfl, q _ _ (res_int _)⟩)
  case h_13 a =>
    cases e
    obtain ⟨x, rfl, px⟩ := p.one
    obtain ⟨b, vs, rfl, hb, hA⟩ := px.lst sm
    exact call_list_of pins s σ H _ us Q I r ⟨b, vs, rfl, Or.inl (SqL.of hb), fun l hl => q _ _ (res_lst hl hA)⟩
  case h_14 a =>
    cases e
    obtain ⟨x, rfl, px⟩ := p.one
    obtain ⟨b, vs, rfl, hb, _, hA⟩ := px.tup sm
    exact call_list_of pins s σ H _ us Q I r ⟨b, vs, rfl, Or.inr hb, fun l hl => q _ _ (res_lst hl hA)⟩
  case h_15 a =>
    cases e
    obtain ⟨x, rfl, px⟩ := p.one
    obtain ⟨b, vs, rfl, hb, hA⟩ := px.lst sm
    exact call_tuple_of pins s σ H _ us Q I r ⟨b, vs, rfl, Or.inl ⟨SqL.of hb, fun l hl => q _ _ (res_tup hl hA)⟩⟩
  case h_16 a =>
    cases e
    obtain ⟨x, rfl, px⟩ := p.one
    obtain ⟨b, vs, rfl, hb, hm, hA⟩ := px.tup sm
    exact call_tuple_of pins s σ H _ us Q I r ⟨b, vs, rfl, Or.inr ⟨hb, q _ _ (res_old hm hA)⟩⟩
  case h_18 i =>
    split at e <;> cases e
    rename_i hf
    obtain ⟨x, rfl, px⟩ := p.one
    obtain rfl := px.int
    exact call_str_int pins s σ H _ us Q I r ⟨_, rfl, hf, q _ _ (res_str _)⟩
  case h_19 i =>
    cases e
    obtain ⟨x, rfl, px⟩ := p.one
    obtain rfl := px.int
    exact call_abs pins s σ H _ us Q I r ⟨_, rfl, q _ _ (res_int _)⟩
  case h_20 a =>
    rw [Option.map_eq_some_iff] at e
    obtain ⟨ns, e1, rfl⟩ := e
    obtain ⟨x, rfl, px⟩ := p.one
    obtain ⟨b, vs, rfl, hb, hA⟩ := px.lst sm
    have := ints_hd hA e1
    subst this
    refine cr_sortedI pins s σ H _ us Q I r ⟨b, ns, rfl, SqL.of hb, fun ns' p' h1 h2 hp => ?_⟩
    rw [sorted_same h1 h2]
    exact q _ _ (res_lst hp (hdA_of_ints _))
  case h_17 d' =>
    split at e <;> cases e
    rename_i hf
    obtain ⟨x, rfl, px⟩ := p.one
    obtain ⟨u, rfl, ru⟩ := r.one
    exact repr_ok hg hu I ru sm px hf (q _ _ (res_str _))
  case h_21 i j k =>
    cases e
    obtain ⟨x, y, z, rfl, px, py, pz⟩ := p.three
    obtain rfl := px.int
    obtain rfl := py.int
    obtain rfl := pz.int
    refine call_max3Nu hc pins s σ H _ us Q I r ⟨_, _, _, .int (max3 i j k), rfl, ?_, q _ _ (res_int _)⟩
    unfold max3
    by_cases h1 : i < j
    · by_cases h2 : j < k <;> simp [nuMax3, nuMax2, nuLt, nuCB, h1, h2]
    · by_cases h2 : i < k <;> simp [nuMax3, nuMax2, nuLt, nuCB, h1, h2]
  case h_22 i j k =>
    cases e
    obtain ⟨x, y, z, rfl, px, py, pz⟩ := p.three
    obtain rfl := px.int
    obtain rfl := py.int
    obtain rfl := pz.int
    refine call_min3Nu hc pins s σ H _ us Q I r ⟨_, _, _, .int (min3 i j k), rfl, ?_, q _ _ (res_int _)⟩
    unfold min3
    by_cases h1 : j < i
    · by_cases h2 : k < j <;> simp [nuMin3, nuMin2, nuLt, nuCB, h1, h2]
    · by_cases h2 : k < i <;> simp [nuMin3, nuMin2, nuLt, nuCB, h1, h2]
  case h_23 => cases e

/-! ### isinstance -/
def tyN : Ty → String
  | .int => "int" | .bool => "bool" | .str => "str" | .tuple => "tuple" | .list => "list"
def rIs (K : PySem.W.Frag) (t : Ty) : V → Hp → VK → Prop := fun x H Q => ∃ M d b, Same M H ∧ Pk K M H x d ∧ isD t d = some b ∧ Q (.bl b) H
theorem is_ok (t : Ty) (pins : List (Addr × Obj)) (s : Shared) (σ : L2.St) (H : Hp) (x : V) (u : Value) (Q : VK) (I : Inv X pins σ H s) (r : RelV x u) (h : rIs X.K t x H Q) :
    wpAny (model X.prog X.w) X.A (call (.builtin "isinstance") [u, .type (tyN t)]) (EP X pins σ Q) X.xe s := by
  obtain ⟨M, d, b, sm, px, e, q⟩ := h
  have go : ∀ (T : String), TyX X.K H x (.type T) → kitB T (tyN t) = some b → wpAny (model X.prog X.w) X.A (call (.builtin "isinstance") [u, .type (tyN t)]) (EP X pins σ Q) X.xe s := fun T hT hk =>
    call_isi pins s σ H [x, .ty (tyN t)] [u, .type (tyN t)] Q I (.cons r (.cons rfl .nil)) ⟨x, _, _, _, b, rfl, .ty _, hT, kit_ty hk, q⟩
  have goL : ∀ ds, d = .list ds → TyX X.K H x (.type "list") := by
    rintro ds rfl
    obtain ⟨a, vs, rfl, ha, _⟩ := px.lst sm
    exact .base (.lst ha)
  have goT : ∀ ds, d = .tuple ds → TyX X.K H x (.type "tuple") := by
    rintro ds rfl
    obtain ⟨a, vs, rfl, ha, _⟩ := px.tup sm
    rcases ha with (ha | ⟨o, ha⟩) | ⟨o, its, n, hk, hc, _⟩
    · exact .base (.tup ha)
    · exact .fTuple ha
    · exact .kTuple hk hc
  cases d with
  | none =>
    obtain rfl := px.non
    refine go _ (.base .non) ?_
    cases e
    cases t <;> decide +kernel
  | bool c =>
    obtain rfl := px.bl
    refine go _ (.base (.bl c)) ?_
    cases e
    cases t <;> decide +kernel
  | int i =>
    obtain rfl := px.int
    refine go _ (.base (.int i)) ?_
    cases e
    cases t <;> decide +kernel
  | str z =>
    obtain rfl := px.str
    refine go _ (.base (.str z)) ?_
    cases e
    cases t <;> decide +kernel
  | tuple ds =>
    refine go _ (goT ds rfl) ?_
    cases e
    cases t <;> decide +kernel
  | list ds =>
    refine go _ (goL ds rfl) ?_
    cases e
    cases t <;> decide +kernel
  | dict k => cases e
end
end L3

set_option Elab.async false
set_option linter.all false
set_option maxRecDepth 100000
set_option maxHeartbeats 4000000
/-! readings by the core's answers; what is asked of a context; calls -/
namespace L3
open PySem PySem.Spec PyProof.Rows L2

def T (K : PySem.W.Frag) (fr : Bool) (f : Sls → R D) : TE := fun σ H Q => ∃ B M0 M sl d sl', Rel K B M0 M sl σ H ∧ f sl = .ok d sl' ∧
  ∀ M' v H', Same M M' → Res K fr B M0 M' sl' σ H' v d → Q v H'
def OvR (K : PySem.W.Frag) (M : Hp) (σ : L2.St) (v : V) : Ov → Prop
  | .inl d => Hd K M v d
  | .inr i => σ[i]? = some (some v)
theorem OvR.mono {K : PySem.W.Frag} {M M' : Hp} {σ : L2.St} {v : V} {o : Ov} (s : Same M M') (h : OvR K M σ v o) : OvR K M' σ v o := by
  cases o with
  | inl d => exact Hd.mono s _ _ h
  | inr i => exact h
def Tp (K : PySem.W.Frag) (g : Sls → R Ov) : TE := fun σ H Q => ∃ B M0 M sl o sl', Rel K B M0 M sl σ H ∧ g sl = .ok o sl' ∧
  ∀ M' v H', Same M M' → Rel K B M0 M' sl' σ H' → OvR K M' σ v o → Q v H'
def Tt (K : PySem.W.Frag) (f : Sls → R Bool) : TT := fun σ H Q => ∃ B M0 M sl b sl', Rel K B M0 M sl σ H ∧ f sl = .ok b sl' ∧
  ∀ M' H', Same M M' → Rel K B M0 M' sl' σ H' → Q b H'
def Ta (K : PySem.W.Frag) (f : Sls → R (List D)) : TA := fun σ H Q => ∃ B M0 M sl ds sl', Rel K B M0 M sl σ H ∧ f sl = .ok ds sl' ∧
  ∀ M' vs H', Same M M' → Rel K B M0 M' sl' σ H' → HdA K M' vs ds → Q vs H'
inductive OvA (K : PySem.W.Frag) (M : Hp) (σ : L2.St) : List V → List Ov → Prop
  | nil : OvA K M σ [] []
  | cons {v : V} {vs : List V} {o : Ov} {os : List Ov} : OvR K M σ v o → OvA K M σ vs os → OvA K M σ (v :: vs) (o :: os)
def Tpa (K : PySem.W.Frag) (f : Sls → R (List Ov)) : TA := fun σ H Q => ∃ B M0 M sl os sl', Rel K B M0 M sl σ H ∧ f sl = .ok os sl' ∧
  ∀ M' vs H', Same M M' → Rel K B M0 M' sl' σ H' → OvA K M' σ vs os → Q vs H'
def Tb (K : PySem.W.Frag) (f : Sls → R (Option Int)) : L2.TO := fun σ H Q => ∃ B M0 M sl o sl', Rel K B M0 M sl σ H ∧ f sl = .ok o sl' ∧
  ∀ M' H', Same M M' → Rel K B M0 M' sl' σ H' → Q o H'
def AvR (K : PySem.W.Frag) (M : Hp) (σ : L2.St) (v : V) : Av → Prop
  | .v d => Hd K M v d
  | .o i => σ[i]? = some (some v)
  | .p i => σ[i]? = some (some v)
  | .s i => σ[i]? = some (some v)
inductive AvA (K : PySem.W.Frag) (M : Hp) (σ : L2.St) : List V → List Av → Prop
  | nil : AvA K M σ [] []
  | cons {v : V} {vs : List V} {o : Av} {os : List Av} : AvR K M σ v o → AvA K M σ vs os → AvA K M σ (v :: vs) (o :: os)
def Tav (K : PySem.W.Frag) (f : Sls → R (List Av)) : TA := fun σ H Q => ∃ B M0 M sl as sl', Rel K B M0 M sl σ H ∧ f sl = .ok as sl' ∧
  ∀ M' vs H', Same M M' → Rel K B M0 M' sl' σ H' → AvA K M' σ vs as → Q vs H'

theorem pe_imp {X : Cx} {e : Expr} {t t' : TE} (h : PE X e t) (hi : ∀ σ H Q, t' σ H Q → t σ H Q) : PE X e t' :=
  ⟨fun pins s σ H Q I q => h.run pins s σ H Q I (hi _ _ _ q)⟩
theorem pt_imp {X : Cx} {e : Expr} {t t' : TT} (h : PT X e t) (hi : ∀ σ H Q, t' σ H Q → t σ H Q) : PT X e t' :=
  ⟨fun pins s σ H Q I q => h.run pins s σ H Q I (hi _ _ _ q)⟩
theorem pw_imp {X : Cx} {e : Expr} {t t' : TT} (h : PW X e t) (hi : ∀ σ H Q, t' σ H Q → t σ H Q) : PW X e t' :=
  ⟨fun wh pins s σ H Q I q => h.run wh pins s σ H Q I (hi _ _ _ q)⟩
theorem pa_imp {X : Cx} {e : List Expr} {t t' : TA} (h : PA X e t) (hi : ∀ σ H Q, t' σ H Q → t σ H Q) : PA X e t' :=
  ⟨fun pos pins s σ H Q I q => h.run pos pins s σ H Q I (hi _ _ _ q)⟩
theorem po_imp {X : Cx} {e : Option Expr} {t t' : L2.TO} (h : PO X e t) (hi : ∀ σ H Q, t' σ H Q → t σ H Q) : PO X e t' :=
  ⟨fun pins s σ H Q I q => h.run pins s σ H Q I (hi _ _ _ q)⟩
theorem ps_imp {X : Cx} {e : Stmt} {t t' : TS} (h : PS X e t) (hi : ∀ D σ H, t' D σ H → t D σ H) : PS X e t' :=
  ⟨fun pins s σ H D I q => h.run pins s σ H D I (hi _ _ _ q)⟩

section
variable {K : PySem.W.Frag}
/-- forget that it is new -/
theorem T.weak {f : Sls → R D} {b : Bool} {σ : L2.St} {H : Hp} {Q : VK} (h : T K false f σ H Q) : T K b f σ H Q := by
  obtain ⟨B, M0, M, sl, d, sl', r, e, q⟩ := h
  refine ⟨B, M0, M, sl, d, sl', r, e, fun M' v H' s rs => ?_⟩
  obtain ⟨M2, s2, r2, h2⟩ := rs.shared
  exact q M2 v H' (s.trans s2) (Or.inl ⟨(by intro z; cases z), r2, h2⟩)
theorem T.op {f : Sls → R D} {b : Bool} {σ : L2.St} {H : Hp} {Q : VK} (h : Tp K (fun s => (f s).bnd fun d s => .ok (.inl d) s) σ H Q) : T K b f σ H Q := by
  obtain ⟨B, M0, M, sl, d, sl', r, e, q⟩ := h
  obtain ⟨d1, s1, e1, e2⟩ := bnd_of e
  cases e2
  refine ⟨B, M0, M, sl, d1, sl', r, e1, fun M' v H' s rs => ?_⟩
  obtain ⟨M2, s2, r2, h2⟩ := rs.shared
  exact q M2 v H' (s.trans s2) r2 h2
/-- what an operand is when it is looked at -/
theorem rd_pk {B M0 M H : Hp} {sl : Sls} {σ : L2.St} {v : V} {o : Ov} {d : D} (r : Rel K B M0 M sl σ H) (h : OvR K M σ v o) (e : rd o sl = some d) : Pk K M H v d := by
  cases o with
  | inl d' =>
    cases e
    exact .sh h
  | inr i =>
    simp only [rd] at e
    split at e
    · rename_i d' hs
      cases e
      obtain ⟨w, h1, h2⟩ := r.sh hs
      have h' : σ[i]? = some (some v) := h
      rw [h1] at h'
      cases h'
      exact .sh h2
    · rename_i ob hs
      cases e
      obtain ⟨a, ho, h1, h2, h3, h4, h5⟩ := r.ow hs
      have h' : σ[i]? = some (some v) := h
      rw [h1] at h'
      cases h'
      cases ob with
      | l ds => cases ho <;> first | exact .ow h2 h5 | exact h5.elim
      | d kds => cases ho <;> first | exact .od h2 h5.1 h5.2 | exact h5.elim
    · cases e
theorem rdA_pk {B M0 M H : Hp} {sl : Sls} {σ : L2.St} : ∀ {vs : List V} {os : List Ov} {ds : List D}, Rel K B M0 M sl σ H → OvA K M σ vs os → rdA os sl = some ds → PkA K M H vs ds
  | _, _, _, r, .nil, e => by
    cases e
    exact .nil
  | _, _, ds, r, .cons (o := o) (os := os) h t, e => by
    unfold rdA at e
    cases h1 : rd o sl with
    | none => rw [h1] at e; cases e
    | some d =>
      rw [h1] at e
      cases h2 : rdA os sl with
      | none => rw [h2] at e; cases e
      | some ds' =>
        rw [h2] at e
        cases e
        exact .cons (rd_pk r h h1) (rdA_pk r t h2)
end

/-! ### a def's promise -/
def RetR (K : PySem.W.Frag) (rk : RK) (B M0 M : Hp) (sl : Sls) (σ : L2.St) (H : Hp) (v : V) (d : D) : Prop :=
  match rk with
  | .sh => Rel K B M0 M sl σ H ∧ Hd K M v d
  | .fr => Res K true B M0 M sl σ H v d
  | .io j => Rel K B M0 M sl σ H ∧ σ[j]? = some (some v)
/-- the slots that hold the caller's own objects stay what they are -/
def Kio (args : List Sl) (σ σ' : L2.St) : Prop := ∀ (i : Nat) (o : Ob), args[i]? = some (.ow o) → σ'[i]? = σ[i]?
def spD (K : PySem.W.Frag) (φ : Sem1) (np : Nat) (rk : RK) : Sp := fun vs H Q _ => ∃ (args : List Sl) (B M : Hp) (outs : List Sl) (d : D),
  vs.length = np ∧ Rel K B M M args (vs.map some) H ∧ φ args = some (d, outs) ∧
  ∀ v M' σ' H' sl', Same M M' → RetR K rk B M M' sl' σ' H' v d → sl'.take np = outs → Kio args (vs.map some) σ' → Q v H'

/-- names that stay the built-ins -/
def bltNames : List Str := ["len", "all", "any", "max", "min", "sum", "int", "list", "tuple", "repr", "str", "abs", "sorted", "isinstance", "bool", "range", "enumerate", "zip"]
structure Good (X : Cx) (k : Nat) (tb : Nat → Option Def) (Φ : Nat → Sem1) (sc : Scope) : Prop where
  calm : X.calm = true
  nd : X.N.Nodup
  room : Room k X.A
  gd : X.A.guards = some []
  nox : X.xe = fun _ _ => False
  loc : ∀ x, sc.names.lookup x = some .local → X.env.scope.names.lookup x = some .local
  cell : ∀ x, sc.names.lookup x = some .cell → X.env.scope.names.lookup x = some .cell ∧ X.fn x = true
  free : ∀ x, sc.names.lookup x = some .free → X.env.scope.names.lookup x = some .cell ∨ X.env.scope.names.lookup x = some .free
  glb : ∀ x, sc.names.lookup x = some .globalImplicit → X.env.kindOf x = some .globalImplicit
  fns : ∀ (j : Nat) (f : FunDef), tb j = some (.fn f) → ∃ (g : Addr) (fd : FuncData) (ps : List Str), X.mg f.nm = some (.ref g) ∧ PySem.W.keepIn X.K (.ref g) = true ∧ Binds X.K fd ps [] ∧ ps.length = f.np ∧
    (f.nm == ("__debug__" : Str)) = false ∧ FnG X.prog X.w X.K X.mg X.base CX0 k g fd ps (spD X.K (Φ j) f.np f.rk)
  csts : ∀ (j : Nat) (nm : Str) (d : D), tb j = some (.cst nm d) → (nm == ("__debug__" : Str)) = false ∧ (∃ u v, X.mg nm = some u ∧ RelV v u ∧ ∀ M, Hd X.K M v d) ∧ ∀ d' o, Φ j [] = some (d', o) → d' = d
  blt : ∀ x ∈ bltNames, X.mg x = none

/-! ### a call -/
theorem mem_o : ∀ {avs : List Av} {i : Nat}, Av.o i ∈ avs ↔ i ∈ oIx avs
  | [], i => by simp [oIx]
  | a :: r, i => by
    have h := @mem_o r i
    cases a <;> simp [oIx, h]
theorem mem_p : ∀ {avs : List Av} {i : Nat}, Av.p i ∈ avs ↔ i ∈ pIx avs
  | [], i => by simp [pIx]
  | a :: r, i => by
    have h := @mem_p r i
    cases a <;> simp [pIx, h]
theorem o_once : ∀ {avs : List Av}, (oIx avs).Nodup → ∀ {a b i : Nat}, avs[a]? = some (.o i) → avs[b]? = some (.o i) → a = b
  | [], _, _, _, _, h, _ => by simp at h
  | x :: r, nd, a, b, i, h1, h2 => by
    have nr : (oIx r).Nodup := by
      cases x with
      | o j => exact (List.nodup_cons.mp nd).2
      | v _ => exact nd
      | p _ => exact nd
      | s _ => exact nd
    cases a with
    | zero =>
      cases b with
      | zero => rfl
      | succ b =>
        simp at h1 h2
        subst h1
        exact absurd (mem_o.mp (List.mem_of_getElem? h2)) (List.nodup_cons.mp nd).1
    | succ a =>
      cases b with
      | zero =>
        simp at h1 h2
        subst h2
        exact absurd (mem_o.mp (List.mem_of_getElem? h1)) (List.nodup_cons.mp nd).1
      | succ b =>
        simp at h1 h2
        rw [o_once nr h1 h2]
theorem argSl_len : ∀ {avs : List Av} {s : Sls} {args : List Sl}, argSl avs s = some args → args.length = avs.length
  | [], _, _, h => by cases h; rfl
  | a :: r, s, args, h => by
    unfold argSl at h
    cases h1 : argSl r s with
    | none => rw [h1] at h; cases h
    | some t =>
      rw [h1] at h
      have := argSl_len h1
      cases a <;> simp only at h <;> (try split at h) <;> cases h <;> simp [this]
def ArgIs (s : Sls) (x : Sl) : Av → Prop
  | .v d => x = .sh d
  | .o i => ∃ o, s[i]? = some (.ow o) ∧ x = .ow o
  | .p i => (∃ d, s[i]? = some (.sh d) ∧ x = .sh d) ∨ ∃ ds, s[i]? = some (.ow (.l ds)) ∧ x = .sh (.list ds)
  | .s i => ∃ ns, s[i]? = some (.sc ns) ∧ x = .sc ns
theorem argSl_get : ∀ {avs : List Av} {s : Sls} {args : List Sl}, argSl avs s = some args → ∀ {j : Nat} {a : Av}, avs[j]? = some a → ∃ x, args[j]? = some x ∧ ArgIs s x a
  | [], _, _, _, _, _, e => by simp at e
  | a :: r, s, args, h, j, b, e => by
    unfold argSl at h
    cases h1 : argSl r s with
    | none => rw [h1] at h; cases h
    | some t =>
      rw [h1] at h
      cases j with
      | succ j =>
        obtain ⟨x, h2, h3⟩ := argSl_get h1 (j := j) (a := b) (by simpa using e)
        refine ⟨x, ?_, h3⟩
        cases a <;> simp only at h <;> (try split at h) <;> cases h <;> simpa using h2
      | zero =>
        simp at e
        subst e
        cases a with
        | v d =>
          cases h
          exact ⟨_, rfl, rfl⟩
        | o i =>
          simp only at h
          split at h <;> cases h
          rename_i o ho
          exact ⟨_, rfl, o, ho, rfl⟩
        | p i =>
          simp only at h
          split at h <;> cases h
          · rename_i d hd
            exact ⟨_, rfl, Or.inl ⟨d, hd, rfl⟩⟩
          · rename_i ds hd
            exact ⟨_, rfl, Or.inr ⟨ds, hd, rfl⟩⟩
        | s i =>
          simp only at h
          split at h <;> cases h
          rename_i ns hd
          exact ⟨_, rfl, ns, hd, rfl⟩
theorem backSl_get : ∀ {avs : List Av} {outs s s' : List Sl}, (oIx avs).Nodup → backSl avs outs s = some s' →
    s'.length = s.length ∧ (∀ i : Nat, i ∉ oIx avs → s'[i]? = s[i]?) ∧ ∀ (j i : Nat), avs[j]? = some (Av.o i) → i < s.length → ∃ o, outs[j]? = some (Sl.ow o) ∧ s'[i]? = some (Sl.ow o)
  | [], outs, s, s', _, h => by
    cases h
    exact ⟨rfl, fun _ _ => rfl, fun j i e => by simp at e⟩
  | .o k :: r, outs, s, s', nd, h => by
    obtain ⟨n1, n2⟩ := List.nodup_cons.mp nd
    cases outs with
    | nil => cases h
    | cons x t =>
      cases x <;> try cases h
      rename_i ob
      obtain ⟨l, h1, h2⟩ := backSl_get (avs := r) (outs := t) (s := s.set k (.ow ob)) n2 h
      refine ⟨by simpa using l, fun i hi => ?_, fun j i e hl => ?_⟩
      · simp [oIx] at hi
        rw [h1 i hi.2, List.getElem?_set_ne (Ne.symm hi.1)]
      · cases j with
        | zero =>
          simp at e
          subst e
          refine ⟨ob, rfl, ?_⟩
          rw [h1 _ n1, List.getElem?_set_self hl]
        | succ j =>
          obtain ⟨o, q1, q2⟩ := h2 j i (by simpa using e) (by simpa using hl)
          exact ⟨o, by simpa using q1, q2⟩
  | .v d :: r, outs, s, s', nd, h => by
    cases outs with
    | nil => cases h
    | cons x t =>
      have h' : backSl r t s = some s' := by cases x <;> exact h
      obtain ⟨l, h1, h2⟩ := backSl_get (avs := r) nd h'
      refine ⟨l, h1, fun j i e hl => ?_⟩
      cases j with
      | zero => simp at e
      | succ j =>
        obtain ⟨o, q1, q2⟩ := h2 j i (by simpa using e) hl
        exact ⟨o, by simpa using q1, q2⟩
  | .p d :: r, outs, s, s', nd, h => by
    cases outs with
    | nil => cases h
    | cons x t =>
      have h' : backSl r t s = some s' := by cases x <;> exact h
      obtain ⟨l, h1, h2⟩ := backSl_get (avs := r) nd h'
      refine ⟨l, h1, fun j i e hl => ?_⟩
      cases j with
      | zero => simp at e
      | succ j =>
        obtain ⟨o, q1, q2⟩ := h2 j i (by simpa using e) hl
        exact ⟨o, by simpa using q1, q2⟩
  | .s d :: r, outs, s, s', nd, h => by
    cases outs with
    | nil => cases h
    | cons x t =>
      have h' : backSl r t s = some s' := by cases x <;> exact h
      obtain ⟨l, h1, h2⟩ := backSl_get (avs := r) nd h'
      refine ⟨l, h1, fun j i e hl => ?_⟩
      cases j with
      | zero => simp at e
      | succ j =>
        obtain ⟨o, q1, q2⟩ := h2 j i (by simpa using e) hl
        exact ⟨o, by simpa using q1, q2⟩
theorem AvA.len {K : PySem.W.Frag} {M : Hp} {σ : L2.St} : ∀ {vs : List V} {avs : List Av}, AvA K M σ vs avs → vs.length = avs.length
  | _, _, .nil => rfl
  | _, _, .cons _ t => congrArg (· + 1) t.len
theorem AvA.at {K : PySem.W.Frag} {M : Hp} {σ : L2.St} : ∀ {vs : List V} {avs : List Av}, AvA K M σ vs avs → ∀ {j : Nat} {a : Av}, avs[j]? = some a → ∃ v, vs[j]? = some v ∧ AvR K M σ v a
  | _, _, .nil, _, _, e => by simp at e
  | _, _, .cons h t, 0, _, e => by
    simp at e
    subst e
    exact ⟨_, rfl, h⟩
  | _, _, .cons h t, j + 1, _, e => by
    obtain ⟨v, h1, h2⟩ := t.at (j := j) (by simpa using e)
    exact ⟨v, by simpa using h1, h2⟩
theorem hasP_no : ∀ {avs : List Av} {s : Sls}, hasP avs s = false → ∀ {i : Nat} {o : Ob}, Av.p i ∈ avs → s[i]? ≠ some (.ow o)
  | [], _, _, _, _, h, _ => by simp at h
  | a :: r, s, hp, i, o, h, z => by
    rcases List.mem_cons.mp h with e | h
    · subst e
      simp [hasP, isOw, z] at hp
    · refine hasP_no (avs := r) (s := s) ?_ h z
      cases a <;> simp [hasP] at hp ⊢ <;> first | exact hp | exact hp.2
theorem hasO_no : ∀ {avs : List Av}, hasO avs = false → ∀ {i : Nat}, Av.o i ∉ avs
  | [], _, _, h => by simp at h
  | a :: r, hp, i, h => by
    rcases List.mem_cons.mp h with e | h
    · subst e
      simp [hasO] at hp
    · refine hasO_no (avs := r) ?_ h
      cases a <;> simp [hasO] at hp ⊢ <;> exact hp

section
variable {K : PySem.W.Frag} {B M0 M H : Hp} {s : Sls} {σ : L2.St}
theorem call_rel {vs : List V} {avs : List Av} {args : List Sl} (r : Rel K B M0 M s σ H) (hv : AvA K M σ vs avs) (hn : callOk avs = true) (ha : argSl avs s = some args) :
    ∃ Bc Mc, Rel K Bc Mc Mc args (vs.map some) H ∧ Same M Mc ∧ vs.length = avs.length ∧
      ∀ {rk : RK} {d : D} {outs : List Sl} {s' : Sls} {v : V} {M' : Hp} {σ' : L2.St} {H' : Hp} {sl' : Sls}, Same Mc M' → RetR K rk Bc Mc M' sl' σ' H' v d → sl'.take vs.length = outs → Kio args (vs.map some) σ' →
        (hasP avs s && (hasO avs || !flat d)) = false → backSl avs outs s = some s' →
        ∃ M'', Same M M'' ∧ match rk with
          | .sh => Rel K B M0 M'' s' σ H' ∧ Hd K M'' v d
          | .fr => Res K true B M0 M'' s' σ H' v d
          | .io j => Rel K B M0 M'' s' σ H' ∧ (∀ i, avs[j]? = some (.o i) → σ[i]? = some (some v)) := by
  classical
  simp only [callOk, Bool.and_eq_true, decide_eq_true_eq, List.all_eq_true, Bool.not_eq_true'] at hn
  obtain ⟨nd, np⟩ := hn
  have apart : ∀ {i : Nat}, Av.p i ∈ avs → Av.o i ∉ avs := fun {i} h1 h2 => by
    have := np i (mem_p.mp h1)
    rw [List.contains_eq_mem, decide_eq_false_iff_not] at this
    exact this (mem_o.mp h2)
  let P : Addr → Prop := fun a => ∃ (i : Nat) (ds : List D), Av.p i ∈ avs ∧ s[i]? = some (.ow (.l ds)) ∧ σ[i]? = some (some (.ref a))
  let IO : Addr → Prop := fun a => ∃ (i : Nat) (o : Ob), Av.o i ∈ avs ∧ s[i]? = some (.ow o) ∧ σ[i]? = some (some (.ref a))
  let Bc : Hp := fun a => if IO a then none else H a
  let Mc : Hp := fun a => if P a then H a else M a
  have ioP : ∀ a, IO a → ¬ P a := by
    rintro a ⟨i, o, h1, h2, h3⟩ ⟨j, ds, k1, k2, k3⟩
    have := r.inj i j o _ a h2 k2 h3 k3
    subst this
    exact apart k1 h1
  have ownM : ∀ {i : Nat} {o : Ob} {a : Addr}, s[i]? = some (.ow o) → σ[i]? = some (some (.ref a)) → M a = none ∧ B a = none ∧ ∃ h, H a = some h ∧ ObR K M o h := fun {i o a} h1 h2 => by
    obtain ⟨b, h, e1, e2, e3, e4, e5⟩ := r.ow h1
    rw [h2] at e1
    cases e1
    exact ⟨e3, e4, h, e2, e5⟩
  have sMc : Same M Mc := fun a o e => by
    have : ¬ P a := by
      rintro ⟨i, ds, k1, k2, k3⟩
      rw [(ownM k2 k3).1] at e
      cases e
    show (if P a then H a else M a) = some o
    rw [if_neg this]
    exact e
  have sMH : Same Mc H := fun a o e => by
    have e' : (if P a then H a else M a) = some o := e
    by_cases h : P a
    · rw [if_pos h] at e'
      exact e'
    · rw [if_neg h] at e'
      exact r.exM a o e'
  have lenV := hv.len
  have lenA := argSl_len ha
  have at_ : ∀ {j : Nat} {x : Sl}, args[j]? = some x → ∃ a v, avs[j]? = some a ∧ ArgIs s x a ∧ vs[j]? = some v ∧ AvR K M σ v a := fun {j x} e => by
    have hj : j < avs.length := by
      rw [← lenA]
      exact (List.getElem?_eq_some_iff.mp e).1
    obtain ⟨x', e1, e2⟩ := argSl_get ha (List.getElem?_eq_getElem hj)
    rw [e] at e1
    cases e1
    obtain ⟨v, e3, e4⟩ := hv.at (List.getElem?_eq_getElem hj)
    exact ⟨_, v, List.getElem?_eq_getElem hj, e2, e3, e4⟩
  have ows : ∀ {j : Nat} {o : Ob}, args[j]? = some (.ow o) → ∃ i a h, avs[j]? = some (.o i) ∧ s[i]? = some (.ow o) ∧ σ[i]? = some (some (.ref a)) ∧ vs[j]? = some (.ref a) ∧ IO a ∧ H a = some h ∧ M a = none ∧ B a = none ∧ ObR K M o h := fun {j o} e => by
    obtain ⟨a, v, e1, e2, e3, e4⟩ := at_ e
    cases a with
    | v d => cases e2
    | s i =>
      obtain ⟨ns, _, z⟩ := e2
      cases z
    | p i =>
      rcases e2 with ⟨d, _, z⟩ | ⟨d, _, z⟩ <;> cases z
    | o i =>
      obtain ⟨o', h1, z⟩ := e2
      cases z
      obtain ⟨b, h, q1, q2, q3, q4, q5⟩ := r.ow h1
      have e4' : σ[i]? = some (some v) := e4
      rw [q1] at e4'
      cases e4'
      exact ⟨i, b, h, e1, h1, q1, e3, ⟨i, o, List.mem_of_getElem? e1, h1, q1⟩, q2, q3, q4, q5⟩
  have relC : Rel K Bc Mc Mc args (vs.map some) H := by
    refine ⟨by rw [List.length_map, lenA, lenV], fun a o e => ?_, sMH, Same.refl _, fun a o e => Or.inr e, fun j x e => ?_, fun j k oj ok a e1 e2 e3 e4 => ?_⟩
    · have e' : (if IO a then none else H a) = some o := e
      split at e'
      · cases e'
      · exact e'
    · obtain ⟨a, v, e1, e2, e3, e4⟩ := at_ e
      have ev : (vs.map some)[j]?.getD none = some v := by rw [List.getElem?_map, e3]; rfl
      cases x with
      | un => trivial
      | ow o =>
        obtain ⟨i, b, h, q1, q2, q3, q4, q5, q6, q7, q8, q9⟩ := ows e
        refine ⟨b, h, ?_, q6, ?_, ?_, q9.mono sMc⟩
        · rw [List.getElem?_map, q4]
          rfl
        · show (if P b then H b else M b) = none
          rw [if_neg (ioP b q5)]
          exact q7
        · show (if IO b then none else H b) = none
          rw [if_pos q5]
      | sh d =>
        refine ⟨v, ev, ?_⟩
        cases a with
        | v d' =>
          cases e2
          exact Hd.mono sMc _ _ e4
        | o i =>
          obtain ⟨o, _, z⟩ := e2
          cases z
        | s i =>
          obtain ⟨o, _, z⟩ := e2
          cases z
        | p i =>
          have e4' : σ[i]? = some (some v) := e4
          rcases e2 with ⟨d', h1, z⟩ | ⟨ds, h1, z⟩
          · cases z
            obtain ⟨w, q1, q2⟩ := r.sh h1
            rw [e4'] at q1
            cases q1
            exact Hd.mono sMc _ _ q2
          · cases z
            obtain ⟨b, h, q1, q2, q3, q4, q5⟩ := r.ow h1
            rw [e4'] at q1
            cases q1
            cases h <;> first | exact q5.elim | skip
            rename_i ws
            have pb : P b := ⟨i, ds, List.mem_of_getElem? e1, h1, e4'⟩
            refine .lst (xs := ws) ?_ (HdA.mono sMc _ _ q5)
            show (if P b then H b else M b) = _
            rw [if_pos pb]
            exact q2
      | sc ns =>
        cases a with
        | v d' => cases e2
        | o i =>
          obtain ⟨o, _, z⟩ := e2
          cases z
        | p i => rcases e2 with ⟨d', h1, z⟩ | ⟨ds, h1, z⟩ <;> cases z
        | s i =>
          obtain ⟨ns', h1, z⟩ := e2
          cases z
          obtain ⟨b, q1, q2⟩ := r.slot i _ h1
          have e4' : σ[i]? = some (some v) := e4
          rw [e4'] at q1
          cases q1
          exact ⟨b, ev, (r.m0.trans sMc).seq q2⟩
    · obtain ⟨i, b, h, q1, q2, q3, q4, q5, _⟩ := ows e1
      obtain ⟨i', b', h', p1, p2, p3, p4, p5, _⟩ := ows e2
      rw [List.getElem?_map, q4] at e3
      rw [List.getElem?_map, p4] at e4
      cases e3
      cases e4
      have := r.inj i i' oj ok _ q2 p2 q3 p3
      subst this
      exact o_once nd q1 p1
  refine ⟨Bc, Mc, relC, sMc, lenV, ?_⟩
  intro rk d outs s' v M' σ' H' sl' sM ret houts kio hP hB
  obtain ⟨bl, b1, b2⟩ := backSl_get nd hB
  let M2 : Hp := fun a => if P a then none else M' a
  have sM2 : Same M M2 := fun a o e => by
    have hp : ¬ P a := by
      rintro ⟨i, ds, k1, k2, k3⟩
      rw [(ownM k2 k3).1] at e
      cases e
    show (if P a then none else M' a) = some o
    rw [if_neg hp]
    exact sM a o (sMc a o e)
  have le2 : Same M2 M' := fun a o e => by
    have e' : (if P a then none else M' a) = some o := e
    split at e'
    · cases e'
    · exact e'
  have bcB : ∀ {a : Addr}, Bc a = none → B a = none := fun {a} e => by
    cases hb : B a with
    | none => rfl
    | some o =>
      have h1 := r.exB a o hb
      have h2 : ¬ IO a := by
        rintro ⟨i, o', k1, k2, k3⟩
        rw [(ownM k2 k3).2.1] at hb
        cases hb
      have e' : (if IO a then none else H a) = none := e
      rw [if_neg h2, h1] at e'
      cases e'
  -- whichever base the callee kept
  have core : ∀ {Bx : Hp}, Same Bc Bx → Rel K Bx Mc M' sl' σ' H' → Rel K B M0 M2 s' σ H' ∧ ∀ a, IO a → Bx a = none := fun {Bx} sx rx => by
    have io_ : ∀ {j i : Nat}, avs[j]? = some (.o i) → i < s.length → ∃ o' a h', s'[i]? = some (.ow o') ∧ σ[i]? = some (some (.ref a)) ∧ H' a = some h' ∧ M' a = none ∧ Bx a = none ∧ ObR K M' o' h' ∧ IO a := fun {j i} e hl => by
      obtain ⟨o', q1, q2⟩ := b2 j i e hl
      obtain ⟨x, x1, o, x2, rfl⟩ := argSl_get ha e
      obtain ⟨b, h, p1, p2, p3, p4, p5⟩ := r.ow x2
      have jl : j < vs.length := by
        rw [lenV]
        exact (List.getElem?_eq_some_iff.mp e).1
      rw [← houts, List.getElem?_take_of_lt jl] at q1
      obtain ⟨c, h', c1, c2, c3, c4, c5⟩ := rx.ow q1
      have k1 := kio j o x1
      obtain ⟨i2, b2', h2, t1, t2, t3, t4, t5, _⟩ := ows x1
      rw [e] at t1
      cases t1
      rw [p1] at t3
      cases t3
      rw [c1, List.getElem?_map, t4] at k1
      cases k1
      exact ⟨o', b, h', q2, p1, c2, c3, c4, c5, t5⟩
    refine ⟨⟨by rw [bl]; exact r.len, fun a o e => ?_, le2.trans rx.exM, r.m0.trans sM2, fun a o e => ?_, fun i x e => ?_, fun i j oi oj a e1 e2 e3 e4 => ?_⟩, ?_⟩
    · have h2 : ¬ IO a := by
        rintro ⟨i, o', k1, k2, k3⟩
        rw [(ownM k2 k3).2.1] at e
        cases e
      refine rx.exB a o (sx a o ?_)
      show (if IO a then none else H a) = some o
      rw [if_neg h2]
      exact r.exB a o e
    · have e' : (if P a then none else M' a) = some o := e
      split at e'
      · cases e'
      · rename_i hp
        rcases rx.mb a o e' with z | z
        · exact Or.inl (bcB (none_back sx z))
        · have z' : (if P a then H a else M a) = some o := z
          rw [if_neg hp] at z'
          exact r.mb a o z'
    · by_cases hi : i ∈ oIx avs
      · obtain ⟨j, hj⟩ := List.getElem?_of_mem (mem_o.mpr hi)
        have hl : i < s.length := by
          rw [← bl]
          exact (List.getElem?_eq_some_iff.mp e).1
        obtain ⟨o', a, h', q1, q2, q3, q4, q5, q6, q7⟩ := io_ hj hl
        rw [q1] at e
        cases e
        have np2 : ∀ c, ¬ P c := by
          rintro c ⟨i3, ds, k1, k2, k3⟩
          cases hh : hasP avs s with
          | false => exact hasP_no hh k1 k2
          | true =>
            rw [hh] at hP
            cases ho : hasO avs with
            | false => exact hasO_no ho (List.mem_of_getElem? hj)
            | true => rw [ho] at hP; cases hP
        refine ⟨a, h', ?_, q3, ?_, ?_, ?_⟩
        · rw [q2]
          rfl
        · show (if P a then none else M' a) = none
          rw [if_neg (np2 a)]
          exact q4
        · obtain ⟨i3, o3, k1, k2, k3⟩ := q7
          exact (ownM k2 k3).2.1
        · have : M2 = M' := by
            funext c
            show (if P c then none else M' c) = M' c
            rw [if_neg (np2 c)]
          rw [this]
          exact q6
      · rw [b1 i hi] at e
        have q := r.slot i x e
        cases x with
        | un => trivial
        | sh d =>
          obtain ⟨w, q1, q2⟩ := q
          exact ⟨w, q1, Hd.mono sM2 _ _ q2⟩
        | sc ns => exact q
        | ow o =>
          obtain ⟨b, h, q1, q2, q3, q4, q5⟩ := q
          have nio : ¬ IO b := by
            rintro ⟨i2, o2, k1, k2, k3⟩
            have := r.inj i2 i o2 o b k2 e k3 (getD_some q1)
            subst this
            exact hi (mem_o.mp k1)
          have bc : Bc b = some h := by
            show (if IO b then none else H b) = some h
            rw [if_neg nio]
            exact q2
          refine ⟨b, h, q1, rx.exB b h (sx b h bc), ?_, q4, q5.mono sM2⟩
          show (if P b then none else M' b) = none
          split
          · rfl
          · rename_i hp
            cases hm : M' b with
            | none => rfl
            | some u =>
              rcases rx.mb b u hm with z | z
              · rw [none_back sx z] at bc
                cases bc
              · have z' : (if P b then H b else M b) = some u := z
                rw [if_neg hp, q3] at z'
                cases z'
    · have old : ∀ {m : Nat} {om : Ob}, s'[m]? = some (.ow om) → ∃ on, s[m]? = some (.ow on) := fun {m om} q => by
        by_cases hm : m ∈ oIx avs
        · obtain ⟨j', hj'⟩ := List.getElem?_of_mem (mem_o.mpr hm)
          obtain ⟨x, x1, o, x2, rfl⟩ := argSl_get ha hj'
          exact ⟨o, x2⟩
        · rw [b1 m hm] at q
          exact ⟨_, q⟩
      obtain ⟨o1, p1⟩ := old e1
      obtain ⟨o2, p2⟩ := old e2
      exact r.inj i j o1 o2 a p1 p2 e3 e4
    · rintro a ⟨i, o, k1, k2, k3⟩
      obtain ⟨j, hj⟩ := List.getElem?_of_mem k1
      obtain ⟨o', a', h', q1, q2, q3, q4, q5, q6, q7⟩ := io_ hj (List.getElem?_eq_some_iff.mp k2).1
      rw [k3] at q2
      cases q2
      exact q5
  have val : ∀ {w : V}, (∀ a, P a → M' a = H a) → Hd K M' w d → Hd K M2 w d := fun {w} _ hd => by
    by_cases hp : ∃ c, P c
    · obtain ⟨c, i, ds, k1, k2, k3⟩ := hp
      have hh : hasP avs s = true := by
        cases hh : hasP avs s with
        | true => rfl
        | false => exact absurd k2 (hasP_no hh k1)
      rw [hh] at hP
      have fd : flat d = true := by
        cases hf : flat d with
        | true => rfl
        | false => rw [hf] at hP; simp at hP
      refine Hd.flat (fun a o e nl => ?_) d w fd hd
      show (if P a then none else M' a) = some o
      rw [if_neg, e]
      rintro ⟨i2, ds2, l1, l2, l3⟩
      obtain ⟨h0, _, h, e1, e2⟩ := ownM l2 l3
      have pa : P a := ⟨i2, ds2, l1, l2, l3⟩
      have mc : Mc a = some h := by
        show (if P a then H a else M a) = some h
        rw [if_pos pa]
        exact e1
      have := sM a h mc
      rw [e] at this
      cases this
      cases o <;> first | exact e2.elim | exact nl _ rfl
    · have : M2 = M' := by
        funext c
        show (if P c then none else M' c) = M' c
        rw [if_neg (fun z => hp ⟨c, z⟩)]
      rw [this]
      exact hd
  have pm : ∀ a, P a → M' a = H a := by
    rintro a ⟨i, ds, k1, k2, k3⟩
    obtain ⟨h0, _, h, e1, e2⟩ := ownM k2 k3
    rw [e1]
    refine sM a h ?_
    show (if P a then H a else M a) = some h
    rw [if_pos ⟨i, ds, k1, k2, k3⟩]
    exact e1
  refine ⟨M2, sM2, ?_⟩
  cases rk with
  | sh =>
    obtain ⟨h1, h2⟩ := ret
    exact ⟨(core (Same.refl _) h1).1, val pm h2⟩
  | io j =>
    obtain ⟨h1, h2⟩ := ret
    refine ⟨(core (Same.refl _) h1).1, fun i e => ?_⟩
    obtain ⟨x, x1, o, x2, rfl⟩ := argSl_get ha e
    have k1 := kio j o x1
    obtain ⟨i2, b, h, t1, t2, t3, t4, _⟩ := ows x1
    rw [e] at t1
    cases t1
    rw [h2, List.getElem?_map, t4] at k1
    cases k1
    exact t3
  | fr =>
    rcases ret with ⟨h0, h1, h2⟩ | ⟨a, ws, ds, rfl, rfl, h1, h2, h3, h4⟩
    · exact Or.inl ⟨h0, (core (Same.refl _) h1).1, val pm h2⟩
    · obtain ⟨c1, c2⟩ := core (same_upd h2) h1
      have nio : ¬ IO a := fun z => by
        have := c2 a z
        rw [upd_same] at this
        cases this
      have ha0 : H a = none := by
        have e' : (if IO a then none else H a) = none := h2
        rw [if_neg nio] at e'
        exact e'
      have hb0 := none_back r.exB ha0
      have m20 : M2 a = none := none_back le2 h3
      have np2 : ∀ c, ¬ P c := by
        rintro c ⟨i3, ds', k1, k2, k3⟩
        cases hh : hasP avs s with
        | false => exact hasP_no hh k1 k2
        | true =>
          rw [hh] at hP
          simp [flat] at hP
      have eM : M2 = M' := by
        funext c
        show (if P c then none else M' c) = M' c
        rw [if_neg (np2 c)]
      refine Or.inr ⟨a, ws, ds, rfl, rfl, ⟨c1.len, fun b o e => ?_, c1.exM, c1.m0, fun b o e => ?_, fun i x e => ?_, c1.inj⟩, hb0, m20, by rw [eM]; exact h4⟩
      · by_cases hba : b = a
        · subst hba
          rw [upd_same] at e
          cases e
          exact h1.exB _ _ upd_same
        · rw [upd_ne hba] at e
          exact c1.exB b o e
      · have hba : b ≠ a := ne_of_none e m20
        rw [upd_ne hba]
        exact c1.mb b o e
      · have q := c1.slot i x e
        cases x with
        | un => trivial
        | sh d => exact q
        | sc ns => exact q
        | ow o =>
          obtain ⟨b, h, q1, q2, q3, q4, q5⟩ := q
          refine ⟨b, h, q1, q2, q3, ?_, q5⟩
          have : b ≠ a := by
            rintro rfl
            by_cases hm : i ∈ oIx avs
            · obtain ⟨j', hj'⟩ := List.getElem?_of_mem (mem_o.mpr hm)
              obtain ⟨x, x1, o, x2, rfl⟩ := argSl_get ha hj'
              exact nio ⟨i, o, mem_o.mpr hm, x2, getD_some q1⟩
            · rw [b1 i hm] at e
              obtain ⟨_, _, h', e1, _⟩ := ownM e (getD_some q1)
              rw [ha0] at e1
              cases e1
          rw [upd_ne this]
          exact q4
end
end L3

set_option Elab.async false
set_option linter.all false
set_option maxRecDepth 100000
set_option maxHeartbeats 4000000
/-! a core term held against the written one -/
namespace L3
open PySem PySem.Spec PyProof.Rows L2

def dunB (x : Str) : Bool := !(x == ("__debug__" : Str)) && !(x == ("__classdict__" : Str))
def visB (sc : Scope) (x : Str) : Bool := dunB x && match sc.names.lookup x with
  | some .local => true
  | some .cell => true
  | some .free => true
  | _ => false
def glbB (sc : Scope) (x : Str) : Bool := match sc.names.lookup x with
  | some .globalImplicit => true
  | _ => false
def slotB (sc : Scope) (N : List Str) (x : Str) (i : Nat) : Bool := decide (N[i]? = some x) && visB sc x
def stoB (sc : Scope) (N : List Str) (x : Str) (i : Nat) : Bool := decide (N[i]? = some x) && match sc.names.lookup x with
  | some .local => true
  | some .cell => true
  | _ => false
/-- of no special form -/
def plainE : Expr → Bool
  | .Starred .. => false
  | .Set .. => false
  | .Slice .. => false
  | _ => true
def isComp : Expr → Bool
  | .ListComp .. => true
  | .SetComp .. => true
  | .DictComp .. => true
  | _ => false
def Es.len : Es → Nat
  | .nil => 0
  | .cons _ r => r.len + 1
def As.len : As → Nat
  | .nil => 0
  | .v _ r => r.len + 1
  | .o _ r => r.len + 1
  | .p _ r => r.len + 1
  | .sc _ r => r.len + 1
  | .k _ _ _ r => r.len + 1
def As.isO : As → Nat → Nat → Bool
  | .o i _, 0, j => i == j
  | .k _ _ i _, 0, j => i == j
  | .nil, _, _ => false
  | .v _ r, n + 1, j => r.isO n j
  | .o _ r, n + 1, j => r.isO n j
  | .p _ r, n + 1, j => r.isO n j
  | .sc _ r, n + 1, j => r.isO n j
  | .k _ _ _ r, n + 1, j => r.isO n j
  | _, 0, _ => false
mutual
def Tg.sl : Tg → List Nat
  | .nm i => [i]
  | .tp ts => ts.sl
def Tgs.sl : Tgs → List Nat
  | .nil => []
  | .cons t r => t.sl ++ r.sl
end
def ocB (o : Option Int) (e : Option Expr) : Bool := match o, e with
  | none, none => true
  | some n, some (.Constant (.int m) _ _) => decide (n = m)
  | _, _ => false

section
variable (N : List Str) (tb : Nat → Option Def)
mutual
def chkTg (sc : Scope) : Tg → Expr → Bool
  | .nm i, e => match e with
    | .Name x _ => stoB sc N x i
    | _ => false
  | .tp ts, e => match e with
    | .Tuple es _ _ => chkTgs sc ts es
    | _ => false
def chkTgs (sc : Scope) : Tgs → List Expr → Bool
  | .nil, es => match es with
    | [] => true
    | _ => false
  | .cons t r, es => match es with
    | e :: q => plainE e && chkTg sc t e && chkTgs sc r q
    | _ => false
end
mutual
def chkE (sc : Scope) : E → Expr → Bool
  | .c k, e => match e with
    | .Constant k' _ _ => decide (k' = k) && (cD k).isSome
    | _ => false
  | .v i, e => match e with
    | .Name x _ => slotB sc N x i
    | _ => false
  | .pk i, e => match e with
    | .Name x _ => slotB sc N x i
    | _ => false
  | .g j, e => match e with
    | .Name x _ => glbB sc x && match tb j with
      | some (.cst nm _) => decide (nm = x)
      | _ => false
    | _ => false
  | .tup es, e => match e with
    | .Tuple l _ _ => decide (es.len ≤ 1000) && chkEs sc es l
    | _ => false
  | .lst es, e => match e with
    | .List l _ => decide (es.len ≤ 1000) && chkEs sc es l
    | _ => false
  | .bin o a b, e => match e with
    | .BinOp l o' r _ => decide (o' = o) && chkE sc a l && chkE sc b r
    | _ => false
  | .neg a, e => match e with
    | .UnaryOp .USub x _ => chkE sc a x
    | _ => false
  | .nt a, e => match e with
    | .UnaryOp .Not x _ => chkE sc a x
    | _ => false
  | .and a b, e => match e with
    | .BoolOp .And (x :: y :: r) pos => chkE sc a x && (match r with
      | [] => chkE sc b y
      | z :: t => chkE sc b (.BoolOp .And (y :: z :: t) pos))
    | _ => false
  | .or a b, e => match e with
    | .BoolOp .Or (x :: y :: r) pos => chkE sc a x && (match r with
      | [] => chkE sc b y
      | z :: t => chkE sc b (.BoolOp .Or (y :: z :: t) pos))
    | _ => false
  | .cmp o a b, e => match e with
    | .Compare l [o'] [r] _ => decide (o' = o) && plainE r && chkE sc a l && chkE sc b r
    | _ => false
  | .chain o1 o2 a b c, e => match e with
    | .Compare l [p, q] [m, r] _ => decide (p = o1) && decide (q = o2) && plainE m && plainE r && chkE sc a l && chkE sc b m && chkE sc c r
    | _ => false
  | .ite c a b, e => match e with
    | .IfExp x y z _ => chkE sc c x && chkE sc a y && chkE sc b z
    | _ => false
  | .ix a i, e => match e with
    | .Subscript x y _ => plainE y && chkE sc a x && chkE sc i y
    | _ => false
  | .cut a lo hi, e => match e with
    | .Subscript x (.Slice l h none _) _ => chkE sc a x && chkO sc lo l && chkO sc hi h
    | _ => false
  | .sc i lo hi, e => match e with
    | .Subscript (.Name x _) (.Slice l h none _) _ => slotB sc N x i && ocB lo l && ocB hi h
    | _ => false
  | .bf f es, e => match e with
    | .Call (.Name x _) (a :: l) [] _ => decide (x = f.nm) && glbB sc x && chkEs sc es (a :: l)
    | _ => false
  | .isi a t, e => match e with
    | .Call (.Name x _) [y, .Name z _] [] _ => decide (x = ("isinstance" : Str)) && glbB sc x && decide (z = t.nm) && glbB sc z && plainE y && chkE sc a y
    | _ => false
  | .call f fr as, e => match e with
    | .Call (.Name x _) l [] _ => glbB sc x && chkAs sc as l && (match tb f with
      | some (.fn fd) => decide (fd.nm = x) && decide (as.len = fd.np) && decide ((fr = true ∧ fd.rk = .fr) ∨ (fr = false ∧ fd.rk = .sh))
      | _ => false)
    | _ => false
  | .lc own t it cond elt, e => match e with
    | .ListComp x [⟨tg, i, ifs, 0⟩] scope _ => chkIt sc it i tg && blkC N sc scope own && chkTg N scope t tg && (t.sl.all fun k => (own.map (·.2)).contains k) &&
        (match ifs with
          | [] => chkO scope cond none
          | [c] => chkO scope cond (some c)
          | _ => false) && chkE scope elt x
    | _ => false
def chkEs (sc : Scope) : Es → List Expr → Bool
  | .nil, l => match l with
    | [] => true
    | _ => false
  | .cons e r, l => match l with
    | x :: t => plainE x && chkE sc e x && chkEs sc r t
    | _ => false
def chkO (sc : Scope) : Oe → Option Expr → Bool
  | .n, o => match o with
    | none => true
    | _ => false
  | .s e, o => match o with
    | some x => chkE sc e x
    | _ => false
def chkAs (sc : Scope) : As → List Expr → Bool
  | .nil, l => match l with
    | [] => true
    | _ => false
  | .v e r, l => match l with
    | x :: t => plainE x && chkE sc e x && chkAs sc r t
    | _ => false
  | .o i r, l => match l with
    | .Name x _ :: t => slotB sc N x i && chkAs sc r t
    | _ => false
  | .p i r, l => match l with
    | .Name x _ :: t => slotB sc N x i && chkAs sc r t
    | _ => false
  | .sc i r, l => match l with
    | .Name x _ :: t => slotB sc N x i && chkAs sc r t
    | _ => false
  | .k f as i r, l => match l with
    | .Call (.Name x _) q [] _ :: t => glbB sc x && chkAs sc as q && (match tb f with
      | some (.fn fd) => decide (fd.nm = x) && decide (as.len = fd.np) && (match fd.rk with
        | .io j => as.isO j i
        | _ => false)
      | _ => false) && chkAs sc r t
    | _ => false
def chkIt (sc : Scope) : It → Expr → Expr → Bool
  | .e e, x, _ => plainE x && chkE sc e x
  | .rng es, x, _ => match x with
    | .Call (.Name y _) (a :: l) [] _ => decide (y = ("range" : Str)) && glbB sc y && chkEs sc es (a :: l)
    | _ => false
  | .enum e, x, tg => match x, tg with
    | .Call (.Name y _) [z] [] _, .Tuple _ _ _ => decide (y = ("enumerate" : Str)) && glbB sc y && plainE z && chkE sc e z
    | _, _ => false
  | .zip a b, x, tg => match x, tg with
    | .Call (.Name y _) [z, u] [] _, .Tuple _ _ _ => decide (y = ("zip" : Str)) && glbB sc y && plainE z && plainE u && chkE sc a z && chkE sc b u
    | _, _ => false
end
end
end L3

set_option Elab.async false
set_option linter.all false
set_option maxRecDepth 100000
set_option maxHeartbeats 4000000
/-! expressions are sound -/
namespace L3
open PySem PySem.Spec PyProof.Rows L2

section
variable {X : Cx} {k : Nat} {tb : Nat → Option Def} {Φ : Nat → Sem1} {sc : Scope}
theorem Good.vis (G : Good X k tb Φ sc) {x : Str} (h : visB sc x = true) : Vis X.env.scope x ∧ (x == ("__debug__" : Str)) = false ∧ (x == ("__classdict__" : Str)) = false := by
  simp only [visB, dunB, Bool.and_eq_true, Bool.not_eq_true'] at h
  refine ⟨?_, h.1.1, h.1.2⟩
  cases e : sc.names.lookup x with
  | none => rw [e] at h; simp at h
  | some q =>
    rw [e] at h
    cases q <;> simp at h
    · exact Or.inl (G.loc x e)
    · exact Or.inr (Or.inl (G.cell x e).1)
    · rcases G.free x e with z | z
      · exact Or.inr (Or.inl z)
      · exact Or.inr (Or.inr z)
theorem Good.gl (G : Good X k tb Φ sc) {x : Str} (h : glbB sc x = true) : Gl X x := by
  unfold glbB at h
  cases e : sc.names.lookup x with
  | none => rw [e] at h; simp at h
  | some q =>
    rw [e] at h
    cases q <;> simp at h
    exact G.glb x e
theorem Good.sto (G : Good X k tb Φ sc) {N : List Str} {x : Str} {i : Nat} (h : stoB sc N x i = true) : N[i]? = some x ∧ Loc X.env.scope x ∧ (X.fn x = true ∨ X.env.scope.names.lookup x = some .local) := by
  simp only [stoB, Bool.and_eq_true, decide_eq_true_eq] at h
  refine ⟨h.1, ?_⟩
  cases e : sc.names.lookup x with
  | none => rw [e] at h; simp at h
  | some q =>
    rw [e] at h
    cases q <;> simp at h
    · exact ⟨Or.inl (G.loc x e), Or.inr (G.loc x e)⟩
    · exact ⟨Or.inr (G.cell x e).1, Or.inl (G.cell x e).2⟩
theorem Good.slot (G : Good X k tb Φ sc) {x : Str} {i : Nat} {p : Pos} (h : slotB sc X.N x i = true) : PE X (.Name x p) (tVar i) := by
  simp only [slotB, Bool.and_eq_true, decide_eq_true_eq] at h
  obtain ⟨h1, h2, h3⟩ := G.vis h.2
  exact pe_var h.1 h1 h2 h3
theorem Good.u65 (G : Good X k tb Φ sc) : X.A.units + 66 < cLine := by
  have := G.room.un
  omega
end

theorem plain_star {e : Expr} (h : plainE e = true) (es : List Expr) (env : Env) : starEach (e :: es) env = (false, eval e env) :: starEach es env := by
  cases e <;> first | rfl | cases h
theorem plain_in {op : CmpOp} {e : Expr} (h : plainE e = true) : behindInMarks op e = false := by
  cases e <;> first | rfl | cases h
theorem plain_set {e : Expr} (h : plainE e = true) (env : Env) (x : Value) : foldedSetIterable e env x = pure x := by
  cases e <;> first | rfl | cases h
theorem plain_ix {e : Expr} (h : plainE e = true) : PlainIx e := by
  intro o i
  cases e <;> first | rfl | cases h

section
variable {K : PySem.W.Frag} {B M0 M H : Hp} {sl : Sls} {σ : L2.St}
theorem here_some (r : Rel K B M0 M sl σ H) {i : Nat} (h : here i sl = true) : ∃ v, σ[i]? = some (some v) := by
  unfold here at h
  split at h
  · rename_i d e
    obtain ⟨v, q, _⟩ := r.sh e
    exact ⟨v, q⟩
  · rename_i o e
    obtain ⟨a, _, q, _⟩ := r.ow e
    exact ⟨_, q⟩
  · rename_i ns e
    obtain ⟨a, q, _⟩ := r.slot i _ e
    exact ⟨_, getD_some q⟩
  · cases h
/-- a name as a value -/
theorem T_var {i : Nat} {σ : L2.St} {H : Hp} {Q : VK} {Φ : Nat → Sem1} (h : T K false (ev Φ (.v i)) σ H Q) : tVar i σ H Q := by
  obtain ⟨B, M0, M, sl, d, sl', r, e, q⟩ := h
  simp only [ev] at e
  split at e
  · rename_i d' hs
    cases e
    obtain ⟨v, h1, h2⟩ := r.sh hs
    exact ⟨v, h1, q M v H (Same.refl _) (Or.inl ⟨(by intro z; cases z), r, h2⟩)⟩
  · rename_i xs hs
    cases e
    obtain ⟨a, vs, h1, h2, h3, h4, h5, h6, h7, h8⟩ := r.share hs
    exact ⟨_, h1, q _ _ H h2 (Or.inl ⟨(by intro z; cases z), h8, h3⟩)⟩
  · cases e
theorem Tp_pk {i : Nat} {σ : L2.St} {H : Hp} {Q : VK} (h : Tp K (fun s => if here i s then .ok (.inr i) s else .bad) σ H Q) : tVar i σ H Q := by
  obtain ⟨B, M0, M, sl, d, sl', r, e, q⟩ := h
  simp only at e
  split at e <;> cases e
  rename_i hh
  obtain ⟨v, hv⟩ := here_some r hh
  exact ⟨v, hv, q M v H (Same.refl _) r hv⟩
theorem T_flat {f : Bool} {d : D} {v : V} {g : Sls → R D} {σ : L2.St} {H : Hp} {Q : VK} (hd : ∀ M, Hd K M v d) (nl : f = true → ∀ ds, d ≠ .list ds) (hg : ∀ s d' s', g s = .ok d' s' → d' = d ∧ s' = s)
    (h : T K f g σ H Q) : Q v H := by
  obtain ⟨B, M0, M, sl, d', sl', r, e, q⟩ := h
  obtain ⟨rfl, rfl⟩ := hg _ _ _ e
  exact q M v H (Same.refl _) (Or.inl ⟨nl, r, hd M⟩)
theorem T_tup {f : Bool} {g : Sls → R (List D)} {n : Nat} (hn : ∀ s ds s', g s = .ok ds s' → ds.length ≤ 1000) {σ : L2.St} {H : Hp} {Q : VK} (h : T K f (fun s => (g s).bnd fun ds s => .ok (.tuple ds) s) σ H Q) : tTup (Ta K g) σ H Q := by
  obtain ⟨B, M0, M, sl, d', sl', r, e, q⟩ := h
  obtain ⟨ds, s1, e1, e2⟩ := bnd_of e
  cases e2
  refine ⟨B, M0, M, sl, ds, sl', r, e1, fun M1 vs H1 sm r1 hA => ⟨?_, fun p hp => ?_⟩⟩
  · rw [hA.length]
    exact Nat.le_trans (hn _ _ _ e1) (by decide)
  · obtain ⟨M2, sm2, rs⟩ := (res_tup (K := K) (M := M1) (f := f) hp hA).res r1
    exact q M2 _ _ (sm.trans sm2) rs
theorem T_lst {g : Sls → R (List D)} {n : Nat} (hn : ∀ s ds s', g s = .ok ds s' → ds.length ≤ 1000) {σ : L2.St} {H : Hp} {Q : VK} (h : T K true (fun s => (g s).bnd fun ds s => .ok (.list ds) s) σ H Q) : tLst (Ta K g) σ H Q := by
  obtain ⟨B, M0, M, sl, d', sl', r, e, q⟩ := h
  obtain ⟨ds, s1, e1, e2⟩ := bnd_of e
  cases e2
  refine ⟨B, M0, M, sl, ds, sl', r, e1, fun M1 vs H1 sm r1 hA => ⟨?_, fun p hp => ?_⟩⟩
  · rw [hA.length]
    exact Nat.le_trans (hn _ _ _ e1) (by decide)
  · obtain ⟨M2, sm2, rs⟩ := (res_lst (K := K) (M := M1) (f := true) hp hA).res r1
    exact q M2 _ _ (sm.trans sm2) rs
/-- two operands, an operation on values -/
theorem T_op2 {f f' : Bool} {ga gb : Sls → R Ov} {p : D → D → Option D} (hf : f = true → f' = true) {σ : L2.St} {H : Hp} {Q : VK}
    (h : T K f (fun s => (ga s).bnd fun x s => (gb s).bnd fun y s => match rd x s, rd y s with
      | some d, some e => .opt (p d e) s
      | _, _ => .bad) σ H Q) : tOp (r2 K p f') (Tp K ga) (Tp K gb) σ H Q := by
  obtain ⟨B, M0, M, sl, d', sl', r, e, q⟩ := h
  obtain ⟨x, s1, e1, e⟩ := bnd_of e
  obtain ⟨y, s2, e2, e⟩ := bnd_of e
  refine ⟨B, M0, M, sl, x, s1, r, e1, fun M1 v H1 sm1 r1 hx => ⟨B, M0, M1, s1, y, s2, r1, e2, fun M2 u H2 sm2 r2 hy => ?_⟩⟩
  split at e
  · rename_i dx dy k1 k2
    obtain ⟨e3, rfl⟩ := opt_of e
    refine ⟨M2, dx, dy, d', r2.exM, rd_pk r2 (hx.mono sm2) k1, rd_pk r2 hy k2, e3, fun w H3 ho => ?_⟩
    have ho' : OpRes K M2 H2 f w H3 d' := by
      rcases ho with ⟨z1, z2, z3⟩ | z | z
      · exact Or.inl ⟨z1, z2, fun z => z3 (hf z)⟩
      · exact Or.inr (Or.inl z)
      · exact Or.inr (Or.inr z)
    obtain ⟨M3, sm3, rs⟩ := ho'.res r2
    exact q M3 w H3 ((sm1.trans sm2).trans sm3) rs
  · cases e
theorem T_op2b {f : Bool} {ga gb : Sls → R Ov} {p : D → D → Option Bool} {σ : L2.St} {H : Hp} {Q : VK}
    (h : T K f (fun s => (ga s).bnd fun x s => (gb s).bnd fun y s => match rd x s, rd y s with
      | some d, some e => .opt ((p d e).map .bool) s
      | _, _ => .bad) σ H Q) : tOp (r2b K p) (Tp K ga) (Tp K gb) σ H Q := by
  obtain ⟨B, M0, M, sl, d', sl', r, e, q⟩ := h
  obtain ⟨x, s1, e1, e⟩ := bnd_of e
  obtain ⟨y, s2, e2, e⟩ := bnd_of e
  refine ⟨B, M0, M, sl, x, s1, r, e1, fun M1 v H1 sm1 r1 hx => ⟨B, M0, M1, s1, y, s2, r1, e2, fun M2 u H2 sm2 r2 hy => ?_⟩⟩
  split at e
  · rename_i dx dy k1 k2
    obtain ⟨e3, rfl⟩ := opt_of e
    rw [Option.map_eq_some_iff] at e3
    obtain ⟨b, e3, rfl⟩ := e3
    exact ⟨M2, dx, dy, b, r2.exM, rd_pk r2 (hx.mono sm2) k1, rd_pk r2 hy k2, e3, q M2 _ H2 (sm1.trans sm2) (Or.inl ⟨(by intro _ _ z; cases z), r2, .bl b⟩)⟩
  · cases e
/-- an answer without a list -/
theorem noL_int {f : Bool} {i : Int} : f = true → ∀ ds, (PyData.int i : D) ≠ .list ds := by intro _ _ z; cases z
theorem noL_bl {f : Bool} {i : Bool} : f = true → ∀ ds, (PyData.bool i : D) ≠ .list ds := by intro _ _ z; cases z
theorem T_neg {f : Bool} {g : Sls → R D} {σ : L2.St} {H : Hp} {Q : VK} (h : T K f (fun s => (g s).bnd fun d s => match d with
    | .int i => .ok (.int (-i)) s
    | _ => .bad) σ H Q) : tUn (rU fun i => .int (-i)) (T K false g) σ H Q := by
  obtain ⟨B, M0, M, sl, d', sl', r, e, q⟩ := h
  obtain ⟨x, s1, e1, e⟩ := bnd_of e
  refine ⟨B, M0, M, sl, x, s1, r, e1, fun M1 v H1 sm1 rs => ?_⟩
  obtain ⟨M2, sm2, r2, h2⟩ := rs.shared
  split at e <;> cases e
  cases h2
  exact ⟨_, rfl, q M2 _ _ (sm1.trans sm2) (Or.inl ⟨noL_int, r2, .int _⟩)⟩
theorem T_nt {f : Bool} {g : Sls → R D} {σ : L2.St} {H : Hp} {Q : VK} (h : T K f (fun s => (tru (g s)).bnd fun b s => .ok (.bool (!b)) s) σ H Q) : tNotT K (T K false g) σ H Q := by
  obtain ⟨B, M0, M, sl, d', sl', r, e, q⟩ := h
  obtain ⟨b, s1, e1, e⟩ := bnd_of e
  obtain ⟨d, s2, e2, e3⟩ := bnd_of e1
  obtain ⟨e4, rfl⟩ := opt_of e3
  cases e
  refine ⟨B, M0, M, sl, d, _, r, e2, fun M1 v H1 sm1 rs => ?_⟩
  obtain ⟨M2, sm2, r2, h2⟩ := rs.shared
  exact ⟨b, tru_V r2.exM h2 e4, q M2 _ _ (sm1.trans sm2) (Or.inl ⟨noL_bl, r2, .bl _⟩)⟩
theorem T_and {ga gb : Sls → R D} {σ : L2.St} {H : Hp} {Q : VK} (h : T K false (fun s => (ga s).bnd fun d s => match truth d with
    | some true => gb s
    | some false => .ok d s
    | none => .bad) σ H Q) : tAndT K (T K false ga) (T K false gb) σ H Q := by
  obtain ⟨B, M0, M, sl, d', sl', r, e, q⟩ := h
  obtain ⟨d, s1, e1, e⟩ := bnd_of e
  refine ⟨B, M0, M, sl, d, s1, r, e1, fun M1 v H1 sm1 rs => ?_⟩
  obtain ⟨M2, sm2, r2, h2⟩ := rs.shared
  split at e
  · rename_i ht
    refine ⟨true, tru_V r2.exM h2 ht, ?_⟩
    rw [if_pos rfl]
    exact ⟨B, M0, M2, s1, d', sl', r2, e, fun M3 w H3 sm3 rs3 => q M3 w H3 ((sm1.trans sm2).trans sm3) rs3⟩
  · rename_i ht
    cases e
    refine ⟨false, tru_V r2.exM h2 ht, ?_⟩
    rw [if_neg (by decide)]
    exact q M2 _ _ (sm1.trans sm2) (Or.inl ⟨(by intro z; cases z), r2, h2⟩)
  · cases e
theorem T_or {ga gb : Sls → R D} {σ : L2.St} {H : Hp} {Q : VK} (h : T K false (fun s => (ga s).bnd fun d s => match truth d with
    | some true => .ok d s
    | some false => gb s
    | none => .bad) σ H Q) : tOrT K (T K false ga) (T K false gb) σ H Q := by
  obtain ⟨B, M0, M, sl, d', sl', r, e, q⟩ := h
  obtain ⟨d, s1, e1, e⟩ := bnd_of e
  refine ⟨B, M0, M, sl, d, s1, r, e1, fun M1 v H1 sm1 rs => ?_⟩
  obtain ⟨M2, sm2, r2, h2⟩ := rs.shared
  split at e
  · rename_i ht
    cases e
    refine ⟨true, tru_V r2.exM h2 ht, ?_⟩
    rw [if_pos rfl]
    exact q M2 _ _ (sm1.trans sm2) (Or.inl ⟨(by intro z; cases z), r2, h2⟩)
  · rename_i ht
    refine ⟨false, tru_V r2.exM h2 ht, ?_⟩
    rw [if_neg (by decide)]
    exact ⟨B, M0, M2, s1, d', sl', r2, e, fun M3 w H3 sm3 rs3 => q M3 w H3 ((sm1.trans sm2).trans sm3) rs3⟩
  · cases e
/-- .. as tests -/
theorem Tt_and {ga gb : Sls → R D} {σ : L2.St} {H : Hp} {Q : Bool → Hp → Prop} (h : Tt K (fun s => tru ((ga s).bnd fun d s => match truth d with
    | some true => gb s
    | some false => .ok d s
    | none => .bad)) σ H Q) : tAnd (Tt K fun s => tru (ga s)) (Tt K fun s => tru (gb s)) σ H Q := by
  obtain ⟨B, M0, M, sl, d', sl', r, e, q⟩ := h
  obtain ⟨d2, s2, e1, e2⟩ := bnd_of e
  obtain ⟨d, s1, e3, e4⟩ := bnd_of e1
  have go : ∀ b, truth d = some b → tru (ga sl) = .ok b s1 := fun b hb => by
    show (ga sl).bnd _ = _
    rw [e3]
    show R.opt (truth d) s1 = _
    rw [hb]
    rfl
  split at e4
  · rename_i ht
    refine ⟨B, M0, M, sl, true, s1, r, go _ ht, fun M1 H1 sm1 r1 => ?_⟩
    refine ⟨B, M0, M1, s1, d', sl', r1, ?_, fun M2 H2 sm2 r2 => q M2 H2 (sm1.trans sm2) r2⟩
    show (gb s1).bnd _ = _
    rw [e4]
    exact e2
  · rename_i ht
    cases e4
    obtain ⟨e5, rfl⟩ := opt_of e2
    rw [ht] at e5
    cases e5
    exact ⟨B, M0, M, sl, false, _, r, go _ ht, fun M1 H1 sm1 r1 => q M1 H1 sm1 r1⟩
  · cases e4
theorem Tt_or {ga gb : Sls → R D} {σ : L2.St} {H : Hp} {Q : Bool → Hp → Prop} (h : Tt K (fun s => tru ((ga s).bnd fun d s => match truth d with
    | some true => .ok d s
    | some false => gb s
    | none => .bad)) σ H Q) : tOr (Tt K fun s => tru (ga s)) (Tt K fun s => tru (gb s)) σ H Q := by
  obtain ⟨B, M0, M, sl, d', sl', r, e, q⟩ := h
  obtain ⟨d2, s2, e1, e2⟩ := bnd_of e
  obtain ⟨d, s1, e3, e4⟩ := bnd_of e1
  have go : ∀ b, truth d = some b → tru (ga sl) = .ok b s1 := fun b hb => by
    show (ga sl).bnd _ = _
    rw [e3]
    show R.opt (truth d) s1 = _
    rw [hb]
    rfl
  split at e4
  · rename_i ht
    cases e4
    obtain ⟨e5, rfl⟩ := opt_of e2
    rw [ht] at e5
    cases e5
    exact ⟨B, M0, M, sl, true, _, r, go _ ht, fun M1 H1 sm1 r1 => q M1 H1 sm1 r1⟩
  · rename_i ht
    refine ⟨B, M0, M, sl, false, s1, r, go _ ht, fun M1 H1 sm1 r1 => ?_⟩
    refine ⟨B, M0, M1, s1, d', sl', r1, ?_, fun M2 H2 sm2 r2 => q M2 H2 (sm1.trans sm2) r2⟩
    show (gb s1).bnd _ = _
    rw [e4]
    exact e2
  · cases e4
theorem Tt_nt {ga : Sls → R D} {σ : L2.St} {H : Hp} {Q : Bool → Hp → Prop} (h : Tt K (fun s => tru ((tru (ga s)).bnd fun b s => .ok (.bool (!b)) s)) σ H Q) :
    tNot (Tt K fun s => tru (ga s)) σ H Q := by
  obtain ⟨B, M0, M, sl, d', sl', r, e, q⟩ := h
  obtain ⟨d2, s2, e1, e2⟩ := bnd_of e
  obtain ⟨b, s1, e3, e4⟩ := bnd_of e1
  cases e4
  cases e2
  exact ⟨B, M0, M, sl, b, _, r, e3, fun M1 H1 sm1 r1 => q M1 H1 sm1 r1⟩
theorem T_chain {f : Bool} {ga gb gc : Sls → R D} {o1 o2 : CmpOp} {σ : L2.St} {H : Hp} {Q : VK} (h : T K f (fun s => (ga s).bnd fun d s => (gb s).bnd fun e s => match cop o1 d e with
    | none => .bad
    | some false => .ok (.bool false) s
    | some true => (gc s).bnd fun f s => .opt ((cop o2 e f).map .bool) s) σ H Q) : tChain (r2b K (cop o1)) (r2b K (cop o2)) (T K false ga) (T K false gb) (T K false gc) σ H Q := by
  obtain ⟨B, M0, M, sl, d', sl', r, e, q⟩ := h
  obtain ⟨dx, s1, e1, e⟩ := bnd_of e
  obtain ⟨dy, s2, e2, e⟩ := bnd_of e
  refine ⟨B, M0, M, sl, dx, s1, r, e1, fun M1 v H1 sm1 rs => ?_⟩
  obtain ⟨M2, sm2, r2, h2⟩ := rs.shared
  refine ⟨B, M0, M2, s1, dy, s2, r2, e2, fun M3 u H3 sm3 rs3 => ?_⟩
  obtain ⟨M4, sm4, r4, h4⟩ := rs3.shared
  have h2' := Hd.mono (sm3.trans sm4) _ _ h2
  split at e
  · cases e
  · rename_i hb
    cases e
    refine ⟨M4, dx, dy, false, r4.exM, .sh h2', .sh h4, hb, false, rfl, ?_⟩
    rw [if_neg (by decide)]
    exact q M4 _ _ (((sm1.trans sm2).trans sm3).trans sm4) (Or.inl ⟨noL_bl, r4, .bl _⟩)
  · rename_i hb
    obtain ⟨dz, s3, e5, e8⟩ := bnd_of e
    obtain ⟨e7, rfl⟩ := opt_of e8
    rw [Option.map_eq_some_iff] at e7
    obtain ⟨b, e6, rfl⟩ := e7
    refine ⟨M4, dx, dy, true, r4.exM, .sh h2', .sh h4, hb, true, rfl, ?_⟩
    rw [if_pos rfl]
    refine ⟨B, M0, M4, s2, dz, s3, r4, e5, fun M5 w H5 sm5 rs5 => ?_⟩
    obtain ⟨M6, sm6, r6, h6⟩ := rs5.shared
    exact ⟨M6, dy, dz, b, r6.exM, .sh (Hd.mono (sm5.trans sm6) _ _ h4), .sh h6, e6, q M6 _ _ (((((sm1.trans sm2).trans sm3).trans sm4).trans sm5).trans sm6) (Or.inl ⟨noL_bl, r6, .bl _⟩)⟩
theorem T_ite {f : Bool} {gc : Sls → R Bool} {ga gb : Sls → R D} {σ : L2.St} {H : Hp} {Q : VK} (h : T K f (fun s => (gc s).bnd fun t s => if t then ga s else gb s) σ H Q) :
    tIf (Tt K gc) (T K f ga) (T K f gb) σ H Q := by
  obtain ⟨B, M0, M, sl, d', sl', r, e, q⟩ := h
  obtain ⟨b, s1, e1, e⟩ := bnd_of e
  refine ⟨B, M0, M, sl, b, s1, r, e1, fun M1 H1 sm1 r1 => ?_⟩
  cases b with
  | true => exact ⟨B, M0, M1, s1, d', sl', r1, e, fun M2 v H2 sm2 rs => q M2 v H2 (sm1.trans sm2) rs⟩
  | false => exact ⟨B, M0, M1, s1, d', sl', r1, e, fun M2 v H2 sm2 rs => q M2 v H2 (sm1.trans sm2) rs⟩
theorem T_cut {ga : Sls → R Ov} {gl gh : Sls → R (Option Int)} {σ : L2.St} {H : Hp} {Q : VK} (h : T K true (fun s => (ga s).bnd fun x s => (gl s).bnd fun l s => (gh s).bnd fun h s => match rd x s with
    | some d => .opt (slD d l h) s
    | none => .bad) σ H Q) : tSl (rSl K) (Tp K ga) (Tb K gl) (Tb K gh) σ H Q := by
  obtain ⟨B, M0, M, sl, d', sl', r, e, q⟩ := h
  obtain ⟨x, s1, e1, e⟩ := bnd_of e
  obtain ⟨l, s2, e2, e⟩ := bnd_of e
  obtain ⟨u, s3, e3, e⟩ := bnd_of e
  refine ⟨B, M0, M, sl, x, s1, r, e1, fun M1 v H1 sm1 r1 hx => ⟨B, M0, M1, s1, l, s2, r1, e2, fun M2 H2 sm2 r2 => ⟨B, M0, M2, s2, u, s3, r2, e3, fun M3 H3 sm3 r3 => ?_⟩⟩⟩
  split at e
  · rename_i dx k1
    obtain ⟨e4, rfl⟩ := opt_of e
    refine ⟨M3, dx, d', r3.exM, rd_pk r3 (hx.mono (sm2.trans sm3)) k1, e4, fun w H4 ho => ?_⟩
    obtain ⟨M4, sm4, rs⟩ := ho.res r3
    exact q M4 w H4 (((sm1.trans sm2).trans sm3).trans sm4) rs
  · cases e
theorem T_bf {f : Bf} {g : Sls → R (List Ov)} {σ : L2.St} {H : Hp} {Q : VK} (h : T K true (fun s => (g s).bnd fun os s => match rdA os s with
    | some ds => .opt (bfn f ds) s
    | none => .bad) σ H Q) : tCB (rBf K f) (Tpa K g) σ H Q := by
  obtain ⟨B, M0, M, sl, d', sl', r, e, q⟩ := h
  obtain ⟨os, s1, e1, e⟩ := bnd_of e
  refine ⟨B, M0, M, sl, os, s1, r, e1, fun M1 vs H1 sm1 r1 hx => ?_⟩
  split at e
  · rename_i ds k1
    obtain ⟨e4, rfl⟩ := opt_of e
    refine ⟨M1, ds, d', r1.exM, rdA_pk r1 hx k1, e4, fun w H4 ho => ?_⟩
    obtain ⟨M4, sm4, rs⟩ := ho.res r1
    exact q M4 w H4 (sm1.trans sm4) rs
  · cases e
theorem T_sc {i : Nat} {lo hi : Option Int} {Φ : Nat → Sem1} {σ : L2.St} {H : Hp} {Q : VK} (h : T K true (ev Φ (.sc i lo hi)) σ H Q) :
    tSl (rSlL K) (tVar i) (fun _ H Q => Q lo H) (fun _ H Q => Q hi H) σ H Q := by
  obtain ⟨B, M0, M, sl, d', sl', r, e, q⟩ := h
  simp only [ev] at e
  split at e
  · rename_i ns hs
    cases e
    obtain ⟨a, q1, q2⟩ := r.slot i _ hs
    refine ⟨_, getD_some q1, a, ns.map V.int, rfl, (r.m0.trans r.exM).seq q2, fun p hp => ?_⟩
    obtain ⟨M4, sm4, rs⟩ := (res_lst (K := K) (M := M) (f := true) hp (cut_hd (hdA_of_ints ns) lo hi)).res r
    exact q M4 _ _ sm4 rs
  · cases e
theorem Tt_tru {g : Sls → R D} {σ : L2.St} {H : Hp} {Q : Bool → Hp → Prop} (h : Tt K (fun s => tru (g s)) σ H Q) :
    T K false g σ H fun x H1 => ∃ b, TruV K x H1 b ∧ Q b H1 := by
  obtain ⟨B, M0, M, sl, b, sl', r, e, q⟩ := h
  obtain ⟨d, s2, e2, e3⟩ := bnd_of e
  obtain ⟨e4, rfl⟩ := opt_of e3
  refine ⟨B, M0, M, sl, d, _, r, e2, fun M1 v H1 sm1 rs => ?_⟩
  obtain ⟨M2, sm2, r2, h2⟩ := rs.shared
  exact ⟨b, tru_V r2.exM h2 e4, q M2 _ (sm1.trans sm2) r2⟩
/-- argument lists -/
theorem Ta_nil {σ : L2.St} {H : Hp} {Q : List V → Hp → Prop} {Φ : Nat → Sem1} (h : Ta K (evs Φ .nil) σ H Q) : tNil σ H Q := by
  obtain ⟨B, M0, M, sl, ds, sl', r, e, q⟩ := h
  cases e
  exact q M [] H (Same.refl _) r .nil
theorem Ta_cons {g : Sls → R D} {gs : Sls → R (List D)} {σ : L2.St} {H : Hp} {Q : List V → Hp → Prop} (h : Ta K (fun s => (g s).bnd fun d s => (gs s).bnd fun ds s => .ok (d :: ds) s) σ H Q) :
    tCons (T K false g) (Ta K gs) σ H Q := by
  obtain ⟨B, M0, M, sl, ds, sl', r, e, q⟩ := h
  obtain ⟨d, s1, e1, e⟩ := bnd_of e
  obtain ⟨ds', s2, e2, e⟩ := bnd_of e
  cases e
  refine ⟨B, M0, M, sl, d, s1, r, e1, fun M1 v H1 sm1 rs => ?_⟩
  obtain ⟨M2, sm2, r2, h2⟩ := rs.shared
  exact ⟨B, M0, M2, s1, ds', _, r2, e2, fun M3 vs H3 sm3 r3 hA => q M3 (v :: vs) H3 ((sm1.trans sm2).trans sm3) r3 (.cons (Hd.mono sm3 _ _ h2) hA)⟩
theorem OvA.mono {M M' : Hp} (s : Same M M') : ∀ {vs : List V} {os : List Ov}, OvA K M σ vs os → OvA K M' σ vs os
  | _, _, .nil => .nil
  | _, _, .cons a t => .cons (a.mono s) (t.mono s)
theorem Tpa_nil {σ : L2.St} {H : Hp} {Q : List V → Hp → Prop} {Φ : Nat → Sem1} (h : Tpa K (evos Φ .nil) σ H Q) : tNil σ H Q := by
  obtain ⟨B, M0, M, sl, ds, sl', r, e, q⟩ := h
  cases e
  exact q M [] H (Same.refl _) r .nil
theorem Tpa_cons {g : Sls → R Ov} {gs : Sls → R (List Ov)} {σ : L2.St} {H : Hp} {Q : List V → Hp → Prop} (h : Tpa K (fun s => (g s).bnd fun d s => (gs s).bnd fun ds s => .ok (d :: ds) s) σ H Q) :
    tCons (Tp K g) (Tpa K gs) σ H Q := by
  obtain ⟨B, M0, M, sl, ds, sl', r, e, q⟩ := h
  obtain ⟨d, s1, e1, e⟩ := bnd_of e
  obtain ⟨ds', s2, e2, e⟩ := bnd_of e
  cases e
  refine ⟨B, M0, M, sl, d, s1, r, e1, fun M1 v H1 sm1 r1 hx => ?_⟩
  exact ⟨B, M0, M1, s1, ds', _, r1, e2, fun M3 vs H3 sm3 r3 hA => q M3 (v :: vs) H3 (sm1.trans sm3) r3 (.cons (hx.mono sm3) hA)⟩
theorem AvR.mono {M M' : Hp} (s : Same M M') {v : V} {a : Av} (h : AvR K M σ v a) : AvR K M' σ v a := by
  cases a with
  | v d => exact Hd.mono s _ _ h
  | o i => exact h
  | p i => exact h
  | s i => exact h
theorem AvA.mono {M M' : Hp} (s : Same M M') : ∀ {vs : List V} {os : List Av}, AvA K M σ vs os → AvA K M' σ vs os
  | _, _, .nil => .nil
  | _, _, .cons a t => .cons (a.mono s) (t.mono s)
theorem Tav_nil {σ : L2.St} {H : Hp} {Q : List V → Hp → Prop} {Φ : Nat → Sem1} (h : Tav K (evas Φ .nil) σ H Q) : tNil σ H Q := by
  obtain ⟨B, M0, M, sl, ds, sl', r, e, q⟩ := h
  cases e
  exact q M [] H (Same.refl _) r .nil
theorem Tav_v {g : Sls → R D} {gs : Sls → R (List Av)} {σ : L2.St} {H : Hp} {Q : List V → Hp → Prop} (h : Tav K (fun s => (g s).bnd fun d s => (gs s).bnd fun as s => .ok (.v d :: as) s) σ H Q) :
    tCons (T K false g) (Tav K gs) σ H Q := by
  obtain ⟨B, M0, M, sl, ds, sl', r, e, q⟩ := h
  obtain ⟨d, s1, e1, e⟩ := bnd_of e
  obtain ⟨ds', s2, e2, e⟩ := bnd_of e
  cases e
  refine ⟨B, M0, M, sl, d, s1, r, e1, fun M1 v H1 sm1 rs => ?_⟩
  obtain ⟨M2, sm2, r2, h2⟩ := rs.shared
  exact ⟨B, M0, M2, s1, ds', _, r2, e2, fun M3 vs H3 sm3 r3 hA => q M3 (v :: vs) H3 ((sm1.trans sm2).trans sm3) r3 (.cons (Hd.mono sm3 _ _ h2) hA)⟩
theorem Tav_i {i : Nat} {a : Av} (ha : ∀ M v, σ[i]? = some (some v) → AvR K M σ v a) {gs : Sls → R (List Av)} {H : Hp} {Q : List V → Hp → Prop} (h : Tav K (fun s => if here i s then (gs s).bnd fun as s => .ok (a :: as) s else .bad) σ H Q) :
    tCons (tVar i) (Tav K gs) σ H Q := by
  obtain ⟨B, M0, M, sl, ds, sl', r, e, q⟩ := h
  simp only at e
  split at e
  · rename_i hh
    obtain ⟨v, hv⟩ := here_some r hh
    obtain ⟨ds', s2, e2, e⟩ := bnd_of e
    cases e
    exact ⟨v, hv, B, M0, M, sl, ds', _, r, e2, fun M3 vs H3 sm3 r3 hA => q M3 (v :: vs) H3 sm3 r3 (.cons (ha _ _ hv) hA)⟩
  · cases e
end
theorem evs_len {Φ : Nat → Sem1} : ∀ {es : Es} {s s' : Sls} {ds : List D}, evs Φ es s = .ok ds s' → ds.length = es.len
  | .nil, _, _, _, h => by cases h; rfl
  | .cons e r, s, s', ds, h => by
    obtain ⟨d, s1, e1, e2⟩ := bnd_of h
    obtain ⟨ds', s2, e3, e4⟩ := bnd_of e2
    cases e4
    show ds'.length + 1 = r.len + 1
    rw [evs_len e3]
def plainL (l : List Expr) : Prop := ∀ e ∈ l, plainE e = true
theorem plainL_back {env : Env} {pos : Pos} : ∀ {l : List Expr}, plainL l → (backTo pos (starEach l env)).any (·.1) = false
  | [], _ => rfl
  | e :: r, h => by
    rw [plain_star (h e List.mem_cons_self)]
    show (false || (backTo pos (starEach r env)).any (·.1)) = false
    rw [plainL_back (fun x hx => h x (List.mem_cons_of_mem _ hx))]
    rfl
theorem chkEs_plain {N : List Str} {tb : Nat → Option Def} {sc : Scope} : ∀ {es : Es} {l : List Expr}, chkEs N tb sc es l = true → plainL l
  | .nil, [], _ => fun _ h => by cases h
  | .nil, _ :: _, h => by simp [chkEs] at h
  | .cons _ _, [], h => by simp [chkEs] at h
  | .cons e r, x :: t, h => by
    simp only [chkEs, Bool.and_eq_true] at h
    intro y hy
    rcases List.mem_cons.mp hy with z | hy
    · rw [z]
      exact h.1.1
    · exact chkEs_plain h.2 y hy
theorem chkAs_plain {N : List Str} {tb : Nat → Option Def} {sc : Scope} : ∀ {as : As} {l : List Expr}, chkAs N tb sc as l = true → plainL l ∧ l.length = as.len
  | .nil, [], _ => ⟨(fun _ h => by cases h), rfl⟩
  | .nil, _ :: _, h => by simp [chkAs] at h
  | .v e r, l, h => by
    unfold chkAs at h
    split at h
    · simp only [Bool.and_eq_true] at h
      obtain ⟨q1, q2⟩ := chkAs_plain h.2
      refine ⟨fun y hy => ?_, by simp [As.len, q2]⟩
      rcases List.mem_cons.mp hy with z | hy
      · rw [z]
        exact h.1.1
      · exact q1 y hy
    · cases h
  | .o i r, l, h => by
    unfold chkAs at h
    split at h
    · simp only [Bool.and_eq_true] at h
      obtain ⟨q1, q2⟩ := chkAs_plain h.2
      refine ⟨fun y hy => ?_, by simp [As.len, q2]⟩
      rcases List.mem_cons.mp hy with z | hy
      · rw [z]
        rfl
      · exact q1 y hy
    · cases h
  | .p i r, l, h => by
    unfold chkAs at h
    split at h
    · simp only [Bool.and_eq_true] at h
      obtain ⟨q1, q2⟩ := chkAs_plain h.2
      refine ⟨fun y hy => ?_, by simp [As.len, q2]⟩
      rcases List.mem_cons.mp hy with z | hy
      · rw [z]
        rfl
      · exact q1 y hy
    · cases h
  | .sc i r, l, h => by
    unfold chkAs at h
    split at h
    · simp only [Bool.and_eq_true] at h
      obtain ⟨q1, q2⟩ := chkAs_plain h.2
      refine ⟨fun y hy => ?_, by simp [As.len, q2]⟩
      rcases List.mem_cons.mp hy with z | hy
      · rw [z]
        rfl
      · exact q1 y hy
    · cases h
  | .k f as i r, l, h => by
    unfold chkAs at h
    split at h
    · simp only [Bool.and_eq_true] at h
      obtain ⟨q1, q2⟩ := chkAs_plain h.2
      refine ⟨fun y hy => ?_, by simp [As.len, q2]⟩
      rcases List.mem_cons.mp hy with z | hy
      · rw [z]
        rfl
      · exact q1 y hy
    · cases h
theorem boot_bf (f : Bf) : bootBuiltins f.nm = some f.val := by cases f <;> decide +kernel
theorem blt_bf (f : Bf) : f.nm ∈ bltNames := by cases f <;> decide +kernel
theorem boot_ty (t : Ty) : bootBuiltins t.nm = some (.type (tyN t)) := by cases t <;> decide +kernel
theorem blt_ty (t : Ty) : t.nm ∈ bltNames := by cases t <;> decide +kernel
theorem nm_bf (f : Bf) : f.nm ≠ "__name__" ∧ (f.nm == ("__debug__" : Str)) = false := by cases f <;> decide +kernel
theorem nm_ty (f : Ty) : f.nm ≠ "__name__" ∧ (f.nm == ("__debug__" : Str)) = false := by cases f <;> decide +kernel
end L3

set_option Elab.async false
set_option linter.all false
set_option maxRecDepth 100000
set_option maxHeartbeats 4000000
/-! calls, targets, what is walked, comprehensions -/
namespace L3
open PySem PySem.Spec PyProof.Rows L2

theorem evas_len {Φ : Nat → Sem1} : ∀ {as : As} {s s' : Sls} {avs : List Av}, evas Φ as s = .ok avs s' → avs.length = as.len
  | .nil, _, _, _, h => by cases h; rfl
  | .v e r, s, s', ds, h => by
    obtain ⟨d, s1, e1, e2⟩ := bnd_of h
    obtain ⟨ds', s2, e3, e4⟩ := bnd_of e2
    cases e4
    show ds'.length + 1 = r.len + 1
    rw [evas_len e3]
  | .o i r, s, s', ds, h => by
    simp only [evas] at h
    split at h
    · obtain ⟨ds', s2, e3, e4⟩ := bnd_of h
      cases e4
      show ds'.length + 1 = r.len + 1
      rw [evas_len e3]
    · cases h
  | .p i r, s, s', ds, h => by
    simp only [evas] at h
    split at h
    · obtain ⟨ds', s2, e3, e4⟩ := bnd_of h
      cases e4
      show ds'.length + 1 = r.len + 1
      rw [evas_len e3]
    · cases h
  | .sc i r, s, s', ds, h => by
    simp only [evas] at h
    split at h
    · obtain ⟨ds', s2, e3, e4⟩ := bnd_of h
      cases e4
      show ds'.length + 1 = r.len + 1
      rw [evas_len e3]
    · cases h
  | .k f as i r, s, s', ds, h => by
    obtain ⟨d, s1, e1, e2⟩ := bnd_of h
    obtain ⟨d', s3, e5, e6⟩ := bnd_of e2
    obtain ⟨ds', s2, e3, e4⟩ := bnd_of e6
    cases e4
    show ds'.length + 1 = r.len + 1
    rw [evas_len e3]
theorem evas_isO {Φ : Nat → Sem1} : ∀ {as : As} {s s' : Sls} {avs : List Av} {j i : Nat}, evas Φ as s = .ok avs s' → as.isO j i = true → avs[j]? = some (.o i)
  | .nil, _, _, _, _, _, h, z => by simp [As.isO] at z
  | .v e r, s, s', ds, j, i, h, z => by
    obtain ⟨d, s1, e1, e2⟩ := bnd_of h
    obtain ⟨ds', s2, e3, e4⟩ := bnd_of e2
    cases e4
    cases j with
    | zero => simp [As.isO] at z
    | succ j => simpa using evas_isO e3 (by simpa [As.isO] using z)
  | .o i' r, s, s', ds, j, i, h, z => by
    simp only [evas] at h
    split at h
    · obtain ⟨ds', s2, e3, e4⟩ := bnd_of h
      cases e4
      cases j with
      | zero =>
        simp [As.isO] at z
        simp [z]
      | succ j => simpa using evas_isO e3 (by simpa [As.isO] using z)
    · cases h
  | .p i' r, s, s', ds, j, i, h, z => by
    simp only [evas] at h
    split at h
    · obtain ⟨ds', s2, e3, e4⟩ := bnd_of h
      cases e4
      cases j with
      | zero => simp [As.isO] at z
      | succ j => simpa using evas_isO e3 (by simpa [As.isO] using z)
    · cases h
  | .sc i' r, s, s', ds, j, i, h, z => by
    simp only [evas] at h
    split at h
    · obtain ⟨ds', s2, e3, e4⟩ := bnd_of h
      cases e4
      cases j with
      | zero => simp [As.isO] at z
      | succ j => simpa using evas_isO e3 (by simpa [As.isO] using z)
    · cases h
  | .k f as i' r, s, s', ds, j, i, h, z => by
    obtain ⟨d, s1, e1, e2⟩ := bnd_of h
    obtain ⟨d', s3, e5, e6⟩ := bnd_of e2
    obtain ⟨ds', s2, e3, e4⟩ := bnd_of e6
    cases e4
    cases j with
    | zero =>
      simp [As.isO] at z
      simp [z]
    | succ j => simpa using evas_isO e3 (by simpa [As.isO] using z)

theorem doCall_of {φ : Sem1} {avs : List Av} {s s' : Sls} {d : D} (h : doCall φ avs s = .ok d s') :
    callOk avs = true ∧ ∃ args outs, argSl avs s = some args ∧ φ args = some (d, outs) ∧ (hasP avs s && (hasO avs || !flat d)) = false ∧ backSl avs outs s = some s' := by
  unfold doCall at h
  split at h
  · rename_i hc
    split at h
    · cases h
    · rename_i args ha
      split at h
      · cases h
      · rename_i d' outs hp
        split at h
        · cases h
        · rename_i hq
          split at h
          · cases h
          · rename_i s2 hb
            cases h
            exact ⟨hc, args, outs, ha, hp, by simpa using hq, hb⟩
  · cases h

section
variable {K : PySem.W.Frag} {σ : L2.St} {H : Hp}
theorem T_call {φ : Sem1} {np : Nat} {rk : RK} {f : Bool} {g : Sls → R (List Av)} {Q : VK} (hn : ∀ s avs s', g s = .ok avs s' → avs.length = np) (hf : (f = true ∧ rk = .fr) ∨ (f = false ∧ rk = .sh))
    (h : T K f (fun s => (g s).bnd fun avs s => doCall φ avs s) σ H Q) : tCallG (spD K φ np rk) E0 (Tav K g) σ H Q := by
  obtain ⟨B, M0, M, sl, d', sl', r, e, q⟩ := h
  obtain ⟨avs, s1, e1, e2⟩ := bnd_of e
  obtain ⟨hc, args, outs, ha, hp, hq, hb⟩ := doCall_of e2
  refine ⟨B, M0, M, sl, avs, s1, r, e1, fun M1 vs H1 sm1 r1 hA => ?_⟩
  obtain ⟨Bc, Mc, rc, smc, hl, cont⟩ := call_rel r1 hA hc ha
  refine ⟨args, Bc, Mc, outs, d', by rw [hl]; exact hn _ _ _ e1, rc, hp, fun v M' σ' H' sl2 sM ret ho kio => ?_⟩
  obtain ⟨M2, sm2, res⟩ := cont sM ret (by rw [hl, hn _ _ _ e1]; exact ho) kio hq hb
  rcases hf with ⟨rfl, rfl⟩ | ⟨rfl, rfl⟩
  · exact q M2 v H' (sm1.trans sm2) res
  · exact q M2 v H' (sm1.trans sm2) (Or.inl ⟨(by intro z; cases z), res.1, res.2⟩)
/-- a call that hands its own argument back -/
def Tk (K : PySem.W.Frag) (g : Sls → R Unit) (i : Nat) : TE := fun σ H Q => ∃ B M0 M sl sl', Rel K B M0 M sl σ H ∧ g sl = .ok () sl' ∧
  ∀ M' v H', Same M M' → Rel K B M0 M' sl' σ H' → σ[i]? = some (some v) → Q v H'
theorem T_callk {φ : Sem1} {np j i : Nat} {g : Sls → R (List Av)} {Q : VK} (hn : ∀ s avs s', g s = .ok avs s' → avs.length = np) (hj : ∀ s avs s', g s = .ok avs s' → avs[j]? = some (.o i))
    (h : Tk K (fun s => (g s).bnd fun avs s => (doCall φ avs s).bnd fun _ s => .ok () s) i σ H Q) : tCallG (spD K φ np (.io j)) E0 (Tav K g) σ H Q := by
  obtain ⟨B, M0, M, sl, sl', r, e, q⟩ := h
  obtain ⟨avs, s1, e1, e2⟩ := bnd_of e
  obtain ⟨d', s2, e3, e4⟩ := bnd_of e2
  cases e4
  obtain ⟨hc, args, outs, ha, hp, hq, hb⟩ := doCall_of e3
  refine ⟨B, M0, M, sl, avs, s1, r, e1, fun M1 vs H1 sm1 r1 hA => ?_⟩
  obtain ⟨Bc, Mc, rc, smc, hl, cont⟩ := call_rel r1 hA hc ha
  refine ⟨args, Bc, Mc, outs, d', by rw [hl]; exact hn _ _ _ e1, rc, hp, fun v M' σ' H' sl2 sM ret ho kio => ?_⟩
  obtain ⟨M2, sm2, res⟩ := cont sM ret (by rw [hl, hn _ _ _ e1]; exact ho) kio hq hb
  exact q M2 v H' (sm1.trans sm2) res.1 (res.2 i (hj _ _ _ e1))
theorem Tav_k {g : Sls → R (List Av)} {φ : Sem1} {i : Nat} {gs : Sls → R (List Av)} {Q : List V → Hp → Prop}
    (h : Tav K (fun s => (g s).bnd fun avs s => (doCall φ avs s).bnd fun _ s => (gs s).bnd fun as s => .ok (.o i :: as) s) σ H Q) :
    tCons (Tk K (fun s => (g s).bnd fun avs s => (doCall φ avs s).bnd fun _ s => .ok () s) i) (Tav K gs) σ H Q := by
  obtain ⟨B, M0, M, sl, ds, sl', r, e, q⟩ := h
  obtain ⟨avs, s1, e1, e2⟩ := bnd_of e
  obtain ⟨d', s2, e3, e4⟩ := bnd_of e2
  obtain ⟨ds', s3, e5, e6⟩ := bnd_of e4
  cases e6
  refine ⟨B, M0, M, sl, s2, r, by show (g sl).bnd _ = _; rw [e1]; show (doCall φ avs s1).bnd _ = _; rw [e3]; rfl, fun M1 v H1 sm1 r1 hv => ?_⟩
  exact ⟨B, M0, M1, s2, ds', _, r1, e5, fun M3 vs H3 sm3 r3 hA => q M3 (v :: vs) H3 (sm1.trans sm3) r3 (.cons hv hA)⟩

/-! ### targets -/
def Tgt (K : PySem.W.Frag) (t : Tg) : TG := fun v σ H Q => ∃ B M0 M sl d sl', Rel K B M0 M sl σ H ∧ Hd K M v d ∧ asgTg t d sl = some sl' ∧
  ∀ σ', Rel K B M0 M sl' σ' H → (∀ j, j ∉ t.sl → σ'[j]? = σ[j]?) → Q σ' H
def Tgts (K : PySem.W.Frag) (t : Tgs) : TGs := fun vs σ H Q => ∃ B M0 M sl ds sl', Rel K B M0 M sl σ H ∧ HdA K M vs ds ∧ asgTgs t ds sl = some sl' ∧
  ∀ σ', Rel K B M0 M sl' σ' H → (∀ j, j ∉ t.sl → σ'[j]? = σ[j]?) → Q σ' H
theorem pg_imp {X : Cx} {e : Expr} {t t' : TG} (h : PG X e t) (hi : ∀ v σ H Q, t' v σ H Q → t v σ H Q) : PG X e t' :=
  ⟨fun pins s σ H v u Q I r q => h.run pins s σ H v u Q I r (hi _ _ _ _ q)⟩
theorem pgs_imp {X : Cx} {e : List Expr} {t t' : TGs} (h : PGs X e t) (hi : ∀ v σ H Q, t' v σ H Q → t v σ H Q) : PGs X e t' :=
  ⟨fun pins s σ H v u Q I r q => h.run pins s σ H v u Q I r (hi _ _ _ _ q)⟩
theorem plain_asg {e : Expr} (h : plainE e = true) (es : List Expr) (env : Env) : assignEach (e :: es) env = (false, assign e env) :: assignEach es env := by
  cases e <;> first | rfl | cases h
theorem plainL_asg {env : Env} : ∀ {l : List Expr}, plainL l → (assignEach l env).length = l.length ∧ (assignEach l env).findIdx? (·.1) = none
  | [], _ => ⟨rfl, rfl⟩
  | e :: r, h => by
    rw [plain_asg (h e List.mem_cons_self)]
    obtain ⟨h1, h2⟩ := plainL_asg (env := env) (l := r) (fun x hx => h x (List.mem_cons_of_mem _ hx))
    refine ⟨by simp [h1], ?_⟩
    rw [List.findIdx?_cons]
    simp [h2]
end
section
variable {X : Cx} {k : Nat} {tb : Nat → Option Def} {Φ : Nat → Sem1} {sc : Scope}
theorem chkTgs_plain {N : List Str} : ∀ {t : Tgs} {l : List Expr}, chkTgs N sc t l = true → plainL l
  | .nil, [], _ => fun _ h => by cases h
  | .nil, _ :: _, h => by simp [chkTgs] at h
  | .cons _ _, [], h => by simp [chkTgs] at h
  | .cons e r, x :: t, h => by
    simp only [chkTgs, Bool.and_eq_true] at h
    intro y hy
    rcases List.mem_cons.mp hy with z | hy
    · rw [z]
      exact h.1.1
    · exact chkTgs_plain h.2 y hy
def Tgs.len : Tgs → Nat
  | .nil => 0
  | .cons _ r => r.len + 1
theorem chkTgs_len {N : List Str} : ∀ {t : Tgs} {l : List Expr}, chkTgs N sc t l = true → l.length = t.len
  | .nil, [], _ => rfl
  | .nil, _ :: _, h => by simp [chkTgs] at h
  | .cons _ _, [], h => by simp [chkTgs] at h
  | .cons e r, x :: t, h => by
    simp only [chkTgs, Bool.and_eq_true] at h
    show t.length + 1 = r.len + 1
    rw [chkTgs_len h.2]
omit X k tb Φ sc in
theorem asgTgs_len : ∀ {t : Tgs} {ds : List D} {s s' : Sls}, asgTgs t ds s = some s' → ds.length = t.len
  | .nil, [], _, _, _ => rfl
  | .nil, _ :: _, _, _, h => by simp [asgTgs] at h
  | .cons _ _, [], _, _, h => by simp [asgTgs] at h
  | .cons t r, d :: ds, s, s', h => by
    simp only [asgTgs] at h
    split at h
    · show ds.length + 1 = r.len + 1
      rw [asgTgs_len h]
    · cases h
mutual
theorem soundTg (G : Good X k tb Φ sc) : ∀ (t : Tg) (e : Expr), chkTg X.N sc t e = true → PG X e (Tgt X.K t)
  | .nm i, e, h => by
    unfold chkTg at h
    split at h
    · obtain ⟨h1, h2, h3⟩ := G.sto h
      refine pg_imp (pg_name G.nd h1 h2 h3) ?_
      rintro v σ H Q ⟨B, M0, M, sl, d, sl', r, hd, e, q⟩
      cases e
      refine q _ (r.setSh i hd) (fun j hj => ?_)
      rw [List.getElem?_set_ne]
      simp [Tg.sl] at hj
      exact fun z => hj z.symm
    · cases h
  | .tp ts, e, h => by
    unfold chkTg at h
    split at h
    · have pl := chkTgs_plain h
      obtain ⟨p1, p2⟩ := plainL_asg (env := X.env) pl
      refine pg_imp (pg_tup (n := _) G.calm (soundTgs G ts _ h) p1 p2) ?_
      rintro v σ H Q ⟨B, M0, M, sl, d, sl', r, hd, e, q⟩
      cases d <;> simp only [asgTg] at e <;> try cases e
      cases hd with
      | tup h1 h2 =>
        refine ⟨_, _, rfl, sqT_mono (fun o z _ => r.exM _ o z) h1, ?_, B, M0, M, sl, _, sl', r, h2, e, q⟩
        rw [h2.length, asgTgs_len e, chkTgs_len h]
    · cases h
theorem soundTgs (G : Good X k tb Φ sc) : ∀ (t : Tgs) (l : List Expr), chkTgs X.N sc t l = true → PGs X l (Tgts X.K t)
  | .nil, l, h => by
    unfold chkTgs at h
    split at h
    · refine pgs_imp pgs_nil ?_
      rintro v σ H Q ⟨B, M0, M, sl, d, sl', r, hd, e, q⟩
      cases d with
      | nil =>
        cases e
        cases hd
        exact ⟨rfl, q σ r (fun _ _ => rfl)⟩
      | cons _ _ => simp [asgTgs] at e
    · cases h
  | .cons t ts, l, h => by
    unfold chkTgs at h
    split at h
    · simp only [Bool.and_eq_true] at h
      refine pgs_imp (pgs_cons (soundTg G t _ h.1.2) (soundTgs G ts _ h.2) (by rw [plain_asg h.1.1]; rfl)) ?_
      rintro v σ H Q ⟨B, M0, M, sl, ds, sl', r, hd, e, q⟩
      cases ds with
      | nil => simp [asgTgs] at e
      | cons d ds =>
        simp only [asgTgs] at e
        split at e
        · rename_i s1 e1
          cases hd with
          | cons hd1 hd2 =>
            refine ⟨_, _, rfl, B, M0, M, sl, d, s1, r, hd1, e1, fun σ1 r1 k1 => ⟨B, M0, M, s1, ds, sl', r1, hd2, e, fun σ2 r2 k2 => q σ2 r2 (fun j hj => ?_)⟩⟩
            simp only [Tgs.sl, List.mem_append, not_or] at hj
            rw [k2 j hj.2, k1 j hj.1]
        · cases e
    · cases h
end
end

/-! ### what is walked -/
def Wk (K : PySem.W.Frag) (M' : Hp) (J : L2.It) (items : List D) : Prop :=
  (∀ i H, i < items.length → Same M' H → J.go i H) ∧ (∀ H, Same M' H → J.stop items.length H) ∧
  ∀ i H x H', i < items.length → Same M' H → J.yld i H x H' → ∀ {B M0 M2 : Hp} {sl : Sls} {σ : L2.St}, Same M' M2 → Rel K B M0 M2 sl σ H →
    ∃ M3 d, Same M2 M3 ∧ Rel K B M0 M3 sl σ H' ∧ items[i]? = some d ∧ Hd K M3 x d
def Ti (K : PySem.W.Frag) (f : Sls → R (List D)) : TI := fun σ H R => ∃ B M0 M sl items sl', Rel K B M0 M sl σ H ∧ f sl = .ok items sl' ∧
  ∀ M' J H', Same M M' → Rel K B M0 M' sl' σ H' → Wk K M' J items → R J H'
section
variable {K : PySem.W.Frag} {M' : Hp}
theorem wk_list {a : Addr} {vs : List V} {ds : List D} (h : M' a = some (.lst vs)) (hA : HdA K M' vs ds) : Wk K M' (Itl K a) ds := by
  refine ⟨fun i H hi s => ?_, fun H s => ⟨vs, SqL.of (s _ _ h), by rw [hA.length]; exact Nat.le_refl _⟩, fun i H x H' hi s y B M0 M2 sl σ sm r => ?_⟩
  · have hi' : i < vs.length := by rw [hA.length]; exact hi
    exact ⟨vs, vs[i], SqL.of (s _ _ h), List.getElem?_eq_getElem hi'⟩
  · obtain ⟨rfl, y⟩ := y
    obtain ⟨d, h1, h2⟩ := hA.getV (y vs (SqL.of (s _ _ h)))
    exact ⟨M2, d, Same.refl _, r, h1, Hd.mono sm _ _ h2⟩
theorem wk_tup {a : Addr} {vs : List V} {ds : List D} (h : SqT K M' a vs) (hA : HdA K M' vs ds) : Wk K M' (Itt K a) ds := by
  have up : ∀ {H : Hp}, Same M' H → SqT K H a vs := fun {H} s => sqT_mono (fun o z _ => s _ o z) h
  refine ⟨fun i H hi s => ?_, fun H s => ⟨vs, up s, by rw [hA.length]; exact Nat.le_refl _⟩, fun i H x H' hi s y B M0 M2 sl σ sm r => ?_⟩
  · have hi' : i < vs.length := by rw [hA.length]; exact hi
    exact ⟨vs, vs[i], up s, List.getElem?_eq_getElem hi'⟩
  · obtain ⟨rfl, y⟩ := y
    obtain ⟨d, h1, h2⟩ := hA.getV (y vs (up s))
    exact ⟨M2, d, Same.refl _, r, h1, Hd.mono sm _ _ h2⟩
theorem wk_str {z : Str} : Wk K M' (Its z) (z.cps.toList.map fun c => .str ⟨#[c]⟩) := by
  refine ⟨fun i H hi s => (by show i < z.cps.size; simpa using hi), fun H s => (by show z.cps.size ≤ _; simp), fun i H x H' hi s y B M0 M2 sl σ sm r => ?_⟩
  obtain ⟨rfl, c, h1, rfl⟩ := y
  refine ⟨M2, .str ⟨#[c]⟩, Same.refl _, r, ?_, .str _⟩
  rw [List.getElem?_map, Array.getElem?_toList, h1]
  rfl
theorem wk_rng {lo hi : Int} {n : Nat} (hn : n = (hi - lo).toNat) : Wk K M' (Itr lo n) (rngL lo hi) := by
  have hl : (rngL lo hi).length = n := by simp [rngL, hn]
  refine ⟨fun i H hi s => by rw [hl] at hi; exact hi, fun H s => by rw [hl]; exact Nat.le_refl _, fun i H x H' hi' s y B M0 M2 sl σ sm r => ?_⟩
  obtain ⟨rfl, rfl⟩ := y
  rw [hl] at hi'
  refine ⟨M2, .int (lo + i), Same.refl _, r, ?_, .int _⟩
  rw [rngL, List.getElem?_map, List.getElem?_range (by omega)]
  rfl
theorem wk_rngDn {lo hi : Int} {n : Nat} (hn : n = (lo - hi).toNat) : Wk K M' (Itc lo (-1) n) (rngDn lo hi) := by
  have hl : (rngDn lo hi).length = n := by simp [rngDn, hn]
  refine ⟨fun i H hi s => by rw [hl] at hi; exact hi, fun H s => by rw [hl]; exact Nat.le_refl _, fun i H x H' hi' s y B M0 M2 sl σ sm r => ?_⟩
  obtain ⟨rfl, rfl⟩ := y
  rw [hl] at hi'
  refine ⟨M2, .int (lo + i * -1), Same.refl _, r, ?_, .int _⟩
  rw [rngDn, List.getElem?_map, List.getElem?_range (by omega)]
  simp only [Option.map_some]
  congr 2
  omega
theorem enumL_get : ∀ {ds : List D} {k i : Nat} {d : D}, ds[i]? = some d → (enumL k ds)[i]? = some (.tuple [.int ((k + i : Nat) : Int), d])
  | [], _, _, _, h => by simp at h
  | d :: r, k, 0, _, h => by
    simp at h
    subst h
    rfl
  | d :: r, k, i + 1, e, h => by
    have := @enumL_get r (k + 1) i e (by simpa using h)
    show (enumL (k + 1) r)[i]? = _
    rw [this]
    have : k + 1 + i = k + (i + 1) := by omega
    rw [this]
theorem enumL_len : ∀ {ds : List D} {k : Nat}, (enumL k ds).length = ds.length
  | [], _ => rfl
  | d :: r, k => by
    show (enumL (k + 1) r).length + 1 = _
    rw [enumL_len]
    rfl
theorem new_pair {B M0 M2 : Hp} {sl : Sls} {σ : L2.St} {H : Hp} {T : Addr} {x y : V} {d e : D} (r : Rel K B M0 M2 sl σ H) (hT : H T = none) (hx : Hd K M2 x d) (hy : Hd K M2 y e) :
    ∃ M3, Same M2 M3 ∧ Rel K B M0 M3 sl σ (upd H T (.tup [x, y])) ∧ Hd K M3 (.ref T) (.tuple [d, e]) := by
  obtain ⟨M3, s3, rs⟩ := (res_tup (K := K) (M := M2) (f := false) hT (.cons hx (.cons hy .nil))).res r
  obtain ⟨M4, s4, r4, h4⟩ := rs.shared
  exact ⟨M4, s3.trans s4, r4, h4⟩
theorem wk_enumL {a : Addr} {vs : List V} {ds : List D} (h : M' a = some (.lst vs)) (hA : HdA K M' vs ds) : Wk K M' (Ite K a) (enumL 0 ds) := by
  have hl : (enumL 0 ds).length = vs.length := by rw [enumL_len, hA.length]
  refine ⟨fun i H hi s => ?_, fun H s => ⟨vs, SqL.of (s _ _ h), by rw [hl]; exact Nat.le_refl _⟩, fun i H x H' hi s y B M0 M2 sl σ sm r => ?_⟩
  · rw [hl] at hi
    exact ⟨vs, vs[i], SqL.of (s _ _ h), List.getElem?_eq_getElem hi⟩
  · obtain ⟨T, w, rfl, hT, rfl, y⟩ := y
    obtain ⟨d, h1, h2⟩ := hA.getV (y vs (SqL.of (s _ _ h)))
    obtain ⟨M3, s3, r3, h3⟩ := new_pair r hT (.int (i : Nat)) (Hd.mono sm _ _ h2)
    refine ⟨M3, _, s3, r3, ?_, h3⟩
    rw [enumL_get h1, Nat.zero_add]
theorem zipL_get : ∀ {ds es : List D} {i : Nat} {d e : D}, ds[i]? = some d → es[i]? = some e → (zipL ds es)[i]? = some (.tuple [d, e])
  | [], _, _, _, _, h, _ => by simp at h
  | _ :: _, [], _, _, _, _, h => by simp at h
  | d :: r, e :: t, 0, _, _, h, g => by
    simp at h g
    subst h g
    rfl
  | d :: r, e :: t, i + 1, _, _, h, g => by
    show (zipL r t)[i]? = _
    exact zipL_get (by simpa using h) (by simpa using g)
theorem zipL_len : ∀ {ds es : List D}, (zipL ds es).length = min ds.length es.length
  | [], es => by simp [zipL]
  | d :: r, [] => by simp [zipL]
  | d :: r, e :: t => by
    show (zipL r t).length + 1 = _
    rw [zipL_len]
    simp only [List.length_cons]
    omega
theorem wk_zipL {a b : Addr} {vs ws : List V} {ds es : List D} (h : M' a = some (.lst vs)) (hA : HdA K M' vs ds) (h' : M' b = some (.lst ws)) (hB : HdA K M' ws es) : Wk K M' (Itz K a b) (zipL ds es) := by
  have hl : (zipL ds es).length = min vs.length ws.length := by rw [zipL_len, hA.length, hB.length]
  refine ⟨fun i H hi s => ?_, fun H s => ⟨vs, ws, SqL.of (s _ _ h), SqL.of (s _ _ h'), by rw [hl]; omega⟩, fun i H x H' hi s y B M0 M2 sl σ sm r => ?_⟩
  · rw [hl] at hi
    exact ⟨vs, ws, vs[i]'(by omega), ws[i]'(by omega), SqL.of (s _ _ h), SqL.of (s _ _ h'), List.getElem?_eq_getElem (by omega), List.getElem?_eq_getElem (by omega)⟩
  · obtain ⟨T, w, u, rfl, hT, rfl, y1, y2⟩ := y
    obtain ⟨d, h1, h2⟩ := hA.getV (y1 vs (SqL.of (s _ _ h)))
    obtain ⟨e, g1, g2⟩ := hB.getV (y2 ws (SqL.of (s _ _ h')))
    obtain ⟨M3, s3, r3, h3⟩ := new_pair r hT (Hd.mono sm _ _ h2) (Hd.mono sm _ _ g2)
    exact ⟨M3, _, s3, r3, zipL_get h1 g1, h3⟩
theorem wk_zipT {a b : Addr} {vs ws : List V} {ds es : List D} (h : SqT K M' a vs) (hA : HdA K M' vs ds) (h' : SqT K M' b ws) (hB : HdA K M' ws es) : Wk K M' (RZ.ItzT K a b) (zipL ds es) := by
  have up : ∀ {H : Hp} {a : Addr} {vs : List V}, SqT K M' a vs → Same M' H → SqT K H a vs := fun {H a vs} h s => sqT_mono (fun o z _ => s _ o z) h
  have hl : (zipL ds es).length = min vs.length ws.length := by rw [zipL_len, hA.length, hB.length]
  refine ⟨fun i H hi s => ?_, fun H s => ⟨vs, ws, up h s, up h' s, by rw [hl]; omega⟩, fun i H x H' hi s y B M0 M2 sl σ sm r => ?_⟩
  · rw [hl] at hi
    exact ⟨vs, ws, vs[i]'(by omega), ws[i]'(by omega), up h s, up h' s, List.getElem?_eq_getElem (by omega), List.getElem?_eq_getElem (by omega)⟩
  · obtain ⟨T, w, u, rfl, hT, rfl, y1, y2⟩ := y
    obtain ⟨d, h1, h2⟩ := hA.getV (y1 vs (up h s))
    obtain ⟨e, g1, g2⟩ := hB.getV (y2 ws (up h' s))
    obtain ⟨M3, s3, r3, h3⟩ := new_pair r hT (Hd.mono sm _ _ h2) (Hd.mono sm _ _ g2)
    exact ⟨M3, _, s3, r3, zipL_get h1 g1, h3⟩
end
end L3

set_option Elab.async false
set_option linter.all false
set_option maxRecDepth 100000
set_option maxHeartbeats 4000000
/-! comprehensions; enumerate(tuple) -/
namespace L3
open PySem PySem.Spec PyProof.Rows L2

section
variable {K : PySem.W.Frag} {B M0 M H : Hp} {σ : L2.St}
theorem wipeS_get : ∀ {vs : List Nat} {s : Sls} {i : Nat} {x : Sl}, (wipeS s vs)[i]? = some x → (i ∈ vs ∧ x = .un) ∨ (i ∉ vs ∧ s[i]? = some x)
  | [], s, i, x, h => Or.inr ⟨by simp, h⟩
  | v :: vs, s, i, x, h => by
    rcases get_set h with ⟨rfl, rfl⟩ | ⟨ne, h⟩
    · exact Or.inl ⟨by simp, rfl⟩
    · rcases wipeS_get h with ⟨h1, h2⟩ | ⟨h1, h2⟩
      · exact Or.inl ⟨by simp [h1], h2⟩
      · exact Or.inr ⟨by simp [ne, h1], h2⟩
theorem wipeS_out : ∀ {vs : List Nat} {s : Sls} {i : Nat}, i ∉ vs → (wipeS s vs)[i]? = s[i]?
  | [], _, _, _ => rfl
  | v :: vs, s, i, h => by
    simp only [List.mem_cons, not_or] at h
    show ((wipeS s vs).set v .un)[i]? = _
    rw [List.getElem?_set_ne (Ne.symm h.1), wipeS_out h.2]
theorem wipeS_len : ∀ {vs : List Nat} {s : Sls}, (wipeS s vs).length = s.length
  | [], _ => rfl
  | v :: vs, s => by
    show ((wipeS s vs).set v .un).length = _
    rw [List.length_set, wipeS_len]
theorem backS_len : ∀ {vs : List Nat} {s0 s : Sls}, (backS s0 s vs).length = s.length
  | [], _, _ => rfl
  | v :: vs, s0, s => by
    show ((backS s0 s vs).set v _).length = _
    rw [List.length_set, backS_len]
theorem backS_get : ∀ {vs : List Nat} {s0 s : Sls} {i : Nat} {x : Sl}, s0.length = s.length → (backS s0 s vs)[i]? = some x → (i ∈ vs ∧ s0[i]? = some x) ∨ (i ∉ vs ∧ s[i]? = some x)
  | [], s0, s, i, x, _, h => Or.inr ⟨by simp, h⟩
  | v :: vs, s0, s, i, x, hl, h => by
    rcases get_set h with ⟨rfl, hx⟩ | ⟨ne, h'⟩
    · have : i < s0.length := by
        have := (List.getElem?_eq_some_iff.mp h).1
        rw [backS_len] at this
        omega
      refine Or.inl ⟨by simp, ?_⟩
      rw [hx, List.getElem?_eq_getElem this]
      rfl
    · rcases backS_get hl h' with ⟨h1, h2⟩ | ⟨h1, h2⟩
      · exact Or.inl ⟨by simp [h1], h2⟩
      · exact Or.inr ⟨by simp [ne, h1], h2⟩
theorem wipe_out2 {σ : L2.St} {i : Nat} : ∀ {vs : List Nat}, i ∉ vs → (wipe σ vs)[i]? = σ[i]?
  | [], _ => rfl
  | v :: vs, h => by
    simp only [List.mem_cons, not_or] at h
    show ((wipe σ vs).set v none)[i]? = _
    rw [List.getElem?_set_ne (Ne.symm h.1), wipe_out2 h.2]
theorem wipe_in {σ : L2.St} {i : Nat} (hi : i < σ.length) : ∀ {vs : List Nat}, i ∈ vs → (wipe σ vs)[i]? = some none
  | [], h => by simp at h
  | v :: vs, h => by
    show ((wipe σ vs).set v none)[i]? = _
    by_cases e : v = i
    · subst e
      rw [List.getElem?_set_self (by rw [wipe_length]; exact hi)]
    · rw [List.getElem?_set_ne e]
      exact wipe_in hi ((List.mem_cons.mp h).resolve_left (fun z => e z.symm))
theorem wipe_same {σ τ : L2.St} {vs : List Nat} (hl : σ.length = τ.length) (h : ∀ i, i ∉ vs → σ[i]? = τ[i]?) : wipe σ vs = wipe τ vs := by
  apply List.ext_getElem?
  intro i
  by_cases hi : i ∈ vs
  · by_cases hb : i < σ.length
    · rw [wipe_in hb hi, wipe_in (by omega) hi]
    · rw [List.getElem?_eq_none (by rw [wipe_length]; omega), List.getElem?_eq_none (by rw [wipe_length]; omega)]
  · rw [wipe_out2 hi, wipe_out2 hi, h i hi]
theorem Rel.wipe {s : Sls} (r : Rel K B M0 M s σ H) : ∀ vs : List Nat, Rel K B M0 M (wipeS s vs) (L2.wipe σ vs) H
  | [] => r
  | v :: vs => (r.wipe vs).drop v none
theorem Rel.unwipe {B' M' H' : Hp} {s0 s : Sls} {vs : List Nat} (r0 : Rel K B M0 M' s0 σ H') (no : ∀ v ∈ vs, isOw s0 v = false) (r1 : Rel K B' M0 M (wipeS s vs) (L2.wipe σ vs) H) (sm : Same M' M) :
    Rel K B' M0 M (backS s0 s vs) σ H := by
  have hl : s0.length = s.length := by
    have h1 := r0.len
    have h2 := r1.len
    rw [wipeS_len, wipe_length] at h2
    omega
  have get : ∀ {i : Nat} {x : Sl}, (backS s0 s vs)[i]? = some x → (i ∈ vs ∧ s0[i]? = some x) ∨ (i ∉ vs ∧ (wipeS s vs)[i]? = some x ∧ (L2.wipe σ vs)[i]? = σ[i]?) := fun {i x} h => by
    rcases backS_get hl h with ⟨h1, h2⟩ | ⟨h1, h2⟩
    · exact Or.inl ⟨h1, h2⟩
    · exact Or.inr ⟨h1, by rw [wipeS_out h1]; exact h2, wipe_out2 h1⟩
  have noow : ∀ {i : Nat} {o : Ob}, i ∈ vs → s0[i]? ≠ some (.ow o) := fun {i o} h1 h2 => by
    have := no i h1
    simp [isOw, h2] at this
  refine ⟨by rw [backS_len, ← hl, r0.len], r1.exB, r1.exM, r1.m0, r1.mb, fun i x e => ?_, fun i j oi oj a e1 e2 e3 e4 => ?_⟩
  · rcases get e with ⟨h1, h2⟩ | ⟨h1, h2, h3⟩
    · have q := r0.slot i x h2
      cases x with
      | un => trivial
      | sh d =>
        obtain ⟨v, q1, q2⟩ := q
        exact ⟨v, q1, Hd.mono sm _ _ q2⟩
      | sc ns => exact q
      | ow o => exact absurd h2 (noow h1)
    · have q := r1.slot i x h2
      rw [h3] at q
      exact q
  · rcases get e1 with ⟨h1, h2⟩ | ⟨h1, h2, h3⟩
    · exact absurd h2 (noow h1)
    rcases get e2 with ⟨g1, g2⟩ | ⟨g1, g2, g3⟩
    · exact absurd g2 (noow g1)
    exact r1.inj i j oi oj a h2 g2 (by rw [h3]; exact e3) (by rw [g3]; exact e4)
theorem Rel.rebase {D0 : Addr} {o o' : HO} {s : Sls} (r : Rel K (upd B D0 o) M0 M s σ H) (hm : M D0 = none) : Rel K (upd B D0 o') M0 M s σ (upd H D0 o') := by
  refine ⟨r.len, fun a x e => ?_, fun a x e => ?_, r.m0, fun a x e => ?_, fun i x e => ?_, r.inj⟩
  · by_cases ha : a = D0
    · subst ha
      rw [upd_same] at e ⊢
      exact e
    · rw [upd_ne ha] at e ⊢
      exact r.exB a x (by rw [upd_ne ha]; exact e)
  · have ha : a ≠ D0 := ne_of_none e hm
    rw [upd_ne ha]
    exact r.exM a x e
  · have ha : a ≠ D0 := ne_of_none e hm
    have := r.mb a x e
    rw [upd_ne ha] at this ⊢
    exact this
  · have q := r.slot i x e
    cases x with
    | un => trivial
    | sh d => exact q
    | sc ns => exact q
    | ow ob =>
      obtain ⟨b, h, q1, q2, q3, q4, q5⟩ := q
      have hb : b ≠ D0 := by
        rintro rfl
        rw [upd_same] at q4
        cases q4
      refine ⟨b, h, q1, ?_, q3, ?_, q5⟩
      · rw [upd_ne hb]
        exact q2
      · rw [upd_ne hb] at q4 ⊢
        exact q4
theorem lcL_len {turn : D → Sls → R (Option D)} : ∀ {l acc ys : List D} {s s' : Sls}, lcL turn l acc s = .ok ys s' → acc.length ≤ ys.length
  | [], acc, ys, s, s', h => by cases h; exact Nat.le_refl _
  | d :: r, acc, ys, s, s', h => by
    obtain ⟨o, s1, e1, e2⟩ := bnd_of h
    have := lcL_len e2
    cases o with
    | none => exact this
    | some y =>
      simp only [List.length_append, List.length_singleton] at this
      omega

omit K B M0 M H σ in
mutual
theorem asgTg_length : ∀ {t : Tg} {d : D} {s s' : Sls}, asgTg t d s = some s' → s'.length = s.length
  | .nm i, d, s, s', h => by
    cases h
    simp
  | .tp ts, d, s, s', h => by
    cases d <;> simp only [asgTg] at h <;> first | cases h | exact asgTgs_length h
theorem asgTgs_length : ∀ {t : Tgs} {d : List D} {s s' : Sls}, asgTgs t d s = some s' → s'.length = s.length
  | .nil, [], s, s', h => by
    cases h
    rfl
  | .nil, _ :: _, s, s', h => by simp [asgTgs] at h
  | .cons _ _, [], s, s', h => by simp [asgTgs] at h
  | .cons t r, d :: ds, s, s', h => by
    simp only [asgTgs] at h
    split at h
    · rename_i s1 h1
      rw [asgTgs_length h, asgTg_length h1]
    · cases h
end
/-- the reading of a comprehension -/
theorem T_lc {gi : Sls → R (List D)} {t : Tg} {gc : Sls → R Bool} {ge : Sls → R D} {own : List Nat} (ht : ∀ j ∈ t.sl, j ∈ own) {Q : VK}
    (h : T K true (fun s => (gi s).bnd fun items s0 => if own.any (isOw s0) then .bad else
      (lcL (fun d s => match asgTg t d (wipeS s own) with
        | none => .bad
        | some s1 => (gc s1).bnd fun b s2 => if b then (ge s2).bnd fun y s3 => .ok (some y) s3 else .ok none s2) items [] s0).bnd
      fun ys s1 => if fitN ys.length then .ok (.list ys) (backS s0 s1 own) else .bad) σ H Q) :
    tLc (Ti K gi) (Tgt K t) (Tt K gc) (T K false ge) own σ H Q := by
  obtain ⟨B, M0, M, sl, d', sl', r, e, q⟩ := h
  obtain ⟨items, s0, e1, e2⟩ := bnd_of e
  refine ⟨B, M0, M, sl, items, s0, r, e1, fun M1 J H1 sm1 r1 wk D hD => ?_⟩
  split at e2
  · cases e2
  rename_i hno
  have no : ∀ v ∈ own, isOw s0 v = false := fun v hv => by
    cases hb : isOw s0 v with
    | false => rfl
    | true => exact absurd (List.any_eq_true.mpr ⟨v, hv, hb⟩) hno
  obtain ⟨ys, s9, e3, e4⟩ := bnd_of e2
  split at e4
  · rename_i hfit
    cases e4
    have hyl := fit_le hfit
    have hB : B D = none := none_back r1.exB hD
    have hM1 : M1 D = none := none_back r1.exM hD
    have mD : ∀ {M2 : Hp} {s : Sls} {τ : L2.St} {H2 : Hp} {vs : List V}, Rel K (upd B D (.lst vs)) M0 M2 s τ H2 → M2 D = none := fun {M2 s τ H2 vs} rr => by
      cases hm : M2 D with
      | none => rfl
      | some u =>
        rcases rr.mb D u hm with z | z
        · rw [upd_same] at z
          cases z
        · rw [none_back r1.m0 hM1] at z
          cases z
    refine ⟨fun i m H2 => m = items.length - i ∧ i ≤ items.length ∧ ∃ acc vs M2 s, Same M1 M2 ∧ Rel K (upd B D (.lst vs)) M0 M2 (wipeS s own) (L2.wipe σ own) H2 ∧ HdA K M2 vs acc ∧
        lcL _ (items.drop i) acc s = .ok ys s9, ⟨items.length, by simp, Nat.zero_le _, [], [], M1, s0, Same.refl _, (r1.keep hD).wipe own, .nil, e3⟩, ?_⟩
    rintro i m H2 ⟨rfl, hi, acc, vs, M2, s, sm2, r2, hA, e5⟩
    have sH : Same M1 H2 := sm2.trans r2.exM
    by_cases hlt : i < items.length
    · refine Or.inr ⟨wk.1 i H2 hlt sH, fun H3 => ∃ acc vs M2 s, Same M1 M2 ∧ Rel K (upd B D (.lst vs)) M0 M2 (wipeS s own) (L2.wipe σ own) H3 ∧ HdA K M2 vs acc ∧
          lcL _ (items.drop (i + 1)) acc s = .ok ys s9, fun H3 z => ⟨items.length - (i + 1), by omega, rfl, hlt, z⟩, fun x H3 hy => ?_⟩
      obtain ⟨M3, d, sm3, r3, hd, hx⟩ := wk.2.2 i H2 x H3 hlt sH hy sm2 r2
      rw [List.drop_eq_getElem_cons hlt] at e5
      have ed : items[i] = d := by
        rw [List.getElem?_eq_getElem hlt] at hd
        exact Option.some.inj hd
      rw [ed] at e5
      obtain ⟨o, s4, e6, e7⟩ := bnd_of e5
      simp only at e6
      split at e6
      · cases e6
      rename_i s1 has
      obtain ⟨b, s2, e8, e9⟩ := bnd_of e6
      have hA3 := HdA.mono sm3 _ _ hA
      refine ⟨upd B D (.lst vs), M0, M3, wipeS s own, d, s1, r3, hx, has, fun σ2 q2 kp => ?_⟩
      have ew : L2.wipe σ2 own = L2.wipe σ own := by
        refine wipe_same ?_ (fun j hj => ?_)
        · have h1 := q2.len
          have h2 := r3.len
          have h3 : s1.length = (wipeS s own).length := asgTg_length has
          rw [wipe_length] at h2
          omega
        · rw [kp j (fun z => hj (ht j z)), wipe_out2 hj]
      refine ⟨ew, upd B D (.lst vs), M0, M3, s1, b, s2, q2, e8, fun M4 H4 sm4 r4 => ?_⟩
      cases b with
      | false =>
        rw [if_neg (by decide)] at e9 ⊢
        cases e9
        refine ⟨acc, vs, M4, _, (sm2.trans sm3).trans sm4, ?_, HdA.mono sm4 _ _ hA3, e7⟩
        rw [← ew]
        exact r4.wipe own
      | true =>
        rw [if_pos rfl] at e9 ⊢
        obtain ⟨y, s3, e10, e11⟩ := bnd_of e9
        cases e11
        refine ⟨upd B D (.lst vs), M0, M4, s2, y, _, r4, e10, fun M5 u H5 sm5 rs5 => ?_⟩
        obtain ⟨M6, sm6, r6, h6⟩ := rs5.shared
        have hl := lcL_len e7
        simp only [List.length_append, List.length_singleton] at hl
        refine ⟨vs, r6.exB _ _ upd_same, ?_, acc ++ [y], vs ++ [u], M6, _, (((sm2.trans sm3).trans sm4).trans sm5).trans sm6, ?_, (HdA.mono ((sm4.trans sm5).trans sm6) _ _ hA3).append (.cons h6 .nil), e7⟩
        · rw [hA.length]
          omega
        · rw [← ew]
          exact (r6.rebase (mD r6)).wipe own
    · have ei : i = items.length := by omega
      subst ei
      rw [List.drop_length] at e5
      cases e5
      refine Or.inl ⟨wk.2.1 H2 sH, q M2 _ H2 (sm1.trans sm2) (Or.inr ⟨D, vs, ys, rfl, rfl, ?_, hB, mD r2, hA⟩)⟩
      exact r1.unwipe no r2 sm2
  · cases e4
end
end L3

set_option Elab.async false
set_option linter.all false
set_option maxRecDepth 100000
set_option maxHeartbeats 4000000
/-! enumerate of a tuple -/
namespace L3
open PySem PySem.Spec PyProof.Rows L2
theorem newE_begins {v : Value} {o : Obj} {Hh : Heap → Prop} (Bg : Begins v o Hh) : Meets (Builtin.«enumerate.__new__» ⟨[.type "enumerate", v], []⟩) (fun _ Rq sh => Hh sh.heap ∧
      Rq (.ok (.ret (.ref (sh.heap.push o).objs.size))) { sh with heap := (sh.heap.push o).push { cls := .type "enumerate", data := .fields #[.none, .bool false, .ref sh.heap.objs.size, rawInt 0, .none, .none] } }) :=
  .of_wp fun pr wd Ar Rq sh hyp => by
    obtain ⟨hp0, gn0, dr0, tk0, os0⟩ := sh
    obtain ⟨hyp1, hyp⟩ := hyp
    have hsub := sub_enumerate
    have beg : ∀ {A1 : Around} {E1 : Value → Shared → Prop} {Q1 : Value → Shared → Prop}, Q1 (.ref hp0.objs.size) ⟨hp0.push o, gn0, dr0, tk0, os0⟩ → wpAny (model pr wd) A1 (pyIter v) Q1 E1 ⟨hp0, gn0, dr0, tk0, os0⟩ :=
      fun z => Bg.iter pr wd _ _ ⟨hp0, gn0, dr0, tk0, os0⟩ _ hyp1 z
    wp_walk using beg
    refine wpAny_stack_any fun stk => wpAny_pure ?_
    split
    · rename_i cl0 _ _ _ _ _
      cases (cl0 == Value.type "enumerate") <;> (wp_walk using beg; exact ⟨_, rfl, hyp⟩)
    · wp_walk using beg
      exact ⟨_, rfl, hyp⟩
section
variable {prog : Program} {w : World} {A : Around} {E : Value → Shared → Prop} {s : Shared}
theorem callE_begins {v : Value} {o : Obj} {Hh : Heap → Prop} {Q : Value → Shared → Prop} (Bg : Begins v o Hh) (g1 : Hh s.heap)
    (hq : ∀ hp, IsEnum hp (s.heap.objs.size + 1) s.heap.objs.size 0 .none → hp.get? s.heap.objs.size = some o → (∀ b u, s.heap.get? b = some u → hp.get? b = some u) → Q (.ref (s.heap.objs.size + 1)) { s with heap := hp }) :
    wpAny (model prog w) A (call (.type "enumerate") [v]) Q E s := by
  refine callType_new F.called_enumerate (by decide) (F.typeCall_enumerate_1 _) (F.newCall_enumerate_1 _) (fun ob => F.args_object_init_2 ob _) F.entry_enumerate_new (newE_begins Bg) ⟨g1, ?_⟩
  have sz : (s.heap.push o).objs.size = s.heap.objs.size + 1 := Heap.size_push ..
  show _ ∧ _
  rw [sz]
  have en : IsEnum ((s.heap.push o).push { cls := .type "enumerate", data := .fields #[.none, .bool false, .ref s.heap.objs.size, rawInt 0, .none, .none] }) (s.heap.objs.size + 1) s.heap.objs.size 0 .none := by
    have z := Heap.get?_push_size (s.heap.push o) (o := { cls := .type "enumerate", data := .fields #[.none, .bool false, .ref s.heap.objs.size, rawInt 0, .none, .none] }) rfl
    rw [sz] at z
    exact z
  exact ⟨⟨_, en, rfl⟩, hq _ en (Heap.get?_push_of_some _ (Heap.get?_push_size _ Bg.free)) fun b u z => Heap.get?_push_of_some _ (Heap.get?_push_of_some _ z)⟩
end
/-- an iterator at its end -/
theorem DrawsEnd {prog : Program} {w : World} {A : Around} (hh : A.handled = none) (it t : Addr) (n : Nat) (items : Array Value) (hn : items.size ≤ n) :
    Draws prog w A it [it, t] n (fun _ _ => False) (fun i h => h.IsTupleIter it t n ∧ h.IsTuple t items ∧ i = n) where
  live := fun _ _ z => z.1.elim fun o q => ⟨o, q.1⟩
  frame := fun _ _ _ z hk => ⟨z.1.at fun o q => hk it (by simp) o q, z.2.1.at fun o q => hk t (by simp) o q, z.2.2⟩
  item := fun i s Q E hi z hQ => absurd z.2.2 (Nat.ne_of_lt hi)
  done := fun s Q E z hE => wpAny_nextOf_tuple_end hh z.1 z.2.1 (Array.getElem?_eq_none hn) hE
/-- the tuple at a, each item in a new pair -/
def IteT (K : PySem.W.Frag) (a : Addr) : L2.It :=
  ⟨fun i H => ∃ (ws : List V) (x : V), SqT K H a ws ∧ ws[i]? = some x, fun i H v H' => ∃ N x, v = .ref N ∧ H N = none ∧ H' = upd H N (.tup [.int (i : Nat), x]) ∧ ∀ ws, SqT K H a ws → ws[i]? = some x, fun i H => ∃ ws : List V, SqT K H a ws ∧ ws.length ≤ i⟩
theorem turn_enumT {P : Program} {w : World} {K : PySem.W.Frag} {elts : List Expr} {kk : Nat} {tpos : Pos} (a e it : Addr) :
    Turn P w K (.Tuple elts kk tpos) (IteT K a) [e, it] e (fun i h => (∃ old, IsEnum h e it ((i : Nat) : Int) old) ∧ h.IsTupleIter it a i ∧ e ≠ it) where
  mem := by simp
  obj := fun i h st b hb => by
    obtain ⟨⟨old, he⟩, ⟨o, ho, hc, hd⟩, _⟩ := st
    rcases (show b = e ∨ b = it by simpa using hb) with z | z
    · exact ⟨_, z ▸ he, fun v q => by cases q⟩
    · exact ⟨o, z ▸ ho, fun v q => by rw [hd] at q; cases q⟩
  keep := fun i h h' st k => ⟨st.1.elim fun old he => ⟨old, k e (by simp) _ he⟩, st.2.1.at fun o q => k it (by simp) o q, st.2.2⟩
  item := by
    intro X hP hw hK hc i pins s σ H E I hf st hg
    subst hP hw hK
    obtain ⟨⟨old, he⟩, hit, hne⟩ := st
    obtain ⟨ws, x, hq, hx⟩ := hg
    obtain ⟨its, rv, p, hz⟩ := I.tuple hq
    obtain ⟨u, hu, ru⟩ := rv.get hx
    have pt : s.heap.IsTuple a its.toArray := p
    have ne1 : a ≠ it := by
      rintro rfl
      obtain ⟨o1, q1, q2, _⟩ := hit
      obtain ⟨o2, q3, q4, _⟩ := pt
      rw [q1] at q3
      cases q3
      rw [q2] at q4
      exact absurd q4 (by decide)
    have ne2 : e ≠ a := by
      rintro rfl
      obtain ⟨o2, q3, q4, _⟩ := pt
      have he' : s.heap.get? e = some _ := he
      rw [he'] at q3
      cases q3
      exact absurd (show Value.type "enumerate" = Value.type "tuple" from q4) (by decide)
    have el : e < s.heap.objs.size := Heap.lt_size he
    have il : it < s.heap.objs.size := hit.elim fun o q => Heap.lt_size q.1
    have Dr := Draws.tuple (prog := X.prog) (w := X.w) (A := X.A.in1) (I.ok.hd hc) it a ne1 its.toArray
    have hlt : i < its.toArray.size := by
      have := (List.getElem?_eq_some_iff.mp hu).1
      simpa using this
    refine wpAny_pyNext_enum_itemC Dr he ⟨hit, pt⟩ hlt hne (by simp [hne, ne2]) fun x' h1 tk' hx' ho hst hT hsz hk => ?_
    have ex : x' = u := by
      have z : its.toArray[i]? = some x' := hx'
      rw [List.getElem?_toArray, hu] at z
      exact (Option.some.inj z).symm
    subst ex
    refine ⟨_, rfl, wpAny_letOwnedTupleGo_enum (s := { s with heap := h1, toks := tk' + 1 }) ho fun h2 he2 sb => ?_⟩
    have hT2 : h2.get? s.heap.objs.size = some { cls := .type "tuple", data := .seq #[.int i tk', x'] } := (sb.2 _ (Nat.ne_of_gt el)).trans hT
    have nw : ObjOk X.prog X.w (upd H s.heap.objs.size (.tup [.int (i : Nat), x])) h2 s.heap.objs.size (.tup [.int (i : Nat), x]) :=
      ⟨by show 2 ≤ sizeLine; decide, [.int i tk', x'], .cons ⟨_, rfl⟩ (.cons ru .nil), ⟨_, hT2, rfl, _, rfl⟩⟩
    have I1 : Inv X pins σ (upd H s.heap.objs.size (.tup [.int (i : Nat), x])) { s with heap := h2, toks := tk' + 1 } :=
      I.turnedNew (ch := [e, it]) (fun b ob hb q => (sb.2 b (fun z => hb (by rw [z]; simp))).trans (hk b ob (fun z => hb (by rw [z]; simp)) (fun z => hb (by rw [z]; simp)) q)) hf (Nat.le_refl _) nw
    refine ⟨.ref s.heap.objs.size, _, I1, rfl, ⟨_, x, rfl, I.hok.fresh (Nat.le_refl _), rfl, fun ys hy => by rw [I.tuple_inj hy hq]; exact hx⟩, ⟨⟨x', ?_⟩, hst.1.at fun o q => (sb.2 it (Ne.symm hne)).trans q, hne⟩, fun b hb => ?_⟩
    · rw [show ((i + 1 : Nat) : Int) = (i : Int) + 1 by omega]
      exact he2
    · have lt : b < s.heap.objs.size := by
        rcases (show b = e ∨ b = it by simpa using hb) with z | z
        · rw [z]; exact el
        · rw [z]; exact il
      rw [upd_ne (Nat.ne_of_lt lt)]
      exact (hf b hb).1
  done := by
    intro X hP hw hK hc i pins s σ H E I hf st hg
    subst hP hw hK
    obtain ⟨⟨old, he⟩, hit, hne⟩ := st
    obtain ⟨ws, hq, hx⟩ := hg
    obtain ⟨its, rv, p, hz⟩ := I.tuple hq
    have pt : s.heap.IsTuple a its.toArray := p
    have ne1 : a ≠ it := by
      rintro rfl
      obtain ⟨o1, q1, q2, _⟩ := hit
      obtain ⟨o2, q3, q4, _⟩ := pt
      rw [q1] at q3
      cases q3
      rw [q2] at q4
      exact absurd q4 (by decide)
    have Dr := DrawsEnd (prog := X.prog) (w := X.w) (A := X.A.in1) (I.ok.hd hc) it a i its.toArray (by have := rv.length; simp; omega)
    obtain ⟨f0, f1, f2, f3, f4, f5⟩ := hf it (by simp)
    exact wpAny_pyNext_enum_endD Dr he ⟨hit, pt, rfl⟩ fun h' eb => ⟨rfl, I.turned (t' := s.toks) (fun b o hb q => eb b o hb q) f0 f1 f3 f4 f5⟩
  self := fun A i s Q E st h => st.1.elim fun _ he => wpAny_pyIter_enum he h
def iEnumT (K : PySem.W.Frag) (ta : TA) : TI := fun σ H R => ta σ H fun vs H1 => ∃ a ws, vs = [.ref a] ∧ SqT K H1 a ws ∧ R (IteT K a) H1
theorem pi_enumT {X : Cx} {e : Expr} {ta : TA} {p pos tpos : Pos} {elts : List Expr} {kk : Nat} (hg : Gl X "enumerate") (hm : X.mg "enumerate" = none) (ha : PA X [e] ta) (hs : starEach [e] X.env = [(false, eval e X.env)]) :
    PI X (.Tuple elts kk tpos) (.Call (.Name "enumerate" p) [e] [] pos) (iEnumT X.K ta) := by
  refine ⟨fun pins s σ H R I h => Call_ (ld_blt I hg hm boot_enumerate (PyProof.Rows.callWith_type1 (thn (ha.run pos pins s σ H _ I h) fun us s1 ⟨vs, H1, I1, r1, q1⟩ => ?_) hs rfl))⟩
  obtain ⟨a, ws, rfl, hq, q⟩ := q1
  obtain ⟨u, rfl, ru⟩ := r1.one
  cases ru
  obtain ⟨its, rv, pl, hz⟩ := I1.tuple hq
  refine callE_begins (begins_tuple a its.toArray) pl fun hp he hit hk => wpAny_pyIter_enum he ?_
  have I2 : Inv X pins σ H1 { s1 with heap := hp } := I1.kept (t' := s1.toks) hk
  refine ⟨s1.heap.objs.size + 1, [s1.heap.objs.size + 1, s1.heap.objs.size], _, _, H1, rfl, I2, turn_enumT a (s1.heap.objs.size + 1) s1.heap.objs.size, ⟨⟨.none, he⟩, ⟨_, hit, rfl, rfl⟩, Nat.succ_ne_self _⟩, fun b hb => ?_, q⟩
  have hle : s1.heap.objs.size ≤ b := by
    rcases (show b = s1.heap.objs.size + 1 ∨ b = s1.heap.objs.size by simpa using hb) with z | z
    · rw [z]; exact Nat.le_add_right _ _
    · rw [z]; exact Nat.le_refl _
  exact I1.fpOk hle (I1.hok.fresh hle)
theorem wk_enumT {K : PySem.W.Frag} {M' : Hp} {a : Addr} {vs : List V} {ds : List D} (h : SqT K M' a vs) (hA : HdA K M' vs ds) : Wk K M' (IteT K a) (enumL 0 ds) := by
  have up : ∀ {H : Hp}, Same M' H → SqT K H a vs := fun {H} s => sqT_mono (fun o z _ => s _ o z) h
  have hl : (enumL 0 ds).length = vs.length := by rw [enumL_len, hA.length]
  refine ⟨fun i H hi s => ?_, fun H s => ⟨vs, up s, by rw [hl]; exact Nat.le_refl _⟩, fun i H x H' hi s y B M0 M2 sl σ sm r => ?_⟩
  · rw [hl] at hi
    exact ⟨vs, vs[i], up s, List.getElem?_eq_getElem hi⟩
  · obtain ⟨N, w, rfl, hN, rfl, y⟩ := y
    obtain ⟨d, h1, h2⟩ := hA.getV (y vs (up s))
    obtain ⟨M3, s3, r3, h3⟩ := new_pair r hN (.int (i : Nat)) (Hd.mono sm _ _ h2)
    refine ⟨M3, _, s3, r3, ?_, h3⟩
    rw [enumL_get h1, Nat.zero_add]
end L3

set_option Elab.async false
set_option linter.all false
set_option maxRecDepth 100000
set_option maxHeartbeats 4000000
/-! expressions are sound: the whole term -/
namespace L3
open PySem PySem.Spec PyProof.Rows L2

def plainT : Expr → Bool
  | .BoolOp .. => false
  | .IfExp .. => false
  | .Compare .. => false
  | .UnaryOp .Not _ _ => false
  | _ => true
theorem plain_test {a : Expr} (h : plainT a = true) (env : Env) (whole : Sem Value) : isTrue a env whole = (do let v ← whole; standAt a.pos; holding [v] (truthy v)) := by
  cases a with
  | UnaryOp op x p => cases op <;> first | rfl | cases h
  | _ => first | rfl | cases h

section
variable {X : Cx} {k : Nat} {tb : Nat → Option Def} {Φ : Nat → Sem1} {sc : Scope}
/-- the block of a comprehension is a context too -/
theorem Good.blk (G : Good X k tb Φ sc) {scope : Scope} {own : List (Str × Nat)} (ok : BlkOk X.N sc scope own) (hfree : ∀ x, sc.names.lookup x = some .cell → X.env.scope.names.lookup x = some .cell) (s : Shared) (H : Hp) (C : Addr) (cl : List (Str × Addr)) (fp : List Addr) :
    Good (X.blk s H scope (compEnvC scope cl C X.env) fp) k tb Φ scope := by
  have hs : (compEnvC scope cl C X.env).scope = relS scope X.env.scope := rfl
  refine ⟨G.calm, G.nd, G.room, G.gd, rfl, fun x h => ?_, fun x h => ⟨?_, ?_⟩, fun x h => ?_, fun x h => ?_, G.fns, G.csts, G.blt⟩
  · exact lookup_relS_keep (by intro z; cases z) h
  · exact lookup_relS_keep (by intro z; cases z) h
  · show (scope.names.lookup x == some NameKind.cell) = true
    rw [h]
    decide
  · have hm : (relS scope X.env.scope).names.lookup x ≠ none := by
      intro hn
      have key : ∀ {names : List (Str × NameKind)}, names.lookup x = some .free → (names.map fun (n, k) => if (k == NameKind.free && X.env.scope.kind == .function && X.env.scope.names.lookup n == some .cell) then (n, NameKind.cell) else (n, k)).lookup x ≠ none := by
        intro names
        induction names with
        | nil => intro h; cases h
        | cons y r ih =>
          intro h
          obtain ⟨n, k0⟩ := y
          rw [List.map_cons]
          simp only [List.lookup_cons] at h
          cases hx : x == n with
          | true =>
            dsimp only
            split <;> simp only [List.lookup_cons, hx] <;> intro z <;> cases z
          | false =>
            rw [hx] at h
            dsimp only
            split <;> simp only [List.lookup_cons, hx] <;> exact ih h
      exact key h hn
    cases e : (relS scope X.env.scope).names.lookup x with
    | none => exact absurd e hm
    | some q =>
      obtain ⟨k', e1, r⟩ := lookup_relS e
      rw [h] at e1
      cases e1
      rcases r with rfl | ⟨_, rfl⟩
      · exact Or.inr e
      · exact Or.inl e
  · exact lookup_relS_keep (by intro z; cases z) h

/-- what is shown of an expression -/
structure SE (X : Cx) (Φ : Nat → Sem1) (c : E) (e : Expr) : Prop where
  v : PE X e (T X.K (fr c) (ev Φ c))
  t : PT X e (Tt X.K fun s => tru (ev Φ c s))
  o : PE X e (Tp X.K fun s => opnd c (ev Φ c s) s)
  w : ∀ op l p, e = .BoolOp op l p → PW X e (Tt X.K fun s => tru (ev Φ c s))
theorem opnd_of {c : E} (h : ∀ i, c ≠ .pk i) (r : R D) (s : Sls) : opnd c r s = r.bnd fun d s => .ok (.inl d) s := by
  cases c <;> first | rfl | exact absurd rfl (h _)
theorem T.of_op {c : E} {f : Sls → R D} {b : Bool} (h : ∀ i, c ≠ .pk i) {σ : L2.St} {H : Hp} {Q : VK} (q : Tp X.K (fun s => opnd c (f s) s) σ H Q) : T X.K b f σ H Q := by
  refine T.op ?_
  obtain ⟨B, M0, M, sl, o, sl', r, e, z⟩ := q
  refine ⟨B, M0, M, sl, o, sl', r, ?_, z⟩
  have e' : opnd c (f sl) sl = .ok o sl' := e
  rw [opnd_of h] at e'
  exact e'
theorem SE.plain {c : E} {e : Expr} (h : PE X e (T X.K (fr c) (ev Φ c))) (hc : ∀ i, c ≠ .pk i) (hp : plainT e = true) : SE X Φ c e := by
  refine ⟨h, ?_, pe_imp h fun σ H Q q => T.of_op hc q, ?_⟩
  · exact pt_imp (pt_truth (pe_imp h fun σ H Q q => T.weak q) (fun w => plain_test hp _ w)) fun σ H Q q => Tt_tru q
  · rintro op l p rfl
    cases hp
theorem SE.test {c : E} {e : Expr} (h : PE X e (T X.K (fr c) (ev Φ c))) (hc : ∀ i, c ≠ .pk i) (t : PT X e (Tt X.K fun s => tru (ev Φ c s))) (hp : ∀ op l p, e ≠ .BoolOp op l p) : SE X Φ c e :=
  ⟨h, t, pe_imp h fun σ H Q q => T.of_op hc q, fun op l p z => absurd z (hp _ _ _)⟩
theorem T.and1 {x y : Bool} {f : Sls → R D} {σ : L2.St} {H : Hp} {Q : VK} (h : T X.K (x && y) f σ H Q) : T X.K x f σ H Q := by
  cases x with
  | false => exact h
  | true =>
    cases y with
    | true => exact h
    | false => exact T.weak h
theorem T.and2 {x y : Bool} {f : Sls → R D} {σ : L2.St} {H : Hp} {Q : VK} (h : T X.K (x && y) f σ H Q) : T X.K y f σ H Q := by
  cases y with
  | false => rw [Bool.and_false] at h; exact h
  | true =>
    cases x with
    | true => exact h
    | false => exact T.weak h
theorem Good.box (G : Good X k tb Φ sc) : True := trivial
/-- a comparison's answer as a test -/
theorem Tt_bool {g : Sls → R D} (hb : ∀ s d s', g s = .ok d s' → ∃ b, d = .bool b) {σ : L2.St} {H : Hp} {Q : Bool → Hp → Prop} (h : Tt X.K (fun s => tru (g s)) σ H Q) :
    T X.K true g σ H fun x H1 => ∃ b, x = .bl b ∧ Q b H1 := by
  obtain ⟨B, M0, M, sl, b, sl', r, e, q⟩ := h
  obtain ⟨d, s2, e2, e3⟩ := bnd_of e
  obtain ⟨e4, rfl⟩ := opt_of e3
  obtain ⟨c, rfl⟩ := hb _ _ _ e2
  refine ⟨B, M0, M, sl, _, _, r, e2, fun M1 v H1 sm1 rs => ?_⟩
  obtain ⟨M2, sm2, r2, h2⟩ := rs.shared
  cases h2
  cases e4
  exact ⟨_, rfl, q M2 _ (sm1.trans sm2) r2⟩
theorem cmp_bool {ra : R Ov} {rb : Sls → R Ov} {p : D → D → Option Bool} {d : D} {s' : Sls} (h : (ra.bnd fun x s => (rb s).bnd fun y s => match rd x s, rd y s with
      | some d, some e => .opt ((p d e).map PyData.bool) s
      | _, _ => .bad) = .ok d s') : ∃ b, d = .bool b := by
  obtain ⟨x, s1, e1, e⟩ := bnd_of h
  obtain ⟨y, s2, e2, e⟩ := bnd_of e
  split at e
  · obtain ⟨e3, rfl⟩ := opt_of e
    rw [Option.map_eq_some_iff] at e3
    obtain ⟨b, e3, rfl⟩ := e3
    exact ⟨b, rfl⟩
  · cases e
theorem chain_bool {ra : R D} {rb rc : Sls → R D} {p q : D → D → Option Bool} {d : D} {s' : Sls} (h : (ra.bnd fun d s => (rb s).bnd fun e s => match p d e with
    | none => .bad
    | some false => .ok (.bool false) s
    | some true => (rc s).bnd fun f s => .opt ((q e f).map PyData.bool) s) = .ok d s') : ∃ b, d = .bool b := by
  obtain ⟨x, s1, e1, e⟩ := bnd_of h
  obtain ⟨y, s2, e2, e⟩ := bnd_of e
  split at e
  · cases e
  · cases e
    exact ⟨_, rfl⟩
  · obtain ⟨z, s3, e4, e⟩ := bnd_of e
    obtain ⟨e3, rfl⟩ := opt_of e
    rw [Option.map_eq_some_iff] at e3
    obtain ⟨b, e3, rfl⟩ := e3
    exact ⟨b, rfl⟩
theorem Tt_ite {gc : Sls → R Bool} {ga gb : Sls → R D} {σ : L2.St} {H : Hp} {Q : Bool → Hp → Prop} (h : Tt X.K (fun s => tru ((gc s).bnd fun t s => if t then ga s else gb s)) σ H Q) :
    T X.K false (fun s => (gc s).bnd fun t s => if t then ga s else gb s) σ H fun x H1 => ∃ b, TruV X.K x H1 b ∧ Q b H1 := Tt_tru h
end

section
variable {tb : Nat → Option Def} {Φ : Nat → Sem1}
theorem const_pe {X : Cx} {kk : Const} {j : Nat} {pos : Pos} {d : D} (h : cD kk = some d) : PE X (.Constant kk j pos) (T X.K true fun s => .opt (cD kk) s) := by
  have hg : ∀ s d' s', R.opt (cD kk) s = .ok d' s' → d' = d ∧ s' = s := fun s d' s' e => by
    rw [h] at e
    cases e
    exact ⟨rfl, rfl⟩
  cases kk <;> simp only [cD] at h <;> try cases h
  · exact pe_imp pe_non fun σ H Q q => T_flat (fun _ => .non) (by intro _ _ z; cases z) hg q
  · exact pe_imp pe_bl fun σ H Q q => T_flat (fun _ => .bl _) (by intro _ _ z; cases z) hg q
  · exact pe_imp pe_int fun σ H Q q => T_flat (fun _ => .int _) (by intro _ _ z; cases z) hg q
  · exact pe_imp pe_str fun σ H Q q => T_flat (fun _ => .str _) (by intro _ _ z; cases z) hg q
end
end L3

set_option Elab.async false
set_option linter.all false
set_option maxRecDepth 100000
set_option maxHeartbeats 4000000
/-! the main theorem on expressions -/
namespace L3
open PySem PySem.Spec PyProof.Rows L2

section
variable {k : Nat} {tb : Nat → Option Def} {Φ : Nat → Sem1}
theorem blkOk_env {X : Cx} {sc scope : Scope} {own : List (Str × Nat)} (G : Good X k tb Φ sc) (ok : BlkOk X.N sc scope own) : BlkOk X.N X.env.scope scope own :=
  ⟨ok.kind, ok.uniq, ok.ix, fun y hy e => by
    rcases ok.free y hy e with z | z
    · exact Or.inl (G.cell _ z).1
    · exact G.free _ z, ok.own⟩
theorem bf_builtin (f : Bf) : (∃ id, f.val = .builtin id) ∨ ∃ T, f.val = .type T := by
  cases f <;> first | exact Or.inl ⟨_, rfl⟩ | exact Or.inr ⟨_, rfl⟩
theorem gname {x : Str} {sc : Scope} (h : glbB sc x = true) (hx : (x == ("__debug__" : Str)) = false) : True := trivial
theorem oc_po {X : Cx} {o : Option Int} {e : Option Expr} (h : ocB o e = true) : PO X e (fun _ H Q => Q o H) := by
  unfold ocB at h
  split at h
  · exact po_imp po_none fun σ H Q q => q
  · rename_i n m _ _
    have e := of_decide_eq_true h
    subst e
    exact po_imp (po_some pe_int) fun σ H Q q => ⟨n, rfl, q⟩
  · cases h
theorem rng_len {ds items : List D} (h : rngD ds = some items) : (∃ j, ds = [.int j] ∧ okR j = true ∧ items = rngL 0 j) ∨ (∃ i j, ds = [.int i, .int j] ∧ okR i = true ∧ okR j = true ∧ items = rngL i j) ∨
    (∃ i j, ds = [.int i, .int j, .int (-1)] ∧ okR i = true ∧ okR j = true ∧ items = rngDn i j) := by
  unfold rngD at h
  split at h
  · split at h
    · cases h
      exact Or.inl ⟨_, rfl, by assumption, rfl⟩
    · cases h
  · split at h
    · rename_i hh
      simp only [Bool.and_eq_true] at hh
      cases h
      exact Or.inr (Or.inl ⟨_, _, rfl, hh.1, hh.2, rfl⟩)
    · cases h
  · split at h
    · rename_i hh
      simp only [Bool.and_eq_true, decide_eq_true_eq] at hh
      cases h
      obtain ⟨⟨h1, h2⟩, rfl⟩ := hh
      exact Or.inr (Or.inr ⟨_, _, rfl, h1, h2, rfl⟩)
    · cases h
  · cases h
theorem okR_b {i : Int} (h : okR i = true) : -(2 ^ 62) ≤ i ∧ i < 2 ^ 62 := by
  have := of_decide_eq_true h
  omega

theorem len_two {α : Type} : ∀ {l : List α}, l.length = 2 → ∃ b c, l = [b, c]
  | [b, c], _ => ⟨b, c, rfl⟩
  | [], h => by cases h
  | [_], h => by cases h
  | _ :: _ :: _ :: _, h => by simp at h
theorem last_marks {o1 o2 : CmpOp} {a b : Expr} (h : plainE b = true) : lastMarks [o1, o2] [a, b] = false := plain_in h
theorem chkEs_len {N : List Str} {sc : Scope} : ∀ {es : Es} {l : List Expr}, chkEs N tb sc es l = true → l.length = es.len
  | .nil, [], _ => rfl
  | .nil, _ :: _, h => by simp [chkEs] at h
  | .cons _ _, [], h => by simp [chkEs] at h
  | .cons e r, x :: t, h => by
    simp only [chkEs, Bool.and_eq_true] at h
    show t.length + 1 = r.len + 1
    rw [chkEs_len h.2]
/-- a conditional expression as a test -/
theorem pt_if {X : Cx} {c a b : Expr} {pos : Pos} {tc ta tb : TT} (hc : PT X c tc) (ha : PT X a ta) (hb : PT X b tb) :
    PT X (.IfExp c a b pos) (fun σ H Q => tc σ H fun d H1 => if d = true then ta σ H1 Q else tb σ H1 Q) := by
  refine ⟨fun pins s σ H Q I h => ?_⟩
  rw [arm_isTrue_IfExp]
  refine wpAny_bind (thn (hc.run pins s σ H _ I h) fun d s1 ⟨H1, I1, q1⟩ => ?_)
  cases d with
  | true => exact ha.run pins s1 σ H1 Q I1 q1
  | false => exact hb.run pins s1 σ H1 Q I1 q1
theorem Tt_if {K : PySem.W.Frag} {gc : Sls → R Bool} {ga gb : Sls → R D} {σ : L2.St} {H : Hp} {Q : Bool → Hp → Prop} (h : Tt K (fun s => tru ((gc s).bnd fun t s => if t then ga s else gb s)) σ H Q) :
    Tt K gc σ H fun d H1 => if d = true then Tt K (fun s => tru (ga s)) σ H1 Q else Tt K (fun s => tru (gb s)) σ H1 Q := by
  obtain ⟨B, M0, M, sl, b', sl', r, e, q⟩ := h
  obtain ⟨d, s2, e2, e3⟩ := bnd_of e
  obtain ⟨b, s1, e4, e5⟩ := bnd_of e2
  refine ⟨B, M0, M, sl, b, s1, r, e4, fun M1 H1 sm1 r1 => ?_⟩
  cases b with
  | true => exact ⟨B, M0, M1, s1, b', sl', r1, (by show (ga s1).bnd _ = _; rw [show ga s1 = .ok d s2 from e5]; exact e3), fun M2 H2 sm2 r2 => q M2 H2 (sm1.trans sm2) r2⟩
  | false => exact ⟨B, M0, M1, s1, b', sl', r1, (by show (gb s1).bnd _ = _; rw [show gb s1 = .ok d s2 from e5]; exact e3), fun M2 H2 sm2 r2 => q M2 H2 (sm1.trans sm2) r2⟩
theorem Ta_of_len {K : PySem.W.Frag} {M : Hp} {vs : List V} {ds : List D} (h : HdA K M vs ds) : vs.length = ds.length := h.length
end

section
variable {k : Nat} {tb : Nat → Option Def} {Φ : Nat → Sem1}
mutual
theorem soundE : ∀ (c : E) {X : Cx} {sc : Scope} (G : Good X k tb Φ sc) (e : Expr), chkE X.N tb sc c e = true → SE X Φ c e
  | .c kk, X, sc, G, e, h => by
    unfold chkE at h
    split at h
    · simp only [Bool.and_eq_true, decide_eq_true_eq] at h
      obtain ⟨rfl, h2⟩ := h
      obtain ⟨d, hd⟩ := Option.isSome_iff_exists.mp h2
      refine SE.plain ?_ (by intro i z; cases z) rfl
      exact const_pe hd
    · cases h
  | .v i, X, sc, G, e, h => by
    unfold chkE at h
    split at h
    · refine SE.plain (pe_imp (G.slot h) fun σ H Q q => T_var q) (by intro i z; cases z) rfl
    · cases h
  | .pk i, X, sc, G, e, h => by
    unfold chkE at h
    split at h
    · refine ⟨⟨fun pins s σ H Q I q => ?_⟩, ⟨fun pins s σ H Q I q => ?_⟩, pe_imp (G.slot h) fun σ H Q q => Tp_pk q, by rintro op l p z; cases z⟩
      · obtain ⟨B, M0, M, sl, d, sl', r, e, _⟩ := q
        cases e
      · obtain ⟨B, M0, M, sl, d, sl', r, e, _⟩ := q
        cases e
    · cases h
  | .g j, X, sc, G, e, h => by
    unfold chkE at h
    split at h
    · rename_i x pos
      simp only [Bool.and_eq_true] at h
      obtain ⟨h1, h2⟩ := h
      split at h2
      · rename_i nm d htb
        have e := of_decide_eq_true h2
        subst e
        obtain ⟨hdb, ⟨u, v, hm, ru, hd⟩, hΦ⟩ := G.csts _ _ _ htb
        refine SE.plain (pe_imp (pe_glob (G.gl h1) hm ru hdb) fun σ H Q q => ?_) (by intro i z; cases z) rfl
        refine T_flat (f := false) (g := ev Φ (.g j)) hd (by intro z; cases z) (fun s d' s' e => ?_) q
        simp only [ev] at e
        split at e
        · rename_i d2 o ho
          cases e
          exact ⟨hΦ _ _ ho, rfl⟩
        · cases e
      · cases h2
    · cases h
  | .tup es, X, sc, G, e, h => by
    unfold chkE at h
    split at h
    · simp only [Bool.and_eq_true, decide_eq_true_eq] at h
      refine SE.plain (pe_imp (pe_tup (soundEs es G _ h.2)) fun σ H Q q => ?_) (by intro i z; cases z) rfl
      exact T_tup (n := 0) (fun s ds s' e => by rw [evs_len e]; exact h.1) q
    · cases h
  | .lst es, X, sc, G, e, h => by
    unfold chkE at h
    split at h
    · simp only [Bool.and_eq_true, decide_eq_true_eq] at h
      refine SE.plain (pe_imp (pe_lst (soundEs es G _ h.2)) fun σ H Q q => ?_) (by intro i z; cases z) rfl
      exact T_lst (n := 0) (fun s ds s' e => by rw [evs_len e]; exact h.1) q
    · cases h
  | .bin o a b, X, sc, G, e, h => by
    unfold chkE at h
    split at h
    · simp only [Bool.and_eq_true, decide_eq_true_eq] at h
      obtain ⟨⟨rfl, h1⟩, h2⟩ := h
      refine SE.plain (pe_imp (pe_op (bop_ok _) (soundE a G _ h1).o (soundE b G _ h2).o) fun σ H Q q => ?_) (by intro i z; cases z) rfl
      exact T_op2 (f := true) (f' := true) (fun z => z) q
    · cases h
  | .neg a, X, sc, G, e, h => by
    unfold chkE at h
    split at h
    · refine SE.plain (pe_imp (pe_un un_neg (pe_imp (soundE a G _ h).v fun σ H Q q => T.weak q)) fun σ H Q q => ?_) (by intro i z; cases z) rfl
      exact T_neg (f := true) q
    · cases h
  | .nt a, X, sc, G, e, h => by
    unfold chkE at h
    split at h
    · have A := soundE a G _ h
      refine SE.test (pe_imp (pe_notT (pe_imp A.v fun σ H Q q => T.weak q)) fun σ H Q q => ?_) (by intro i z; cases z) (pt_imp (pt_not A.t) fun σ H Q q => Tt_nt q) (by intro _ _ _ z; cases z)
      exact T_nt (f := true) q
    · cases h
  | .and a b, X, sc, G, e, h => by
    unfold chkE at h
    split at h
    · rename_i x y r pos
      simp only [Bool.and_eq_true] at h
      have A := soundE a G _ h.1
      have hB : PE X (.BoolOp .And (y :: r) pos) (T X.K false (ev Φ b)) ∧ PW X (.BoolOp .And (y :: r) pos) (Tt X.K fun s => tru (ev Φ b s)) := by
        split at h
        · have B := soundE b G _ h.2
          exact ⟨pe_one (pe_imp B.v fun σ H Q q => T.weak q), pw_and1 B.t⟩
        · have B := soundE b G _ h.2
          exact ⟨pe_imp B.v fun σ H Q q => T.weak q, B.w _ _ _ rfl⟩
      have W : PW X (.BoolOp .And (x :: y :: r) pos) (Tt X.K fun s => tru (ev Φ (.and a b) s)) := pw_imp (pw_and A.t hB.2) fun σ H Q q => Tt_and q
      refine ⟨pe_imp (pe_andT (pe_imp A.v fun σ H Q q => T.weak q) hB.1) fun σ H Q q => T_and q, W.pt, ?_, fun op l p z => W⟩
      exact pe_imp (pe_andT (pe_imp A.v fun σ H Q q => T.weak q) hB.1) fun σ H Q q => T_and (T.of_op (c := .and a b) (f := ev Φ (.and a b)) (by intro i z; cases z) q)
    · cases h
  | .or a b, X, sc, G, e, h => by
    unfold chkE at h
    split at h
    · rename_i x y r pos
      simp only [Bool.and_eq_true] at h
      have A := soundE a G _ h.1
      have hB : PE X (.BoolOp .Or (y :: r) pos) (T X.K false (ev Φ b)) ∧ PW X (.BoolOp .Or (y :: r) pos) (Tt X.K fun s => tru (ev Φ b s)) := by
        split at h
        · have B := soundE b G _ h.2
          exact ⟨pe_one (pe_imp B.v fun σ H Q q => T.weak q), pw_or1 B.t⟩
        · have B := soundE b G _ h.2
          exact ⟨pe_imp B.v fun σ H Q q => T.weak q, B.w _ _ _ rfl⟩
      have W : PW X (.BoolOp .Or (x :: y :: r) pos) (Tt X.K fun s => tru (ev Φ (.or a b) s)) := pw_imp (pw_or A.t hB.2) fun σ H Q q => Tt_or q
      refine ⟨pe_imp (pe_orT (pe_imp A.v fun σ H Q q => T.weak q) hB.1) fun σ H Q q => T_or q, W.pt, ?_, fun op l p z => W⟩
      exact pe_imp (pe_orT (pe_imp A.v fun σ H Q q => T.weak q) hB.1) fun σ H Q q => T_or (T.of_op (c := .or a b) (f := ev Φ (.or a b)) (by intro i z; cases z) q)
    · cases h
  | .cmp o a b, X, sc, G, e, h => by
    unfold chkE at h
    split at h
    · simp only [Bool.and_eq_true, decide_eq_true_eq] at h
      obtain ⟨⟨⟨rfl, h0⟩, h1⟩, h2⟩ := h
      have A := soundE a G _ h1
      have B := soundE b G _ h2
      refine SE.test (pe_imp (pe_cmpR (cop_ok _ (by have := G.u65; omega)) A.o B.o (plain_in h0)) fun σ H Q q => T_op2b (f := true) q) (by intro i z; cases z)
        (pt_imp (pt_cmpR (cop_ok _ (by have := G.u65; omega)) A.o B.o (plain_in h0)) fun σ H Q q => T_op2b (f := true) (Tt_bool (fun s d s' z => cmp_bool z) q)) (by intro _ _ _ z; cases z)
    · cases h
  | .chain o1 o2 a b c, X, sc, G, e, h => by
    unfold chkE at h
    split at h
    · simp only [Bool.and_eq_true, decide_eq_true_eq] at h
      obtain ⟨⟨⟨⟨⟨⟨rfl, rfl⟩, g1⟩, g2⟩, h1⟩, h2⟩, h3⟩ := h
      have A := pe_imp (soundE a G _ h1).v fun σ H Q q => T.weak (b := fr a) q
      have B := pe_imp (soundE b G _ h2).v fun σ H Q q => T.weak (b := fr b) q
      have C := pe_imp (soundE c G _ h3).v fun σ H Q q => T.weak (b := fr c) q
      refine SE.test (pe_imp (pe_chain (cop_ok _ (by have := G.u65; omega)) (cop_ok _ (by have := G.u65; omega)) A B C (last_marks g2)) fun σ H Q q => T_chain (f := true) q) (by intro i z; cases z)
        (pt_imp (pt_chain (cop_ok _ (by have := G.u65; omega)) (cop_ok _ (by have := G.u65; omega)) A B C (last_marks g2)) fun σ H Q q => T_chain (f := true) (Tt_bool (fun s d s' z => chain_bool z) q)) (by intro _ _ _ z; cases z)
    · cases h
  | .ite c a b, X, sc, G, e, h => by
    unfold chkE at h
    split at h
    · simp only [Bool.and_eq_true] at h
      have C := soundE c G _ h.1.1
      have A := soundE a G _ h.1.2
      have B := soundE b G _ h.2
      refine SE.test (pe_imp (pe_ifExp C.t (pe_imp A.v fun σ H Q q => T.and1 (y := fr b) q) (pe_imp B.v fun σ H Q q => T.and2 (x := fr a) q)) fun σ H Q q => T_ite q) (by intro i z; cases z) ?_ (by intro _ _ _ z; cases z)
      refine pt_imp (pt_if C.t A.t B.t) fun σ H Q q => ?_
      exact Tt_if q
    · cases h
  | .ix a i, X, sc, G, e, h => by
    unfold chkE at h
    split at h
    · simp only [Bool.and_eq_true] at h
      refine SE.plain (pe_imp (pe_ix ix_ok (soundE a G _ h.1.2).o (soundE i G _ h.2).o (plain_ix h.1.1)) fun σ H Q q => ?_) (by intro i z; cases z) rfl
      exact T_op2 (f := false) (f' := false) (fun z => z) q
    · cases h
  | .cut a lo hi, X, sc, G, e, h => by
    unfold chkE at h
    split at h
    · simp only [Bool.and_eq_true] at h
      refine SE.plain (pe_imp (pe_slice sl_ok (soundE a G _ h.1.1).o (soundO lo G _ h.1.2).1 (soundO hi G _ h.2).1) fun σ H Q q => ?_) (by intro i z; cases z) rfl
      exact T_cut q
    · cases h
  | .sc i lo hi, X, sc, G, e, h => by
    unfold chkE at h
    split at h
    · simp only [Bool.and_eq_true] at h
      refine SE.plain (pe_imp (pe_slice sl_list (G.slot h.1.1) (oc_po h.1.2) (oc_po h.2)) fun σ H Q q => ?_) (by intro i z; cases z) rfl
      exact T_sc q
    · cases h
  | .bf f es, X, sc, G, e, h => by
    unfold chkE at h
    split at h
    · simp only [Bool.and_eq_true, decide_eq_true_eq] at h
      obtain ⟨⟨rfl, h1⟩, h2⟩ := h
      have pl := chkEs_plain h2
      have P := (soundEs2 es G _ h2)
      have hb := bf_ok (X := X) G.calm G.gd G.u65 f
      obtain ⟨n1, n2⟩ := nm_bf f
      have pl2 : plainL _ := fun y hy => pl y (List.mem_cons_of_mem _ hy)
      refine SE.plain ?_ (by intro i z; cases z) rfl
      rcases bf_builtin f with ⟨id, hv⟩ | ⟨T, hv⟩
      · rw [hv] at hb
        refine pe_imp (pe_callB hb (G.gl h1) (G.blt _ (blt_bf f)) (by rw [boot_bf, hv]) P n1 n2 (plain_star (pl _ List.mem_cons_self) _ _) (plainL_back pl2)) fun σ H Q q => T_bf q
      · rw [hv] at hb
        refine pe_imp (pe_callTy hb (G.gl h1) (G.blt _ (blt_bf f)) (by rw [boot_bf, hv]) P n1 n2 (plain_star (pl _ List.mem_cons_self) _ _) (plainL_back pl2)) fun σ H Q q => T_bf q
    · cases h
  | .isi a t, X, sc, G, e, h => by
    unfold chkE at h
    split at h
    · simp only [Bool.and_eq_true, decide_eq_true_eq] at h
      obtain ⟨⟨⟨⟨⟨rfl, h1⟩, rfl⟩, h2⟩, h3⟩, h4⟩ := h
      obtain ⟨n1, n2⟩ := nm_ty t
      have A := (soundE a G _ h4).o
      refine SE.plain ?_ (by intro i z; cases z) rfl
      have hr : CallR X (.builtin "isinstance") (fun xs H Q => ∃ x, xs = [x, .ty (tyN t)] ∧ rIs X.K t x H Q) := by
        intro pins s σ H xs us Q I r hq
        obtain ⟨x, rfl, q⟩ := hq
        obtain ⟨u1, u2, rfl, r1, r2⟩ := vals2 r
        cases r2
        exact is_ok t pins s σ H x u1 Q I r1 q
      refine pe_imp (pe_callB hr (G.gl h1) (G.blt _ (by decide +kernel)) (by decide +kernel)
        (pa_cons A (pa_cons (pe_bltn (v := .ty (tyN t)) (G.gl h2) (G.blt _ (blt_ty t)) (boot_ty t) rfl n1 n2) pa_nil (plain_star rfl _ _)) (plain_star h3 _ _)) (by decide +kernel) (by decide +kernel) (plain_star h3 _ _) (plainL_back (by intro y hy; cases hy with
          | head => rfl
          | tail _ z => cases z))) fun σ H Q q => ?_
      obtain ⟨B, M0, M, sl, d', sl', r, e, q⟩ := q
      obtain ⟨x, s1, e1, e⟩ := bnd_of e
      refine ⟨B, M0, M, sl, x, s1, r, e1, fun M1 v H1 sm1 r1 hx => ?_⟩
      split at e
      · rename_i d hd
        obtain ⟨e3, rfl⟩ := opt_of e
        rw [Option.map_eq_some_iff] at e3
        obtain ⟨b, e3, rfl⟩ := e3
        exact ⟨v, rfl, M1, d, b, r1.exM, rd_pk r1 hx hd, e3, q M1 _ H1 sm1 (Or.inl ⟨noL_bl, r1, .bl b⟩)⟩
      · cases e
    · cases h
  | .call f fr as, X, sc, G, e, h => by
    unfold chkE at h
    split at h
    · rename_i x p l pos
      simp only [Bool.and_eq_true] at h
      obtain ⟨⟨h1, h2⟩, h3⟩ := h
      split at h3
      · rename_i fd htb
        simp only [Bool.and_eq_true, decide_eq_true_eq] at h3
        obtain ⟨⟨rfl, h4⟩, h5⟩ := h3
        obtain ⟨g, fdd, ps, hm, hk, hbi, hl, hdb, F⟩ := G.fns _ _ htb
        obtain ⟨pl, hlen⟩ := chkAs_plain h2
        have P := soundAs as G _ h2
        refine SE.plain ?_ (by intro i z; cases z) rfl
        have rd : ∀ σ H Q, T X.K fr (ev Φ (.call f fr as)) σ H Q → tCallG (spD X.K (Φ f) fd.np fd.rk) E0 (Tav X.K (evas Φ as)) σ H Q := fun σ H Q q => T_call (fun s avs s' e => by rw [evas_len e, h4]) h5 q
        cases l with
        | nil =>
          have hn : as = .nil := by cases as <;> simp [As.len] at hlen; rfl
          subst hn
          refine pe_imp (peG_call0 F G.room G.gd (G.gl h1) hm hk hbi pass0 hdb) fun σ H Q q => ?_
          have q := rd σ H Q q
          obtain ⟨B, M0, M, sl, ds, sl', r, e, q⟩ := q
          cases e
          exact q M [] H (Same.refl _) r .nil
        | cons a l =>
          refine pe_imp (peG_call F G.room G.gd (G.gl h1) hm hk hbi pass0 P hdb (plain_star (pl _ List.mem_cons_self) _ _) (plainL_back fun y hy => pl y (List.mem_cons_of_mem _ hy))) rd
      · cases h3
    · cases h
  | .lc own t it cond elt, X, sc, G, e, h => by
    unfold chkE at h
    split at h
    · rename_i x tg iter ifs scope pos
      simp only [Bool.and_eq_true] at h
      obtain ⟨⟨⟨⟨⟨h1, h2⟩, h3⟩, h4⟩, h5⟩, h6⟩ := h
      have ok := blkOk_by h2
      obtain ⟨I1, I2⟩ := soundIt it G _ _ h1
      refine SE.plain ?_ (by intro i z; cases z) rfl
      refine pe_imp (pe_lc (g := Tgt X.K t) (tt := Tt X.K (evc Φ cond)) (te := T X.K false (ev Φ elt)) G.calm G.nd I1 (blkOk_env G ok) (fun s H C cl fp => ?_) (fun s H C cl fp => ?_) (fun s H C cl fp => ?_) I2) fun σ H Q q => ?_
      · exact soundTg (G.blk ok (fun x z => (G.cell x z).1) s H C cl fp) t tg h3
      · have GB := G.blk ok (fun x z => (G.cell x z).1) s H C cl fp
        split at h5
        · exact (soundO cond GB _ h5).2.2 rfl
        · exact (soundO cond GB _ h5).2.1 _ rfl
        · cases h5
      · exact pe_imp (soundE elt (G.blk ok (fun x z => (G.cell x z).1) s H C cl fp) _ h6).v fun σ H Q q => T.weak q
      · refine T_lc (fun j hj => ?_) q
        have := List.all_eq_true.mp h4 j hj
        exact List.contains_iff_mem.mp this
    · cases h
theorem soundEs : ∀ (es : Es) {X : Cx} {sc : Scope} (G : Good X k tb Φ sc) (l : List Expr), chkEs X.N tb sc es l = true → PA X l (Ta X.K (evs Φ es))
  | .nil, X, sc, G, l, h => by
    unfold chkEs at h
    split at h
    · exact pa_imp pa_nil fun σ H Q q => Ta_nil q
    · cases h
  | .cons c r, X, sc, G, l, h => by
    unfold chkEs at h
    split at h
    · simp only [Bool.and_eq_true] at h
      exact pa_imp (pa_cons (pe_imp (soundE c G _ h.1.2).v fun σ H Q q => T.weak q) (soundEs r G _ h.2) (plain_star h.1.1 _ _)) fun σ H Q q => Ta_cons q
    · cases h
theorem soundEs2 : ∀ (es : Es) {X : Cx} {sc : Scope} (G : Good X k tb Φ sc) (l : List Expr), chkEs X.N tb sc es l = true → PA X l (Tpa X.K (evos Φ es))
  | .nil, X, sc, G, l, h => by
    unfold chkEs at h
    split at h
    · exact pa_imp pa_nil fun σ H Q q => Tpa_nil q
    · cases h
  | .cons c r, X, sc, G, l, h => by
    unfold chkEs at h
    split at h
    · simp only [Bool.and_eq_true] at h
      exact pa_imp (pa_cons (soundE c G _ h.1.2).o (soundEs2 r G _ h.2) (plain_star h.1.1 _ _)) fun σ H Q q => Tpa_cons q
    · cases h
theorem soundO : ∀ (o : Oe) {X : Cx} {sc : Scope} (G : Good X k tb Φ sc) (e : Option Expr), chkO X.N tb sc o e = true → PO X e (Tb X.K (evb Φ o)) ∧
    (∀ x, e = some x → PTs X [x] (Tt X.K (evc Φ o))) ∧ (e = none → PTs X [] (Tt X.K (evc Φ o)))
  | .n, X, sc, G, e, h => by
    unfold chkO at h
    split at h
    · refine ⟨po_imp po_none fun σ H Q q => ?_, (by intro x z; cases z), fun _ => ⟨fun pins s σ H Q I q => pts_nil.run pins s σ H Q I ?_⟩⟩
      · obtain ⟨B, M0, M, sl, d, sl', r, e, q⟩ := q
        cases e
        exact q M H (Same.refl _) r
      · obtain ⟨B, M0, M, sl, d, sl', r, e, q⟩ := q
        cases e
        exact q M H (Same.refl _) r
    · cases h
  | .s c, X, sc, G, e, h => by
    unfold chkO at h
    split at h
    · have A := soundE c G _ h
      refine ⟨po_imp (po_some (pe_imp A.v fun σ H Q q => T.weak (b := fr c) q)) fun σ H Q q => ?_, (by intro x z; cases z; exact pts_one A.t), (by intro z; cases z)⟩
      obtain ⟨B, M0, M, sl, d, sl', r, e, q⟩ := q
      obtain ⟨x, s1, e1, e⟩ := bnd_of e
      refine ⟨B, M0, M, sl, x, s1, r, e1, fun M1 v H1 sm1 rs => ?_⟩
      obtain ⟨M2, sm2, r2, h2⟩ := rs.shared
      split at e <;> cases e
      cases h2
      exact ⟨_, rfl, q M2 _ (sm1.trans sm2) r2⟩
    · cases h
theorem soundAs : ∀ (as : As) {X : Cx} {sc : Scope} (G : Good X k tb Φ sc) (l : List Expr), chkAs X.N tb sc as l = true → PA X l (Tav X.K (evas Φ as))
  | .nil, X, sc, G, l, h => by
    unfold chkAs at h
    split at h
    · exact pa_imp pa_nil fun σ H Q q => Tav_nil q
    · cases h
  | .v c r, X, sc, G, l, h => by
    unfold chkAs at h
    split at h
    · simp only [Bool.and_eq_true] at h
      exact pa_imp (pa_cons (pe_imp (soundE c G _ h.1.2).v fun σ H Q q => T.weak q) (soundAs r G _ h.2) (plain_star h.1.1 _ _)) fun σ H Q q => Tav_v q
    · cases h
  | .o i r, X, sc, G, l, h => by
    unfold chkAs at h
    split at h
    · simp only [Bool.and_eq_true] at h
      exact pa_imp (pa_cons (G.slot h.1) (soundAs r G _ h.2) (plain_star rfl _ _)) fun σ H Q q => Tav_i (a := .o i) (fun _ _ z => z) q
    · cases h
  | .p i r, X, sc, G, l, h => by
    unfold chkAs at h
    split at h
    · simp only [Bool.and_eq_true] at h
      exact pa_imp (pa_cons (G.slot h.1) (soundAs r G _ h.2) (plain_star rfl _ _)) fun σ H Q q => Tav_i (a := .p i) (fun _ _ z => z) q
    · cases h
  | .sc i r, X, sc, G, l, h => by
    unfold chkAs at h
    split at h
    · simp only [Bool.and_eq_true] at h
      exact pa_imp (pa_cons (G.slot h.1) (soundAs r G _ h.2) (plain_star rfl _ _)) fun σ H Q q => Tav_i (a := .s i) (fun _ _ z => z) q
    · cases h
  | .k f as i r, X, sc, G, l, h => by
    unfold chkAs at h
    split at h
    · rename_i x p q pos t
      simp only [Bool.and_eq_true] at h
      obtain ⟨⟨⟨h1, h2⟩, h3⟩, h6⟩ := h
      split at h3
      · rename_i fd htb
        simp only [Bool.and_eq_true, decide_eq_true_eq] at h3
        obtain ⟨⟨rfl, h4⟩, h5⟩ := h3
        obtain ⟨g, fdd, ps, hm, hk, hbi, hl, hdb, F⟩ := G.fns _ _ htb
        obtain ⟨pl, hlen⟩ := chkAs_plain h2
        have P := soundAs as G _ h2
        split at h5
        · rename_i j hj
          rw [hj] at F
          have rd : ∀ σ H Q, Tk X.K (fun s => (evas Φ as s).bnd fun avs s => (doCall (Φ f) avs s).bnd fun _ s => .ok () s) i σ H Q → tCallG (spD X.K (Φ f) fd.np (.io j)) E0 (Tav X.K (evas Φ as)) σ H Q :=
            fun σ H Q q => T_callk (fun s avs s' e => by rw [evas_len e, h4]) (fun s avs s' e => evas_isO e h5) q
          cases q with
          | nil =>
            have hn : as = .nil := by cases as <;> simp [As.len] at hlen; rfl
            subst hn
            simp [As.isO] at h5
          | cons a q =>
            have C := pe_imp (peG_call F G.room G.gd (G.gl h1) hm hk hbi pass0 P hdb (plain_star (pl _ List.mem_cons_self) _ _) (plainL_back fun y hy => pl y (List.mem_cons_of_mem _ hy)) (pos := pos) (p := p)) rd
            exact pa_imp (pa_cons C (soundAs r G _ h6) (plain_star rfl _ _)) fun σ H Q q => Tav_k q
        · cases h5
      · cases h3
    · cases h
theorem soundIt : ∀ (it : It) {X : Cx} {sc : Scope} (G : Good X k tb Φ sc) (e tg : Expr), chkIt X.N tb sc it e tg = true → PI X tg e (Ti X.K (evIt Φ it)) ∧ ∀ x, foldedSetIterable e X.env x = pure x
  | .e c, X, sc, G, e, tg, h => by
    simp only [chkIt, Bool.and_eq_true] at h
    have A : PE X e (T X.K false (ev Φ c)) := pe_imp (soundE c G _ h.2).v fun σ H Q q => T.weak q
    refine ⟨⟨fun pins s σ H R I q => ?_⟩, fun x => plain_set h.1 _ _⟩
    obtain ⟨B, M0, M, sl, items, sl', r, e, q⟩ := q
    obtain ⟨d, s1, e1, e2⟩ := bnd_of e
    obtain ⟨e3, rfl⟩ := opt_of e2
    cases d <;> simp only [itemsOf] at e3 <;> first | cases e3 | skip
    · refine (pi_str A).run pins s σ H R I ⟨B, M0, M, sl, _, s1, r, e1, fun M1 v H1 sm1 rs => ?_⟩
      obtain ⟨M2, sm2, r2, h2⟩ := rs.shared
      cases h2
      exact ⟨_, rfl, q M2 _ _ (sm1.trans sm2) r2 wk_str⟩
    · refine (pi_list A).run pins s σ H R I ⟨B, M0, M, sl, _, s1, r, e1, fun M1 v H1 sm1 rs => ?_⟩
      obtain ⟨M2, sm2, r2, h2⟩ := rs.shared
      cases h2 with
      | lst ha hA => exact ⟨_, rfl, ⟨_, SqL.of (r2.exM _ _ ha)⟩, q M2 _ _ (sm1.trans sm2) r2 (wk_list ha hA)⟩
    · refine (pi_tup A).run pins s σ H R I ⟨B, M0, M, sl, _, s1, r, e1, fun M1 v H1 sm1 rs => ?_⟩
      obtain ⟨M2, sm2, r2, h2⟩ := rs.shared
      cases h2 with
      | tup ha hA => exact ⟨_, rfl, ⟨_, sqT_mono (fun o z _ => r2.exM _ o z) ha⟩, q M2 _ _ (sm1.trans sm2) r2 (wk_tup ha hA)⟩
  | .rng es, X, sc, G, e, tg, h => by
    unfold chkIt at h
    split at h
    · rename_i y p a l pos
      simp only [Bool.and_eq_true, decide_eq_true_eq] at h
      obtain ⟨⟨rfl, h1⟩, h2⟩ := h
      have P := soundEs es G _ h2
      have pl := chkEs_plain h2
      have hm : X.mg "range" = none := G.blt _ (by decide +kernel)
      refine ⟨⟨fun pins s σ H R I q => ?_⟩, fun x => rfl⟩
      obtain ⟨B, M0, M, sl, items, sl', r, e, q⟩ := q
      obtain ⟨ds, s1, e1, e2⟩ := bnd_of e
      obtain ⟨e3, rfl⟩ := opt_of e2
      have hlen := evs_len e1
      have hl := chkEs_len h2
      rcases rng_len e3 with ⟨j, rfl, k1, rfl⟩ | ⟨i, j, rfl, k1, k2, rfl⟩ | ⟨i, j, rfl, k1, k2, rfl⟩
      · have hl0 : l = [] := by
          simp only [List.length_cons, List.length_nil] at hlen hl
          exact List.length_eq_zero_iff.mp (by omega)
        subst hl0
        refine (pi_range1 (G.gl h1) hm P (plain_star (pl _ List.mem_cons_self) _ _)).run pins s σ H R I ⟨B, M0, M, sl, _, s1, r, e1, fun M1 vs H1 sm1 r1 hA => ?_⟩
        cases hA with
        | cons x1 x2 =>
          cases x2
          cases x1
          refine ⟨j, rfl, (okR_b k1).1, (okR_b k1).2, q M1 _ _ sm1 r1 (wk_rng (by simp))⟩
      · obtain ⟨b, rfl⟩ : ∃ b, l = [b] := by
          simp only [List.length_cons, List.length_nil] at hlen hl
          exact List.length_eq_one_iff.mp (by omega)
        refine (pi_range2 (G.gl h1) hm P (by rw [plain_star (pl _ List.mem_cons_self), plain_star (pl _ (List.mem_cons_of_mem _ List.mem_cons_self))]; rfl) (by rw [plain_star (pl _ (List.mem_cons_of_mem _ List.mem_cons_self))]; rfl)).run pins s σ H R I ⟨B, M0, M, sl, _, s1, r, e1, fun M1 vs H1 sm1 r1 hA => ?_⟩
        cases hA with
        | cons x1 x2 =>
          cases x2 with
          | cons x2 x3 =>
            cases x3
            cases x1
            cases x2
            exact ⟨i, j, rfl, ⟨(okR_b k1).1, (okR_b k1).2, (okR_b k2).1, (okR_b k2).2⟩, q M1 _ _ sm1 r1 (wk_rng rfl)⟩
      · obtain ⟨b, c, rfl⟩ : ∃ b c, l = [b, c] := by
          simp only [List.length_cons, List.length_nil] at hlen hl
          exact len_two (by omega)
        refine (pi_range3 (G.gl h1) hm P (plain_star (pl _ List.mem_cons_self) _ _) (plainL_back fun y hy => pl y (List.mem_cons_of_mem _ hy))).run pins s σ H R I ⟨B, M0, M, sl, _, s1, r, e1, fun M1 vs H1 sm1 r1 hA => ?_⟩
        cases hA with
        | cons x1 x2 =>
          cases x2 with
          | cons x2 x3 =>
            cases x3 with
            | cons x3 x4 =>
              cases x4
              cases x1
              cases x2
              cases x3
              exact ⟨i, j, -1, _, rfl, RgC.neg (okR_b k1).1 (okR_b k1).2 (okR_b k2).1 (okR_b k2).2, q M1 _ _ sm1 r1 (wk_rngDn rfl)⟩
    · cases h
  | .enum c, X, sc, G, e, tg, h => by
    unfold chkIt at h
    split at h
    · simp only [Bool.and_eq_true, decide_eq_true_eq] at h
      obtain ⟨⟨⟨rfl, h1⟩, h2⟩, h3⟩ := h
      have A : PE X _ (T X.K false (ev Φ c)) := pe_imp (soundE c G _ h3).v fun σ H Q q => T.weak q
      refine ⟨⟨fun pins s σ H R I q => ?_⟩, fun x => rfl⟩
      obtain ⟨B, M0, M, sl, items, sl', r, e, q⟩ := q
      obtain ⟨d, s1, e1, e2⟩ := bnd_of e
      obtain ⟨e3, rfl⟩ := opt_of e2
      cases d <;> simp only [enumOf] at e3 <;> first | cases e3 | skip
      · refine (pi_enum (G.gl h1) (G.blt _ (by decide +kernel)) (pa_cons A pa_nil (plain_star h2 _ _)) (by rw [plain_star h2]; rfl)).run pins s σ H R I ⟨B, M0, M, sl, _, s1, r, e1, fun M1 v H1 sm1 rs => ?_⟩
        obtain ⟨M2, sm2, r2, h2⟩ := rs.shared
        cases h2 with
        | lst ha hA => exact ⟨_, _, rfl, SqL.of (r2.exM _ _ ha), q M2 _ _ (sm1.trans sm2) r2 (wk_enumL ha hA)⟩
      · refine (pi_enumT (G.gl h1) (G.blt _ (by decide +kernel)) (pa_cons A pa_nil (plain_star h2 _ _)) (by rw [plain_star h2]; rfl)).run pins s σ H R I ⟨B, M0, M, sl, _, s1, r, e1, fun M1 v H1 sm1 rs => ?_⟩
        obtain ⟨M2, sm2, r2, h2⟩ := rs.shared
        cases h2 with
        | tup ha hA => exact ⟨_, _, rfl, sqT_mono (fun o z _ => r2.exM _ o z) ha, q M2 _ _ (sm1.trans sm2) r2 (wk_enumT ha hA)⟩
    · cases h
  | .zip a b, X, sc, G, e, tg, h => by
    unfold chkIt at h
    split at h
    · simp only [Bool.and_eq_true, decide_eq_true_eq] at h
      obtain ⟨⟨⟨⟨⟨rfl, h1⟩, h2⟩, h3⟩, h4⟩, h5⟩ := h
      have A : PE X _ (T X.K false (ev Φ a)) := pe_imp (soundE a G _ h4).v fun σ H Q q => T.weak q
      have A2 : PE X _ (T X.K false (ev Φ b)) := pe_imp (soundE b G _ h5).v fun σ H Q q => T.weak q
      refine ⟨⟨fun pins s σ H R I q => ?_⟩, fun x => rfl⟩
      obtain ⟨B, M0, M, sl, items, sl', r, e, q⟩ := q
      obtain ⟨d, s1, e1, e⟩ := bnd_of e
      obtain ⟨d2, s2, e2, e⟩ := bnd_of e
      obtain ⟨e3, rfl⟩ := opt_of e
      refine (RZ.pi_zipA (G.gl h1) (G.blt _ (by decide +kernel)) (pa_cons A (pa_cons A2 pa_nil (plain_star h3 _ _)) (plain_star h2 _ _)) (plain_star h2 _ _) (plainL_back (by intro y hy; cases hy with
          | head => exact h3
          | tail _ z => cases z))).run pins s σ H R I ⟨B, M0, M, sl, _, s1, r, e1, fun M1 v H1 sm1 rs => ?_⟩
      obtain ⟨M2, sm2, r2, k2⟩ := rs.shared
      refine ⟨B, M0, M2, s1, d2, s2, r2, e2, fun M3 w H3 sm3 rs3 => ?_⟩
      obtain ⟨M4, sm4, r4, k4⟩ := rs3.shared
      have k2' := Hd.mono (sm3.trans sm4) _ _ k2
      cases d <;> cases d2 <;> simp only [zipOf] at e3 <;> first | cases e3 | skip
      · cases k2' with
        | lst ha hA =>
          cases k4 with
          | lst hb hB => exact ⟨_, _, _, _, rfl, Or.inl ⟨SqL.of (r4.exM _ _ ha), SqL.of (r4.exM _ _ hb), q M4 _ _ (((sm1.trans sm2).trans sm3).trans sm4) r4 (wk_zipL ha hA hb hB)⟩⟩
      · cases k2' with
        | tup ha hA =>
          cases k4 with
          | tup hb hB => exact ⟨_, _, _, _, rfl, Or.inr ⟨sqT_mono (fun o z _ => r4.exM _ o z) ha, sqT_mono (fun o z _ => r4.exM _ o z) hb, q M4 _ _ (((sm1.trans sm2).trans sm3).trans sm4) r4 (wk_zipT ha hA hb hB)⟩⟩
    · cases h
end
end
end L3

set_option Elab.async false
set_option linter.all false
set_option maxRecDepth 100000
set_option maxHeartbeats 4000000
/-! statements: the checker and the readings -/
namespace L3
open PySem PySem.Spec PyProof.Rows L2

/-! ### the checker -/
def namesB : List Expr → Option (List (Str × Nat))
  | [] => some []
  | .Name x p :: r => (namesB r).map ((x, p.line) :: ·)
  | _ :: _ => none
def hasCell (sc : Scope) : List Expr → Bool
  | [] => false
  | .Name x _ :: r => (match sc.names.lookup x with
    | some .cell => true
    | _ => false) || hasCell sc r
  | _ :: r => hasCell sc r
def hasOther : List Expr → Bool
  | [] => false
  | .Name _ _ :: r => hasOther r
  | _ :: _ => true
/-- (a, b, ..) = e: stored from the left -/
def noSwap (sc : Scope) (ts : List Expr) : Expr → Bool
  | .Tuple vs _ _ => decide (4 ≤ ts.length) || hasCell sc ts || hasOther ts
  | _ => true
/-- a, b = x, y: stored from the right -/
def swapB2 (sc : Scope) (x : Str) (px : Pos) (y : Str) (py : Pos) (a b : Expr) : Bool :=
  decide (sc.names.lookup x = some .local) && decide (sc.names.lookup y = some .local) && (px.line == py.line) && !(x == y) && !([a, b].all (foldedForSure 8)) && !([a, b].all (constantsAlone 8))
def swapB3 (sc : Scope) (x : Str) (px : Pos) (y : Str) (py : Pos) (z : Str) (pz : Pos) (a b c : Expr) : Bool :=
  decide (sc.names.lookup x = some .local) && decide (sc.names.lookup y = some .local) && decide (sc.names.lookup z = some .local) && (px.line == py.line) && (px.line == pz.line) && !(x == y) && !(x == z) && !(y == z) &&
    !([a, b, c].all (foldedForSure 8)) && !([a, b, c].all (constantsAlone 8))
section
variable (N : List Str) (tb : Nat → Option Def) (rk : RK) (io : List Nat) (sc : Scope)
mutual
def chkS : S → Stmt → Bool
  | .asg i e, st => match st with
    | .Assign [.Name x _] v _ => stoB sc N x i && !io.contains i && plainE v && chkE N tb sc e v
    | _ => false
  | .asgO i e, st => match st with
    | .Assign [.Name x _] v _ => stoB sc N x i && !io.contains i && plainE v && chkE N tb sc e v && fr e
    | _ => false
  | .asgT t e, st => match st with
    | .Assign [.Tuple ts kk p] v _ => chkTg N sc t (.Tuple ts kk p) && (t.sl.all fun j => !io.contains j) && plainE v && chkE N tb sc e v && noSwap sc ts v
    | _ => false
  | .par is es, st => match st, is with
    | .Assign [.Tuple [.Name x px, .Name y py] _ _] (.Tuple [a, b] _ _) _, [i, j] => stoB sc N x i && stoB sc N y j && !io.contains i && !io.contains j && decide (i ≠ j) && swapB2 sc x px y py a b && chkEs N tb sc es [a, b]
    | .Assign [.Tuple [.Name x px, .Name y py, .Name z pz] _ _] (.Tuple [a, b, c] _ _) _, [i, j, l] => stoB sc N x i && stoB sc N y j && stoB sc N z l && !io.contains i && !io.contains j && !io.contains l && decide (i ≠ j) && decide (i ≠ l) && decide (j ≠ l) &&
        swapB3 sc x px y py z pz a b c && chkEs N tb sc es [a, b, c]
    | _, _ => false
  | .setI i ie e, st => match st with
    | .Assign [.Subscript (.Name x _) y _] v _ => slotB sc N x i && plainE y && chkE N tb sc ie y && chkE N tb sc e v
    | _ => false
  | .aug i op e, st => match st with
    | .AugAssign (.Name x _) o v _ => stoB sc N x i && !io.contains i && decide (o = op) && chkE N tb sc e v
    | _ => false
  | .app i e, st => match st with
    | .Expr (.Call (.Attribute (.Name x _) m ap) [v] [] cp) _ => slotB sc N x i && decide (m = ("append" : Str)) && (ap.endLine == cp.line) && plainE v && chkE N tb sc e v
    | _ => false
  | .ext i e, st => match st with
    | .Expr (.Call (.Attribute (.Name x _) m ap) [v] [] cp) _ => slotB sc N x i && decide (m = ("extend" : Str)) && (ap.endLine == cp.line) && plainE v && chkE N tb sc e v
    | _ => false
  | .ex e, st => match st with
    | .Expr v _ => !isComp v && chkE N tb sc e v
    | _ => false
  | .ret e, st => match st with
    | .Return (some v) _ => decide (rk = .sh) && chkE N tb sc e v
    | _ => false
  | .retN, st => match st with
    | .Return none _ => match rk with
      | .io _ => false
      | _ => true
    | _ => false
  | .retF e, st => match st with
    | .Return (some v) _ => decide (rk = .fr) && fr e && chkE N tb sc e v
    | _ => false
  | .retO i, st => match st with
    | .Return (some (.Name x _)) _ => decide (rk = .fr) && !io.contains i && slotB sc N x i
    | _ => false
  | .retI i, st => match st with
    | .Return (some (.Name x _)) _ => decide (rk = .io i) && slotB sc N x i
    | _ => false
  | .ite c a b, st => match st with
    | .If x y z _ => chkE N tb sc c x && chkSs a y && chkSs b z
    | _ => false
  | .for t it b, st => match st with
    | .For tg i y [] _ => chkTg N sc t tg && (t.sl.all fun j => !io.contains j) && chkIt N tb sc it i tg && chkSs b y
    | _ => false
  | .whl c b, st => match st with
    | .While x y [] _ => chkE N tb sc c x && chkSs b y
    | _ => false
  | .brk, st => match st with
    | .Break _ => true
    | _ => false
  | .cnt, st => match st with
    | .Continue _ => true
    | _ => false
  | .pass, st => match st with
    | .Pass _ => true
    | .Expr (.Constant (.str _) _ _) _ => true
    | _ => false
  | .never, _ => true
def chkSs : Ss → List Stmt → Bool
  | .nil, l => match l with
    | [] => true
    | _ => false
  | .cons a r, l => match l with
    | st :: q => chkS a st && chkSs r q
    | _ => false
end
end

/-! ### readings -/
def KeepIo (io : List Nat) (σ σ' : L2.St) : Prop := ∀ i ∈ io, σ'[i]? = σ[i]?
theorem KeepIo.refl {io : List Nat} (σ : L2.St) : KeepIo io σ σ := fun _ _ => rfl
theorem KeepIo.trans {io : List Nat} {a b c : L2.St} (h : KeepIo io a b) (g : KeepIo io b c) : KeepIo io a c := fun i hi => (g i hi).trans (h i hi)
section
variable (K : PySem.W.Frag) (rk : RK) (io : List Nat)
def EndR (B M0 M : Hp) (σ : L2.St) (Dn : Ends) : Fl → Prop
  | .nx s => ∀ M' σ' H', Same M M' → Rel K B M0 M' s σ' H' → KeepIo io σ σ' → Dn.nx σ' H'
  | .bk s => ∀ M' σ' H', Same M M' → Rel K B M0 M' s σ' H' → KeepIo io σ σ' → Dn.bk σ' H'
  | .ct s => ∀ M' σ' H', Same M M' → Rel K B M0 M' s σ' H' → KeepIo io σ σ' → Dn.ct σ' H'
  | .rt d s => ∀ v M' σ' H', Same M M' → RetR K rk B M0 M' s σ' H' v d → KeepIo io σ σ' → Dn.rt v H'
  | .bad => False
def TSt (f : Sls → Fl) : TS := fun Dn σ H => ∃ B M0 M sl, Rel K B M0 M sl σ H ∧ EndR K rk io B M0 M σ Dn (f sl)
end
section
variable {K : PySem.W.Frag} {rk : RK} {io : List Nat} {B M0 M M' : Hp} {σ σ' : L2.St} {Dn Dn' : Ends}
theorem EndR.mono {f : Fl} (h : EndR K rk io B M0 M σ Dn f) (s : Same M M') (k : KeepIo io σ σ') : EndR K rk io B M0 M' σ' Dn f := by
  cases f with
  | nx sl => exact fun M2 σ2 H2 s2 r k2 => h M2 σ2 H2 (s.trans s2) r (k.trans k2)
  | bk sl => exact fun M2 σ2 H2 s2 r k2 => h M2 σ2 H2 (s.trans s2) r (k.trans k2)
  | ct sl => exact fun M2 σ2 H2 s2 r k2 => h M2 σ2 H2 (s.trans s2) r (k.trans k2)
  | rt d sl => exact fun v M2 σ2 H2 s2 r k2 => h v M2 σ2 H2 (s.trans s2) r (k.trans k2)
  | bad => exact h
theorem ts_next {f : Sls → Fl} {σ : L2.St} {H : Hp} (hf : ∀ s, f s = .nx s) (h : TSt K rk io f Dn σ H) : tNext Dn σ H := by
  obtain ⟨B, M0, M, sl, r, e⟩ := h
  rw [hf] at e
  exact e M σ H (Same.refl _) r (KeepIo.refl _)
theorem ts_seq {f g : Sls → Fl} {σ : L2.St} {H : Hp} (h : TSt K rk io (fun s => match f s with
    | .nx s1 => g s1
    | z => z) Dn σ H) : tSeq (TSt K rk io f) (TSt K rk io g) Dn σ H := by
  obtain ⟨B, M0, M, sl, r, e⟩ := h
  refine ⟨B, M0, M, sl, r, ?_⟩
  simp only at e
  cases hf : f sl with
  | nx s1 =>
    rw [hf] at e
    exact fun M' σ' H' sm r' k => ⟨B, M0, M', s1, r', e.mono sm k⟩
  | bk s1 => rw [hf] at e; exact e
  | ct s1 => rw [hf] at e; exact e
  | rt d s1 => rw [hf] at e; exact e
  | bad => rw [hf] at e; exact e.elim
theorem ts_if {fc : Sls → R Bool} {f g : Sls → Fl} {σ : L2.St} {H : Hp} (h : TSt K rk io (fun s => (fc s).thn fun t s => if t then f s else g s) Dn σ H) :
    tIfS (Tt K fc) (TSt K rk io f) (TSt K rk io g) Dn σ H := by
  obtain ⟨B, M0, M, sl, r, e⟩ := h
  simp only at e
  cases hc : fc sl with
  | bad => rw [hc] at e; exact e.elim
  | ok b s1 =>
    rw [hc] at e
    refine ⟨B, M0, M, sl, b, s1, r, hc, fun M1 H1 sm1 r1 => ?_⟩
    cases b with
    | true => exact ⟨B, M0, M1, s1, r1, EndR.mono e sm1 (KeepIo.refl _)⟩
    | false => exact ⟨B, M0, M1, s1, r1, EndR.mono e sm1 (KeepIo.refl _)⟩
theorem keep_set {i : Nat} {x : Option V} {σ : L2.St} (h : io.contains i = false) : KeepIo io σ (σ.set i x) := fun j hj => by
  rw [List.getElem?_set_ne]
  rintro rfl
  rw [List.contains_eq_mem, decide_eq_false_iff_not] at h
  exact h hj
/-- a statement that goes on from an answer -/
theorem ts_val {f : Sls → R D} {b : Bool} {k : D → Sls → Fl} {σ : L2.St} {H : Hp} {Q : VK} (h : TSt K rk io (fun s => (f s).thn k) Dn σ H)
    (hq : ∀ B M0 M d sl, EndR K rk io B M0 M σ Dn (k d sl) → ∀ M' v H', Same M M' → Res K b B M0 M' sl σ H' v d → Q v H') : T K b f σ H Q := by
  obtain ⟨B, M0, M, sl, r, e⟩ := h
  simp only at e
  cases hc : f sl with
  | bad => rw [hc] at e; exact e.elim
  | ok d s1 =>
    rw [hc] at e
    exact ⟨B, M0, M, sl, d, s1, r, hc, fun M' v H' sm rs => hq B M0 M d s1 e M' v H' sm rs⟩
theorem ts_asg {f : Sls → R D} {b : Bool} {i : Nat} {σ : L2.St} {H : Hp} (hi : io.contains i = false) (h : TSt K rk io (fun s => (f s).thn fun d s => .nx (s.set i (.sh d))) Dn σ H) :
    tAsg (T K b f) (gName i) Dn σ H := by
  refine ts_val h fun B M0 M d sl e M' v H' sm rs => ?_
  obtain ⟨M2, sm2, r2, h2⟩ := rs.shared
  exact e M2 _ H' (sm.trans sm2) (r2.setSh i h2) (keep_set hi)
theorem ts_asgO {f : Sls → R D} {i : Nat} {σ : L2.St} {H : Hp} (hi : io.contains i = false) (h : TSt K rk io (fun s => (f s).thn fun d s => match d with
    | .list xs => .nx (s.set i (.ow (.l xs)))
    | _ => .bad) Dn σ H) : tAsg (T K true f) (gName i) Dn σ H := by
  refine ts_val h fun B M0 M d sl e M' v H' sm rs => ?_
  rcases rs with ⟨nl, _, _⟩ | ⟨a, vs, ds, rfl, rfl, r2, hb, hm, hA⟩
  · cases d with
    | list xs => exact absurd rfl (nl rfl xs)
    | _ => exact e.elim
  · exact e M' _ H' sm (r2.setOw hb hm i (o := .l ds) hA) (keep_set hi)
theorem ts_asgT {f : Sls → R D} {t : Tg} {σ : L2.St} {H : Hp} (hi : ∀ j ∈ t.sl, io.contains j = false) (h : TSt K rk io (fun s => (f s).thn fun d s => match asgTg t d s with
    | some s1 => .nx s1
    | none => .bad) Dn σ H) : tAsg (T K false f) (Tgt K t) Dn σ H := by
  refine ts_val h fun B M0 M d sl e M' v H' sm rs => ?_
  obtain ⟨M2, sm2, r2, h2⟩ := rs.shared
  split at e
  · rename_i s1 hs
    refine ⟨B, M0, M2, sl, d, s1, r2, h2, hs, fun σ' r3 kp => e M2 σ' H' (sm.trans sm2) r3 fun j hj => kp j fun z => ?_⟩
    have := hi j z
    rw [List.contains_eq_mem, decide_eq_false_iff_not] at this
    exact this hj
  · exact e.elim
theorem ts_ret {f : Sls → R D} {b : Bool} {σ : L2.St} {H : Hp} (h : TSt K .sh io (fun s => (f s).thn fun d s => .rt d s) Dn σ H) : tRet (T K b f) Dn σ H := by
  refine ts_val h fun B M0 M d sl e M' v H' sm rs => ?_
  obtain ⟨M2, sm2, r2, h2⟩ := rs.shared
  exact e v M2 σ H' (sm.trans sm2) ⟨r2, h2⟩ (KeepIo.refl _)
theorem ts_retF {f : Sls → R D} {σ : L2.St} {H : Hp} (h : TSt K .fr io (fun s => (f s).thn fun d s => .rt d s) Dn σ H) : tRet (T K true f) Dn σ H :=
  ts_val h fun B M0 M d sl e M' v H' sm rs => e v M' σ H' sm rs (KeepIo.refl _)
theorem ts_ex {f : Sls → R D} {b : Bool} {σ : L2.St} {H : Hp} (h : TSt K rk io (fun s => (f s).thn fun d s => .nx s) Dn σ H) : tDrop (T K b f) Dn σ H := by
  refine ts_val h fun B M0 M d sl e M' v H' sm rs => ?_
  obtain ⟨M2, sm2, r2, h2⟩ := rs.shared
  exact e M2 σ H' (sm.trans sm2) r2 (KeepIo.refl _)
theorem set_self {σ : L2.St} {i : Nat} {x : Option V} (h : σ[i]? = some x) : σ.set i x = σ := by
  apply List.ext_getElem?
  intro j
  by_cases hj : i = j
  · subst hj
    rw [List.getElem?_set_self (List.getElem?_eq_some_iff.mp h).1, h]
  · rw [List.getElem?_set_ne hj]
/-- an own list goes out of its slot -/
theorem Rel.give {s : Sls} {H : Hp} (r : Rel K B M0 M s σ H) {i : Nat} {ds : List D} (e : s[i]? = some (.ow (.l ds))) :
    ∃ a vs, σ[i]? = some (some (.ref a)) ∧ B a = none ∧ M a = none ∧ HdA K M vs ds ∧ Rel K (upd B a (.lst vs)) M0 M (s.set i .un) σ H := by
  obtain ⟨a, ho, e1, e2, e3, e4, e5⟩ := r.ow e
  cases ho <;> first | exact e5.elim | skip
  rename_i vs
  have r1 := r.drop i (some (.ref a))
  rw [set_self e1] at r1
  refine ⟨a, vs, e1, e4, e3, e5, r1.len, fun b o q => ?_, r1.exM, r1.m0, fun b o q => ?_, fun j x q => ?_, r1.inj⟩
  · by_cases hb : b = a
    · subst hb
      rw [upd_same] at q
      cases q
      exact e2
    · rw [upd_ne hb] at q
      exact r1.exB b o q
  · have hb : b ≠ a := ne_of_none q e3
    rw [upd_ne hb]
    exact r1.mb b o q
  · have q2 := r1.slot j x q
    cases x with
    | un => trivial
    | sh d => exact q2
    | sc ns => exact q2
    | ow oj =>
      obtain ⟨b, h, q3, q4, q5, q6, q7⟩ := q2
      refine ⟨b, h, q3, q4, q5, ?_, q7⟩
      have hb : b ≠ a := by
        rintro rfl
        rcases get_set q with ⟨_, z⟩ | ⟨ne, q'⟩
        · cases z
        · exact ne (r.inj j i oj _ b q' e (getD_some q3) e1)
      rw [upd_ne hb]
      exact q6
theorem ts_retO {i : Nat} {σ : L2.St} {H : Hp} (h : TSt K .fr io (fun s => match s[i]? with
    | some (.ow (.l xs)) => .rt (.list xs) (s.set i .un)
    | _ => .bad) Dn σ H) : tRet (tVar i) Dn σ H := by
  obtain ⟨B, M0, M, sl, r, e⟩ := h
  simp only at e
  split at e
  · rename_i xs hs
    obtain ⟨a, vs, e1, hb, hm, hA, r2⟩ := r.give hs
    exact ⟨_, e1, e _ M σ H (Same.refl _) (Or.inr ⟨a, vs, xs, rfl, rfl, r2, hb, hm, hA⟩) (KeepIo.refl _)⟩
  · exact e.elim
theorem ts_retI {i : Nat} {σ : L2.St} {H : Hp} (h : TSt K (.io i) io (fun s => match s[i]? with
    | some (.ow _) => .rt .none s
    | _ => .bad) Dn σ H) : tRet (tVar i) Dn σ H := by
  obtain ⟨B, M0, M, sl, r, e⟩ := h
  simp only at e
  split at e
  · rename_i xs hs
    obtain ⟨a, ho, e1, _⟩ := r.ow hs
    exact ⟨_, e1, e _ M σ H (Same.refl _) ⟨r, e1⟩ (KeepIo.refl _)⟩
  · exact e.elim
theorem ts_retN {σ : L2.St} {H : Hp} (hk : ∀ j, rk ≠ .io j) (h : TSt K rk io (fun s => .rt .none s) Dn σ H) : tRetN Dn σ H := by
  obtain ⟨B, M0, M, sl, r, e⟩ := h
  refine e .non M σ H (Same.refl _) ?_ (KeepIo.refl _)
  cases rk with
  | sh => exact ⟨r, .non⟩
  | fr => exact Or.inl ⟨(by intro _ _ z; cases z), r, .non⟩
  | io j => exact absurd rfl (hk j)
end
end L3

set_option Elab.async false
set_option linter.all false
set_option maxRecDepth 100000
set_option maxHeartbeats 4000000
/-! statements: stores, loops -/
namespace L3
open PySem PySem.Spec PyProof.Rows L2

theorem sw_no {e : Expr} (h : isComp e = false) (t : Option Expr) (l : Nat) (env : Env) : swapsWith e t l env = pure false := by
  cases e <;> first | rfl | cases h
theorem sw_tup {e : Expr} {es : List Expr} {kk : Nat} {p : Pos} {l : Nat} {env : Env} : swapsWith e (some (.Tuple es kk p)) l env = pure false := by
  cases e <;> rfl
theorem sw_sub {e a b : Expr} {p : Pos} {l : Nat} {env : Env} : swapsWith e (some (.Subscript a b p)) l env = pure false := by
  cases e <;> rfl
theorem st_sub {e a b : Expr} {p : Pos} {env : Env} : swappedStores [.Subscript a b p] e env = pure none := by
  cases e <;> rfl
theorem noStar_of {e : Expr} (h : plainE e = true) : (match e with | .Starred .. => true | _ => false) = false := by
  cases e <;> first | rfl | cases h

section
variable {X : Cx} {k : Nat} {tb : Nat → Option Def} {Φ : Nat → Sem1} {sc : Scope}
/-- name = e -/
theorem asg_name (G : Good X k tb Φ sc) {c : E} {v : Expr} {x : Str} {i : Nat} {p spos : Pos} (hs : stoB sc X.N x i = true) (h : chkE X.N tb sc c v = true) :
    PS X (.Assign [.Name x p] v spos) (tAsg (T X.K (fr c) (ev Φ c)) (gName i)) := by
  obtain ⟨h1, h2, h3⟩ := G.sto hs
  cases hv : isComp v with
  | false => exact ps_set G.nd h1 h2 (soundE c G _ h).v (sw_no hv _ _ _) h3
  | true =>
    cases v <;> first | cases hv | skip
    · rename_i elt gens scope pos
      cases c <;> first | (simp only [chkE] at h; cases h) | skip
      rename_i own t it cond el
      have h0 := h
      unfold chkE at h
      split at h
      · rename_i x1 tg iter ifs scope1 pos1 heq
        cases heq
        have hsw : ∃ b : Bool, swapsWith (.ListComp elt [⟨tg, iter, ifs, 0⟩] scope pos) (some (.Name x p)) spos.line X.env = pure b ∧ (b = true → X.env.scope.names.lookup x = some .local) := by
          refine ⟨_, rfl, fun hb => ?_⟩
          simp only [Bool.and_eq_true] at hb
          have := hb.1.1.2
          exact eq_of_beq this
        obtain ⟨b, hb, hb2⟩ := hsw
        cases b with
        | false => exact ps_set G.nd h1 h2 (soundE _ G _ h0).v hb h3
        | true =>
          simp only [Bool.and_eq_true] at h
          obtain ⟨⟨⟨⟨⟨h1', h2'⟩, h3'⟩, h4'⟩, h5'⟩, h6'⟩ := h
          have ok := blkOk_by h2'
          obtain ⟨I1, I2⟩ := soundIt it G _ _ h1'
          refine ps_imp (ps_setLc (g := Tgt X.K t) (tt := Tt X.K (evc Φ cond)) (te := T X.K false (ev Φ el)) G.calm G.nd h1 (hb2 rfl) hb I1 (blkOk_env G ok) (fun s H C cl fp => ?_) (fun s H C cl fp => ?_) (fun s H C cl fp => ?_) I2) fun Dn σ H q => ?_
          · exact soundTg (G.blk ok (fun x z => (G.cell x z).1) s H C cl fp) t tg h3'
          · have GB := G.blk ok (fun x z => (G.cell x z).1) s H C cl fp
            split at h5'
            · exact (soundO cond GB _ h5').2.2 rfl
            · exact (soundO cond GB _ h5').2.1 _ rfl
            · cases h5'
          · exact pe_imp (soundE el (G.blk ok (fun x z => (G.cell x z).1) s H C cl fp) _ h6').v fun σ H Q q => T.weak q
          · refine T_lc (fun j hj => ?_) q
            exact List.contains_iff_mem.mp (List.all_eq_true.mp h4' j hj)
      · cases h
    · cases c <;> (simp only [chkE] at h; cases h)
    · cases c <;> (simp only [chkE] at h; cases h)

variable {K : PySem.W.Frag} {rk : RK} {io : List Nat} {B M0 M M' : Hp} {σ σ' : L2.St} {Dn Dn' : Ends}
theorem isOw_ow {s : Sls} {i : Nat} (h : isOw s i = true) : ∃ o, s[i]? = some (.ow o) := by
  unfold isOw at h
  split at h
  · exact ⟨_, by assumption⟩
  · cases h
theorem isOwL_ow {s : Sls} {i : Nat} (h : isOwL s i = true) : ∃ o, s[i]? = some (.ow (.l o)) := by
  unfold isOwL at h
  split at h
  · exact ⟨_, by assumption⟩
  · cases h
theorem ts_setI {f g : Sls → R D} {i : Nat} {H : Hp} (h : TSt K rk io (fun s => (f s).thn fun d s => if isOw s i then (g s).thn fun kd s => match s[i]? with
    | some (.ow o) => match putAt o kd d with
      | some o1 => .nx (s.set i (.ow o1))
      | none => .bad
    | _ => .bad
    else .bad) Dn σ H) : tAsg (T K false f) (gSub (tVar i) (T K false g) rSetL) Dn σ H := by
  refine ts_val h fun B M0 M d s1 e M1 v H1 sm1 rs1 => ?_
  obtain ⟨M2, sm2, r2, hd⟩ := rs1.shared
  split at e
  · rename_i how
    obtain ⟨o0, ho0⟩ := isOw_ow how
    obtain ⟨a, _, ea, _⟩ := r2.ow ho0
    refine ⟨_, ea, ?_⟩
    cases hg : g s1 with
    | bad => rw [hg] at e; exact e.elim
    | ok kd s2 =>
      rw [hg] at e
      simp only [thn_ok] at e
      refine ⟨B, M0, M2, s1, kd, s2, r2, hg, fun M3 w H3 sm3 rs3 => ?_⟩
      obtain ⟨M4, sm4, r4, hk⟩ := rs3.shared
      split at e
      · rename_i o ho
        split at e
        · rename_i o1 hp
          unfold putAt at hp
          split at hp
          · rename_i xs kk
            rw [Option.map_eq_some_iff] at hp
            obtain ⟨j, hj, rfl⟩ := hp
            obtain ⟨b, hob, eb, h2, h3, h4, h5⟩ := r4.ow ho
            rw [ea] at eb
            cases eb
            cases hob <;> first | exact h5.elim | skip
            rename_i vs
            cases hk
            have hA : HdA K M4 vs xs := h5
            refine ⟨a, vs, kk, j, rfl, rfl, h2, by rw [hA.length]; exact hj, ?_⟩
            refine e M4 σ _ (((sm1.trans sm2).trans sm3).trans sm4) (r4.write ho ea (o' := .l (xs.set j d)) ?_) (KeepIo.refl _)
            exact hA.set j (Hd.mono (sm3.trans sm4) _ _ hd)
          · cases hp
        · exact e.elim
      · exact e.elim
  · exact e.elim
theorem ts_aug {f : Sls → R D} {i : Nat} {op : Operator} {H : Hp} (hi : io.contains i = false) (h : TSt K rk io (fun s => match s[i]? with
    | some (.sh (.int x)) => (f s).thn fun d s => match d with
      | .int y => if op = .Add then .nx (s.set i (.sh (.int (x + y)))) else if op = .Sub then .nx (s.set i (.sh (.int (x - y)))) else .bad
      | _ => .bad
    | _ => .bad) Dn σ H) : (op = .Add ∧ tAug i (T K false f) (ipI fun i j => i + j) Dn σ H) ∨ (op = .Sub ∧ tAug i (T K false f) (ipI fun i j => i - j) Dn σ H) := by
  obtain ⟨B, M0, M, sl, r, e⟩ := h
  simp only at e
  split at e
  · rename_i x hs
    obtain ⟨w, hw, hwd⟩ := r.sh hs
    cases hwd
    cases hf : f sl with
    | bad => rw [hf] at e; exact e.elim
    | ok d s1 =>
      rw [hf] at e
      simp only [thn_ok] at e
      cases d with
      | int y =>
        simp only at e
        split at e
        · rename_i ho
          refine Or.inl ⟨ho, _, hw, B, M0, M, sl, _, s1, r, hf, fun M1 v H1 sm1 rs1 => ?_⟩
          obtain ⟨M2, sm2, r2, hd⟩ := rs1.shared
          cases hd
          exact ⟨x, y, rfl, rfl, e M2 _ _ (sm1.trans sm2) (r2.setSh i (.int _)) (keep_set hi)⟩
        · split at e
          · rename_i ho
            refine Or.inr ⟨ho, _, hw, B, M0, M, sl, _, s1, r, hf, fun M1 v H1 sm1 rs1 => ?_⟩
            obtain ⟨M2, sm2, r2, hd⟩ := rs1.shared
            cases hd
            exact ⟨x, y, rfl, rfl, e M2 _ _ (sm1.trans sm2) (r2.setSh i (.int _)) (keep_set hi)⟩
          · exact e.elim
      | _ => exact e.elim
  · exact e.elim
theorem ts_app {f : Sls → R D} {i : Nat} {H : Hp} (h : TSt K rk io (fun s => if isOwL s i then (f s).thn fun d s => match s[i]? with
    | some (.ow (.l xs)) => if fitN (xs.length + 1) then .nx (s.set i (.ow (.l (xs ++ [d])))) else .bad
    | _ => .bad
    else .bad) Dn σ H) : tDrop (tBM K "list" rAppend (tVar i) (tCons (T K false f) tNil)) Dn σ H := by
  obtain ⟨B, M0, M, sl, r, e⟩ := h
  simp only at e
  split at e
  · rename_i how
    obtain ⟨o0, ho0⟩ := isOwL_ow how
    obtain ⟨a, hob, ea, hh, _, _, h5⟩ := r.ow ho0
    cases hob <;> first | exact h5.elim | skip
    refine ⟨_, ea, Or.inl ⟨rfl, _, SqL.of hh⟩, ?_⟩
    cases hg : f sl with
    | bad => rw [hg] at e; exact e.elim
    | ok d s2 =>
      rw [hg] at e
      simp only [thn_ok] at e
      refine ⟨B, M0, M, sl, d, s2, r, hg, fun M3 w H3 sm3 rs3 => ?_⟩
      obtain ⟨M4, sm4, r4, hd⟩ := rs3.shared
      split at e
      · rename_i xs ho
        split at e
        · rename_i hfit
          obtain ⟨b, hob2, eb, h2, h3, h4, h5'⟩ := r4.ow ho
          rw [ea] at eb
          cases eb
          cases hob2 <;> first | exact h5'.elim | skip
          rename_i vs
          have hA : HdA K M4 vs xs := h5'
          have hfl := fit_le hfit
          refine ⟨a, vs, w, rfl, rfl, h2, by rw [hA.length]; omega, ?_⟩
          refine e M4 σ _ (sm3.trans sm4) (r4.write ho ea (o' := .l (xs ++ [d])) ?_) (KeepIo.refl _)
          exact hA.append (.cons hd .nil)
        · exact e.elim
      · exact e.elim
  · exact e.elim
theorem ts_ext {f : Sls → R D} {i : Nat} {H : Hp} (h : TSt K rk io (fun s => if isOwL s i then (f s).thn fun d s => match s[i]?, d with
    | some (.ow (.l xs)), .list ys => if fitN (xs.length + ys.length) then .nx (s.set i (.ow (.l (xs ++ ys)))) else .bad
    | _, _ => .bad
    else .bad) Dn σ H) : tDrop (tBM K "list" rExtend (tVar i) (tCons (T K false f) tNil)) Dn σ H := by
  obtain ⟨B, M0, M, sl, r, e⟩ := h
  simp only at e
  split at e
  · rename_i how
    obtain ⟨o0, ho0⟩ := isOwL_ow how
    obtain ⟨a, hob, ea, hh, _, _, h5⟩ := r.ow ho0
    cases hob <;> first | exact h5.elim | skip
    refine ⟨_, ea, Or.inl ⟨rfl, _, SqL.of hh⟩, ?_⟩
    cases hg : f sl with
    | bad => rw [hg] at e; exact e.elim
    | ok d s2 =>
      rw [hg] at e
      simp only [thn_ok] at e
      refine ⟨B, M0, M, sl, d, s2, r, hg, fun M3 w H3 sm3 rs3 => ?_⟩
      obtain ⟨M4, sm4, r4, hd⟩ := rs3.shared
      split at e
      · rename_i xs ys ho
        split at e
        · rename_i hfit
          obtain ⟨b, hob2, eb, h2, h3, h4, h5'⟩ := r4.ow ho
          rw [ea] at eb
          cases eb
          cases hob2 <;> first | exact h5'.elim | skip
          rename_i vs
          have hA : HdA K M4 vs xs := h5'
          have hfl := fit_le hfit
          cases hd with
          | lst hb hB =>
            refine ⟨a, _, vs, _, rfl, rfl, h2, r4.exM _ _ hb, by rw [hA.length, hB.length]; exact hfl, ?_⟩
            refine e M4 σ _ (sm3.trans sm4) (r4.write ho ea (o' := .l (xs ++ ys)) ?_) (KeepIo.refl _)
            exact hA.append hB
        · exact e.elim
      · exact e.elim
  · exact e.elim

/-! ### loops -/
theorem ts_for {gi : Sls → R (List D)} {t : Tg} {fb : Sls → Fl} {H : Hp} (hi : ∀ j ∈ t.sl, io.contains j = false) (h : TSt K rk io (fun s => (gi s).thn fun items s => forL (fun d s => match asgTg t d s with
      | some s1 => fb s1
      | none => .bad) items s) Dn σ H) : tFor (Ti K gi) (Tgt K t) (TSt K rk io fb) Dn σ H := by
  obtain ⟨B, M0, M, sl, r, e⟩ := h
  simp only at e
  cases hg : gi sl with
  | bad => rw [hg] at e; exact e.elim
  | ok items s0 =>
    rw [hg] at e
    simp only [thn_ok] at e
    refine ⟨B, M0, M, sl, items, s0, r, hg, fun M1 J H1 sm1 r1 wk => ?_⟩
    refine ⟨fun i m σ2 H2 => m = items.length - i ∧ i ≤ items.length ∧ KeepIo io σ σ2 ∧ ∃ M2 s, Same M1 M2 ∧ Rel K B M0 M2 s σ2 H2 ∧ EndR K rk io B M0 M2 σ2 Dn (forL _ (items.drop i) s),
      ⟨items.length, by simp, Nat.zero_le _, KeepIo.refl _, M1, s0, Same.refl _, r1, EndR.mono e sm1 (KeepIo.refl _)⟩, ?_⟩
    rintro i m σ2 H2 ⟨rfl, hile, kp, M2, s, sm2, r2, e5⟩
    have sH : Same M1 H2 := sm2.trans r2.exM
    by_cases hlt : i < items.length
    · refine Or.inr ⟨wk.1 i H2 hlt sH, fun σ3 H3 => KeepIo io σ σ3 ∧ ∃ M3 s3, Same M1 M3 ∧ Rel K B M0 M3 s3 σ3 H3 ∧ EndR K rk io B M0 M3 σ3 Dn (forL _ (items.drop (i + 1)) s3),
        fun σ3 H3 z => ⟨items.length - (i + 1), by omega, rfl, hlt, z⟩, fun x H3 hy => ?_⟩
      obtain ⟨M3, d, sm3, r3, hd, hx⟩ := wk.2.2 i H2 x H3 hlt sH hy sm2 r2
      rw [List.drop_eq_getElem_cons hlt] at e5
      have ed : items[i] = d := by
        rw [List.getElem?_eq_getElem hlt] at hd
        exact Option.some.inj hd
      rw [ed] at e5
      simp only [forL] at e5
      split at e5
      case h_1 s1 hs1 =>
        split at hs1
        · rename_i sa has
          refine ⟨B, M0, M3, s, d, sa, r3, hx, has, fun σ4 r4 kp4 => ⟨B, M0, M3, sa, r4, ?_⟩⟩
          have k4 : KeepIo io σ2 σ4 := fun j hj => kp4 j fun z => by
            have := hi j z
            rw [List.contains_eq_mem, decide_eq_false_iff_not] at this
            exact this hj
          rw [hs1]
          exact fun M5 σ5 H5 sm5 r5 k5 => ⟨(kp.trans k4).trans k5, M5, s1, (sm2.trans sm3).trans sm5, r5, EndR.mono e5 (sm3.trans sm5) (k4.trans k5)⟩
        · cases hs1
      case h_2 s1 hs1 =>
        split at hs1
        · rename_i sa has
          refine ⟨B, M0, M3, s, d, sa, r3, hx, has, fun σ4 r4 kp4 => ⟨B, M0, M3, sa, r4, ?_⟩⟩
          have k4 : KeepIo io σ2 σ4 := fun j hj => kp4 j fun z => by
            have := hi j z
            rw [List.contains_eq_mem, decide_eq_false_iff_not] at this
            exact this hj
          rw [hs1]
          exact fun M5 σ5 H5 sm5 r5 k5 => ⟨(kp.trans k4).trans k5, M5, s1, (sm2.trans sm3).trans sm5, r5, EndR.mono e5 (sm3.trans sm5) (k4.trans k5)⟩
        · cases hs1
      case h_3 s1 hs1 =>
        split at hs1
        · rename_i sa has
          refine ⟨B, M0, M3, s, d, sa, r3, hx, has, fun σ4 r4 kp4 => ⟨B, M0, M3, sa, r4, ?_⟩⟩
          have k4 : KeepIo io σ2 σ4 := fun j hj => kp4 j fun z => by
            have := hi j z
            rw [List.contains_eq_mem, decide_eq_false_iff_not] at this
            exact this hj
          rw [hs1]
          exact fun M5 σ5 H5 sm5 r5 k5 => e5 M5 σ5 H5 (sm3.trans sm5) r5 (k4.trans k5)
        · cases hs1
      case h_4 dd s1 hs1 =>
        split at hs1
        · rename_i sa has
          refine ⟨B, M0, M3, s, d, sa, r3, hx, has, fun σ4 r4 kp4 => ⟨B, M0, M3, sa, r4, ?_⟩⟩
          have k4 : KeepIo io σ2 σ4 := fun j hj => kp4 j fun z => by
            have := hi j z
            rw [List.contains_eq_mem, decide_eq_false_iff_not] at this
            exact this hj
          rw [hs1]
          exact fun v M5 σ5 H5 sm5 r5 k5 => e5 v M5 σ5 H5 (sm3.trans sm5) r5 (k4.trans k5)
        · cases hs1
      case h_5 => exact e5.elim
    · have ei : i = items.length := by omega
      subst ei
      rw [List.drop_length] at e5
      exact Or.inl ⟨wk.2.1 H2 sH, e5 M2 σ2 H2 (Same.refl _) r2 (KeepIo.refl _)⟩
theorem ts_whl {fc : Sls → R Bool} {fb : Sls → Fl} {W : Nat} {H : Hp} (h : TSt K rk io (fun s => whlN fc fb W s) Dn σ H) : tWhile (Tt K fc) (TSt K rk io fb) Dn σ H := by
  obtain ⟨B, M0, M, sl, r, e⟩ := h
  simp only at e
  refine ⟨fun m σ2 H2 => ∃ M2 s, Rel K B M0 M2 s σ2 H2 ∧ EndR K rk io B M0 M2 σ2 Dn (whlN fc fb m s), ⟨W, M, sl, r, e⟩, ?_⟩
  rintro m σ2 H2 ⟨M2, s, r2, e2⟩
  cases m with
  | zero => exact e2.elim
  | succ m =>
    simp only [whlN] at e2
    cases hc : fc s with
    | bad => rw [hc] at e2; exact e2.elim
    | ok b s1 =>
      rw [hc] at e2
      simp only [thn_ok] at e2
      refine ⟨B, M0, M2, s, b, s1, r2, hc, fun M3 H3 sm3 r3 => ?_⟩
      cases b with
      | false =>
        rw [if_neg (by decide)] at e2 ⊢
        exact e2 M3 σ2 H3 sm3 r3 (KeepIo.refl _)
      | true =>
        rw [if_pos rfl] at e2 ⊢
        refine ⟨fun σ4 H4 => ∃ M4 s4, Rel K B M0 M4 s4 σ4 H4 ∧ EndR K rk io B M0 M4 σ4 Dn (whlN fc fb m s4), fun σ4 H4 z => ⟨m, by omega, z⟩, B, M0, M3, s1, r3, ?_⟩
        cases hb : fb s1 with
        | nx s2 => rw [hb] at e2; exact fun M5 σ5 H5 sm5 r5 k5 => ⟨M5, s2, r5, EndR.mono e2 (sm3.trans sm5) k5⟩
        | ct s2 => rw [hb] at e2; exact fun M5 σ5 H5 sm5 r5 k5 => ⟨M5, s2, r5, EndR.mono e2 (sm3.trans sm5) k5⟩
        | bk s2 => rw [hb] at e2; exact fun M5 σ5 H5 sm5 r5 k5 => e2 M5 σ5 H5 (sm3.trans sm5) r5 k5
        | rt d s2 => rw [hb] at e2; exact fun v M5 σ5 H5 sm5 r5 k5 => e2 v M5 σ5 H5 (sm3.trans sm5) r5 k5
        | bad => rw [hb] at e2; exact e2.elim
theorem HdA.two {xs : List V} {d e : D} {M : Hp} (h : HdA K M xs [d, e]) : ∃ x y, xs = [x, y] ∧ Hd K M x d ∧ Hd K M y e := by
  cases h with
  | cons h1 h2 =>
    cases h2 with
    | cons h2 h3 =>
      cases h3
      exact ⟨_, _, rfl, h1, h2⟩
theorem HdA.three {xs : List V} {d e f : D} {M : Hp} (h : HdA K M xs [d, e, f]) : ∃ x y z, xs = [x, y, z] ∧ Hd K M x d ∧ Hd K M y e ∧ Hd K M z f := by
  cases h with
  | cons h1 h2 =>
    obtain ⟨x, y, rfl, h3, h4⟩ := HdA.two h2
    exact ⟨_, _, _, rfl, h1, h3, h4⟩
theorem ts_par2 {g : Sls → R (List D)} {i j : Nat} {H : Hp} (hi : io.contains i = false) (hj : io.contains j = false) (h : TSt K rk io (fun s => (g s).thn fun ds s => match setsL [i, j] ds s with
      | some s1 => .nx s1
      | none => .bad) Dn σ H) : tPar i j (Ta K g) Dn σ H := by
  obtain ⟨B, M0, M, sl, r, e⟩ := h
  simp only at e
  cases hg : g sl with
  | bad => rw [hg] at e; exact e.elim
  | ok ds s1 =>
    rw [hg] at e
    simp only [thn_ok] at e
    refine ⟨B, M0, M, sl, ds, s1, r, hg, fun M1 vs H1 sm1 r1 hA => ?_⟩
    split at e
    · rename_i s2 hs
      obtain ⟨d1, d2, rfl⟩ : ∃ d1 d2, ds = [d1, d2] := by
        match ds, hs with
        | [d1, d2], _ => exact ⟨d1, d2, rfl⟩
        | [], hs => simp [setsL] at hs
        | [_], hs => simp [setsL] at hs
        | _ :: _ :: _ :: _, hs => simp [setsL] at hs
      obtain ⟨x, y, rfl, hx, hy⟩ := HdA.two hA
      simp only [setsL, Option.some.injEq] at hs
      subst hs
      exact ⟨x, y, rfl, e M1 _ H1 sm1 ((r1.setSh i hx).setSh j hy) ((keep_set hi).trans (keep_set hj))⟩
    · exact e.elim
theorem ts_par3 {g : Sls → R (List D)} {i j l : Nat} {H : Hp} (hi : io.contains i = false) (hj : io.contains j = false) (hl : io.contains l = false) (h : TSt K rk io (fun s => (g s).thn fun ds s => match setsL [i, j, l] ds s with
      | some s1 => .nx s1
      | none => .bad) Dn σ H) : tPar3 i j l (Ta K g) Dn σ H := by
  obtain ⟨B, M0, M, sl, r, e⟩ := h
  simp only at e
  cases hg : g sl with
  | bad => rw [hg] at e; exact e.elim
  | ok ds s1 =>
    rw [hg] at e
    simp only [thn_ok] at e
    refine ⟨B, M0, M, sl, ds, s1, r, hg, fun M1 vs H1 sm1 r1 hA => ?_⟩
    split at e
    · rename_i s2 hs
      obtain ⟨d1, d2, d3, rfl⟩ : ∃ d1 d2 d3, ds = [d1, d2, d3] := by
        match ds, hs with
        | [d1, d2, d3], _ => exact ⟨d1, d2, d3, rfl⟩
        | [], hs => simp [setsL] at hs
        | [_], hs => simp [setsL] at hs
        | [_, _], hs => simp [setsL] at hs
        | _ :: _ :: _ :: _ :: _, hs => simp [setsL] at hs
      obtain ⟨x, y, z, rfl, hx, hy, hz⟩ := HdA.three hA
      simp only [setsL, Option.some.injEq] at hs
      subst hs
      exact ⟨x, y, z, rfl, e M1 _ H1 sm1 (((r1.setSh i hx).setSh j hy).setSh l hz) (((keep_set hi).trans (keep_set hj)).trans (keep_set hl))⟩
    · exact e.elim
end
end L3

set_option Elab.async false
set_option linter.all false
set_option maxRecDepth 100000
set_option maxHeartbeats 4000000
/-! statements are sound -/
namespace L3
open PySem PySem.Spec PyProof.Rows L2

theorem fm_len {α β : Type} {F : α → Option β} : ∀ {l : List α}, (l.filterMap F).length = l.length → ∀ e ∈ l, F e ≠ none
  | [], _, e, he => by cases he
  | a :: r, h, e, he => by
    cases hf : F a with
    | none =>
      rw [List.filterMap_cons_none hf] at h
      have := List.length_filterMap_le F r
      simp only [List.length_cons] at h
      omega
    | some b =>
      rw [List.filterMap_cons_some hf] at h
      simp only [List.length_cons] at h
      rcases List.mem_cons.mp he with rfl | he
      · rw [hf]
        intro z
        cases z
      · exact fm_len (by omega) e he
theorem hasCell_of {sc : Scope} : ∀ {ts : List Expr}, hasCell sc ts = true → ∃ x p, Expr.Name x p ∈ ts ∧ sc.names.lookup x = some .cell
  | [], h => by cases h
  | e :: r, h => by
    have go : hasCell sc r = true → ∃ x p, Expr.Name x p ∈ e :: r ∧ sc.names.lookup x = some .cell := fun h => by
      obtain ⟨x, p, h1, h2⟩ := hasCell_of h
      exact ⟨x, p, List.mem_cons_of_mem _ h1, h2⟩
    cases e <;> simp only [hasCell] at h <;> first | exact go h | skip
    rename_i x p
    rcases Bool.or_eq_true _ _ ▸ h with h | h
    · split at h
      · exact ⟨x, p, List.mem_cons_self, by assumption⟩
      · cases h
    · exact go h
theorem hasOther_of : ∀ {ts : List Expr}, hasOther ts = true → ∃ e ∈ ts, ∀ x p, e ≠ .Name x p
  | [], h => by cases h
  | e :: r, h => by
    cases e with
    | Name x p =>
      obtain ⟨e, h1, h2⟩ := hasOther_of (ts := r) h
      exact ⟨e, List.mem_cons_of_mem _ h1, h2⟩
    | _ => exact ⟨_, List.mem_cons_self, by intro x p z; cases z⟩
theorem noSwap_ok {sc : Scope} {ts : List Expr} {v : Expr} {k1 : Nat} {p1 : Pos} {env : Env} (hc : ∀ x, sc.names.lookup x = some .cell → env.scope.names.lookup x = some .cell) (h : noSwap sc ts v = true) :
    swappedStores [.Tuple ts k1 p1] v env = pure none := by
  cases v <;> first | rfl | skip
  rename_i vs k2 p2
  simp only [noSwap, Bool.or_eq_true, decide_eq_true_eq] at h
  unfold swappedStores
  dsimp only
  split
  · rfl
  · rename_i h1
    split
    · rfl
    · split
      · rfl
      · rename_i h2
        exfalso
        simp only [Bool.or_eq_true, bne_iff_ne, ne_eq, not_or, Decidable.not_not] at h2
        have key := fm_len h2.1
        rcases h with (h | h) | h
        · simp only [Bool.or_eq_true, Bool.not_eq_true', not_or, Bool.not_eq_false] at h1
          have h3 := h1.1.1
          simp only [Bool.or_eq_true, beq_iff_eq] at h3
          omega
        · obtain ⟨x, p, h3, h4⟩ := hasCell_of h
          have h5 := key _ h3
          have h6 : env.kindOf x = some .cell := hc x h4
          simp only [h6] at h5
          exact h5 rfl
        · obtain ⟨e, h3, h4⟩ := hasOther_of h
          have h5 := key _ h3
          cases e <;> first | exact h5 rfl | exact h4 _ _ rfl
theorem swap2_ok {sc : Scope} {x y : Str} {px py p1 p2 : Pos} {a b : Expr} {k1 k2 : Nat} {env : Env} (hk : env.scope.kind = .function) (hl : ∀ x, sc.names.lookup x = some .local → env.scope.names.lookup x = some .local)
    (ha : plainE a = true) (hb : plainE b = true) (h : swapB2 sc x px y py a b = true) :
    swappedStores [.Tuple [.Name x px, .Name y py] k1 p1] (.Tuple [a, b] k2 p2) env = pure (some [x, y]) := by
  simp only [swapB2, Bool.and_eq_true, decide_eq_true_eq, Bool.not_eq_true', beq_iff_eq] at h
  obtain ⟨⟨⟨⟨⟨h1, h2⟩, h3⟩, h4⟩, h5⟩, h6⟩ := h
  have e1 : env.kindOf x = some .local := hl x h1
  have e2 : env.kindOf y = some .local := hl y h2
  have e3 : env.blockKind = .function := by
    unfold Env.blockKind
    rw [hk]
    rfl
  have ns : ∀ {e : Expr}, plainE e = true → (match e with | .Starred .. => true | _ => false) = false := fun {e} h => by cases e <;> first | rfl | cases h
  have hy : (x == y) = false := h4
  have hy2 : (y == x) = false := by
    rw [Bool.eq_false_iff] at hy ⊢
    intro z
    exact hy (by rw [beq_iff_eq] at z ⊢; exact z.symm)
  have e4 : py.line = px.line := h3.symm
  unfold swappedStores
  dsimp only
  rw [if_neg (by simp [e3]), if_neg (by simp [ns ha, ns hb]; exact ⟨ns ha, ns hb⟩)]
  simp only [List.filterMap_cons, List.filterMap_nil, e1, e2, e4, List.head?_cons, Option.map_some, Option.getD_some, beq_self_eq_true, Bool.and_self, if_true, Expr.pos]
  rw [if_neg (by simp [List.eraseDups_cons, hy2]), if_neg (by rw [h5]; decide), if_neg (by rw [h6]; decide)]
theorem swap3_ok {sc : Scope} {x y z : Str} {px py pz p1 p2 : Pos} {a b c : Expr} {k1 k2 : Nat} {env : Env} (hk : env.scope.kind = .function) (hl : ∀ x, sc.names.lookup x = some .local → env.scope.names.lookup x = some .local)
    (ha : plainE a = true) (hb : plainE b = true) (hc : plainE c = true) (h : swapB3 sc x px y py z pz a b c = true) :
    swappedStores [.Tuple [.Name x px, .Name y py, .Name z pz] k1 p1] (.Tuple [a, b, c] k2 p2) env = pure (some [x, y, z]) := by
  simp only [swapB3, Bool.and_eq_true, decide_eq_true_eq, Bool.not_eq_true', beq_iff_eq] at h
  obtain ⟨⟨⟨⟨⟨⟨⟨⟨⟨h1, h2⟩, h2'⟩, h3⟩, h3'⟩, h4⟩, h4'⟩, h4''⟩, h5⟩, h6⟩ := h
  have e1 : env.kindOf x = some .local := hl x h1
  have e2 : env.kindOf y = some .local := hl y h2
  have e2' : env.kindOf z = some .local := hl z h2'
  have e3 : env.blockKind = .function := by
    unfold Env.blockKind
    rw [hk]
    rfl
  have ns : ∀ {e : Expr}, plainE e = true → (match e with | .Starred .. => true | _ => false) = false := fun {e} h => by cases e <;> first | rfl | cases h
  have sy : ∀ {x y : Str}, (x == y) = false → (y == x) = false := fun {x y} hy => by
    rw [Bool.eq_false_iff] at hy ⊢
    intro z
    exact hy (by rw [beq_iff_eq] at z ⊢; exact z.symm)
  have e4 : py.line = px.line := h3.symm
  have e5 : pz.line = px.line := h3'.symm
  unfold swappedStores
  dsimp only
  rw [if_neg (by simp [e3]), if_neg (by simp [ns ha, ns hb, ns hc]; exact ⟨ns ha, ns hb, ns hc⟩)]
  simp only [List.filterMap_cons, List.filterMap_nil, e1, e2, e2', e4, e5, List.head?_cons, Option.map_some, Option.getD_some, beq_self_eq_true, Bool.and_self, if_true, Expr.pos]
  rw [if_neg (by simp [List.eraseDups_cons, sy h4, sy h4', sy h4'']), if_neg (by rw [h5]; decide), if_neg (by rw [h6]; decide)]

section
variable {k : Nat} {tb : Nat → Option Def} {Φ : Nat → Sem1} {W : Nat} {rk : RK} {io : List Nat}
/-- .. of a def's own block -/
structure GoodS (X : Cx) (k : Nat) (tb : Nat → Option Def) (Φ : Nat → Sem1) (sc : Scope) : Prop where
  g : Good X k tb Φ sc
  knd : X.env.scope.kind = .function
theorem GoodS.pass {X : Cx} {sc : Scope} (G : GoodS X k tb Φ sc) : PassesOwn (model X.prog X.w) X.A X.env X.xe := by
  rw [G.g.nox]
  exact PassesOwn.never
theorem all_io {l : List Nat} (h : (l.all fun j => !io.contains j) = true) : ∀ j ∈ l, io.contains j = false := fun j hj => by
  have := List.all_eq_true.mp h j hj
  simpa using this
theorem few_ok {X : Cx} {v : Expr} {cp : Pos} (h : plainE v = true) : ((backTo cp (starEach [v] X.env)).all (fun x => !x.1) && (backToKw cp (keywordEach [] X.env)).all (fun x => x.1.isSome)
      && decide ([v].length + ([] : List Keyword).length + (if ([] : List Keyword).isEmpty then 0 else 1) < 30)) = true := by
  rw [plain_star h]
  rfl
theorem sws_tup {e : Expr} {es : List Expr} {kk : Nat} {p : Pos} {l : Nat} {env : Env} : swapsWithSole [.Tuple es kk p] e l env = pure false := by
  cases e <;> rfl
theorem sws_sub {e a b : Expr} {p : Pos} {l : Nat} {env : Env} : swapsWithSole [.Subscript a b p] e l env = pure false := by
  cases e <;> rfl
theorem sub_asg {o y : Expr} {pos : Pos} {env : Env} (h : plainE y = true) (v : Value) : assign (.Subscript o y pos) env v = (do
      let ov ← holding [v] (eval o env)
      let iv ← holding [v, ov] (eval y env)
      standAt pos
      holding [v, ov, iv] (setItem ov iv v)
      release [v, ov, iv] []) := by
  cases y <;> first | rfl | cases h
mutual
theorem soundS : ∀ (c : S) {X : Cx} {sc : Scope} (G : GoodS X k tb Φ sc) (st1 : Stmt), chkS X.N tb rk io sc c st1 = true → PS X st1 (TSt X.K rk io (st Φ W c))
  | .asg i e, X, sc, G, st1, h => by
    unfold chkS at h
    split at h
    · simp only [Bool.and_eq_true, Bool.not_eq_true'] at h
      exact ps_imp (asg_name G.g h.1.1.1 h.2) fun Dn σ H q => ts_asg (b := fr e) h.1.1.2 q
    · cases h
  | .asgO i e, X, sc, G, st1, h => by
    unfold chkS at h
    split at h
    · simp only [Bool.and_eq_true, Bool.not_eq_true'] at h
      refine ps_imp (asg_name G.g h.1.1.1.1 h.1.2) fun Dn σ H q => ?_
      rw [h.2]
      exact ts_asgO h.1.1.1.2 q
    · cases h
  | .asgT t e, X, sc, G, st1, h => by
    unfold chkS at h
    split at h
    · simp only [Bool.and_eq_true, Bool.not_eq_true'] at h
      obtain ⟨⟨⟨⟨h1, h2⟩, h3⟩, h4⟩, h5⟩ := h
      exact ps_imp (ps_asg (pe_imp (soundE e G.g _ h4).v fun σ H Q q => T.weak (b := fr e) q) (soundTg G.g t _ h1) sws_tup (noSwap_ok (fun x z => (G.g.cell x z).1) h5)) fun Dn σ H q => ts_asgT (all_io h2) q
    · cases h
  | .par is es, X, sc, G, st1, h => by
    unfold chkS at h
    split at h
    · simp only [Bool.and_eq_true, Bool.not_eq_true', decide_eq_true_eq] at h
      obtain ⟨⟨⟨⟨⟨⟨h1, h2⟩, h3⟩, h4⟩, h5⟩, h6⟩, h7⟩ := h
      have pl := chkEs_plain h7
      have w := h6
      simp only [swapB2, Bool.and_eq_true, decide_eq_true_eq] at w
      exact ps_imp (ps_par G.g.calm G.g.nd (G.g.sto h1).1 (G.g.sto h2).1 h5 (G.g.loc _ w.1.1.1.1.1) (G.g.loc _ w.1.1.1.1.2) (soundEs es G.g _ h7)
        (swap2_ok G.knd G.g.loc (pl _ List.mem_cons_self) (pl _ (List.mem_cons_of_mem _ List.mem_cons_self)) h6)) fun Dn σ H q => ts_par2 h3 h4 q
    · simp only [Bool.and_eq_true, Bool.not_eq_true', decide_eq_true_eq] at h
      obtain ⟨⟨⟨⟨⟨⟨⟨⟨⟨⟨h1, h2⟩, h3⟩, h4⟩, h5⟩, h6⟩, h7⟩, h8⟩, h9⟩, h10⟩, h11⟩ := h
      have pl := chkEs_plain h11
      have w := h10
      simp only [swapB3, Bool.and_eq_true, decide_eq_true_eq] at w
      exact ps_imp (ps_par3 G.g.calm G.g.nd (G.g.sto h1).1 (G.g.sto h2).1 (G.g.sto h3).1 h7 h8 h9 (G.g.loc _ w.1.1.1.1.1.1.1.1.1) (G.g.loc _ w.1.1.1.1.1.1.1.1.2) (G.g.loc _ w.1.1.1.1.1.1.1.2) (soundEs es G.g _ h11)
        (swap3_ok G.knd G.g.loc (pl _ List.mem_cons_self) (pl _ (List.mem_cons_of_mem _ List.mem_cons_self)) (pl _ (List.mem_cons_of_mem _ (List.mem_cons_of_mem _ List.mem_cons_self))) h10)) fun Dn σ H q => ts_par3 h4 h5 h6 q
    · cases h
  | .setI i ie e, X, sc, G, st1, h => by
    unfold chkS at h
    split at h
    · simp only [Bool.and_eq_true] at h
      exact ps_imp (ps_asg (pe_imp (soundE e G.g _ h.2).v fun σ H Q q => T.weak (b := fr e) q) (pg_sub (G.g.slot h.1.1.1) (pe_imp (soundE ie G.g _ h.1.2).v fun σ H Q q => T.weak (b := fr ie) q) set_list (fun v => sub_asg h.1.1.2 _)) sws_sub st_sub) fun Dn σ H q => ts_setI q
    · cases h
  | .aug i op e, X, sc, G, st1, h => by
    unfold chkS at h
    split at h
    · simp only [Bool.and_eq_true, Bool.not_eq_true', decide_eq_true_eq] at h
      obtain ⟨⟨⟨h1, h2⟩, rfl⟩, h4⟩ := h
      obtain ⟨a1, a2, a3⟩ := G.g.sto h1
      have E1 : PE X _ (T X.K false (ev Φ e)) := pe_imp (soundE e G.g _ h4).v fun σ H Q q => T.weak (b := fr e) q
      refine ⟨fun pins s σ H D I q => ?_⟩
      rcases ts_aug h2 q with ⟨rfl, q2⟩ | ⟨rfl, q2⟩
      · exact (ps_aug G.g.nd a1 a2 E1 ip_add a3).run pins s σ H D I q2
      · exact (ps_aug G.g.nd a1 a2 E1 ip_sub a3).run pins s σ H D I q2
    · cases h
  | .app i e, X, sc, G, st1, h => by
    unfold chkS at h
    split at h
    · simp only [Bool.and_eq_true, decide_eq_true_eq] at h
      obtain ⟨⟨⟨⟨h1, rfl⟩, h3⟩, h4⟩, h5⟩ := h
      exact ps_imp (ps_expr (pe_bm PySem.F.plainAttrs_list PySem.F.slot_list_append PySem.F.type_list_append mt_append (G.g.slot h1)
        (pa_cons (pe_imp (soundE e G.g _ h5).v fun σ H Q q => T.weak (b := fr e) q) pa_nil (plain_star h4 _ _)) rfl (few_ok h4) h3 (plain_star h4 _ _) rfl)) fun Dn σ H q => ts_app q
    · cases h
  | .ext i e, X, sc, G, st1, h => by
    unfold chkS at h
    split at h
    · simp only [Bool.and_eq_true, decide_eq_true_eq] at h
      obtain ⟨⟨⟨⟨h1, rfl⟩, h3⟩, h4⟩, h5⟩ := h
      exact ps_imp (ps_expr (pe_bm PySem.F.plainAttrs_list PySem.F.slot_list_extend PySem.F.type_list_extend mt_extend (G.g.slot h1)
        (pa_cons (pe_imp (soundE e G.g _ h5).v fun σ H Q q => T.weak (b := fr e) q) pa_nil (plain_star h4 _ _)) rfl (few_ok h4) h3 (plain_star h4 _ _) rfl)) fun Dn σ H q => ts_ext q
    · cases h
  | .ex e, X, sc, G, st1, h => by
    unfold chkS at h
    split at h
    · simp only [Bool.and_eq_true, Bool.not_eq_true'] at h
      exact ps_imp (ps_expr (soundE e G.g _ h.2).v (sw_no h.1 _ _ _)) fun Dn σ H q => ts_ex q
    · cases h
  | .ret e, X, sc, G, st1, h => by
    unfold chkS at h
    split at h
    · simp only [Bool.and_eq_true, decide_eq_true_eq] at h
      obtain ⟨rfl, h2⟩ := h
      exact ps_imp (ps_ret (soundE e G.g _ h2).v) fun Dn σ H q => ts_ret q
    · cases h
  | .retN, X, sc, G, st1, h => by
    unfold chkS at h
    split at h
    · refine ps_imp ps_retN fun Dn σ H q => ts_retN (fun j z => ?_) q
      subst z
      cases h
    · cases h
  | .retF e, X, sc, G, st1, h => by
    unfold chkS at h
    split at h
    · simp only [Bool.and_eq_true, decide_eq_true_eq] at h
      obtain ⟨⟨rfl, h2⟩, h3⟩ := h
      have P := (soundE e G.g _ h3).v
      rw [h2] at P
      exact ps_imp (ps_ret P) fun Dn σ H q => ts_retF q
    · cases h
  | .retO i, X, sc, G, st1, h => by
    unfold chkS at h
    split at h
    · simp only [Bool.and_eq_true, decide_eq_true_eq] at h
      obtain ⟨⟨rfl, h2⟩, h3⟩ := h
      exact ps_imp (ps_ret (G.g.slot h3)) fun Dn σ H q => ts_retO q
    · cases h
  | .retI i, X, sc, G, st1, h => by
    unfold chkS at h
    split at h
    · simp only [Bool.and_eq_true, decide_eq_true_eq] at h
      obtain ⟨rfl, h3⟩ := h
      exact ps_imp (ps_ret (G.g.slot h3)) fun Dn σ H q => ts_retI q
    · cases h
  | .ite c a b, X, sc, G, st1, h => by
    unfold chkS at h
    split at h
    · simp only [Bool.and_eq_true] at h
      exact ps_imp (ps_if (soundE c G.g _ h.1.1).t (soundSs a G _ h.1.2) (soundSs b G _ h.2)) fun Dn σ H q => ts_if q
    · cases h
  | .for t it b, X, sc, G, st1, h => by
    unfold chkS at h
    split at h
    · simp only [Bool.and_eq_true] at h
      obtain ⟨⟨⟨h1, h2⟩, h3⟩, h4⟩ := h
      obtain ⟨I1, I2⟩ := soundIt it G.g _ _ h3
      exact ps_imp (ps_for G.pass G.g.calm I1 (soundTg G.g t _ h1) (soundSs b G _ h4) I2) fun Dn σ H q => ts_for (all_io h2) q
    · cases h
  | .whl c b, X, sc, G, st1, h => by
    unfold chkS at h
    split at h
    · simp only [Bool.and_eq_true] at h
      exact ps_imp (ps_while G.pass (soundE c G.g _ h.1).t (soundSs b G _ h.2)) fun Dn σ H q => ts_whl q
    · cases h
  | .brk, X, sc, G, st1, h => by
    unfold chkS at h
    split at h
    · refine ps_imp ps_break fun Dn σ H q => ?_
      obtain ⟨B, M0, M, sl, r, e⟩ := q
      exact e M σ H (Same.refl _) r (KeepIo.refl _)
    · cases h
  | .cnt, X, sc, G, st1, h => by
    unfold chkS at h
    split at h
    · refine ps_imp ps_continue fun Dn σ H q => ?_
      obtain ⟨B, M0, M, sl, r, e⟩ := q
      exact e M σ H (Same.refl _) r (KeepIo.refl _)
    · cases h
  | .pass, X, sc, G, st1, h => by
    unfold chkS at h
    split at h
    · exact ps_imp ps_pass fun Dn σ H q => ts_next (fun _ => rfl) q
    · exact ps_imp ps_doc fun Dn σ H q => ts_next (fun _ => rfl) q
    · cases h
  | .never, X, sc, G, st1, h => ps_imp ps_never fun Dn σ H q => by
    obtain ⟨B, M0, M, sl, r, e⟩ := q
    exact e
theorem soundSs : ∀ (c : Ss) {X : Cx} {sc : Scope} (G : GoodS X k tb Φ sc) (l : List Stmt), chkSs X.N tb rk io sc c l = true → PSs X l (TSt X.K rk io (sts Φ W c))
  | .nil, X, sc, G, l, h => by
    unfold chkSs at h
    split at h
    · exact ⟨fun pins s σ H D I q => pss_nil.run pins s σ H D I (ts_next (fun _ => rfl) q)⟩
    · cases h
  | .cons a r, X, sc, G, l, h => by
    unfold chkSs at h
    split at h
    · simp only [Bool.and_eq_true] at h
      exact ⟨fun pins s σ H D I q => (pss_cons (soundS a G _ h.1) (soundSs r G _ h.2)).run pins s σ H D I (ts_seq q)⟩
    · cases h
end
end
end L3

set_option Elab.async false
set_option linter.all false
set_option maxRecDepth 100000
set_option maxHeartbeats 4000000
/-! the defs of a program keep what their terms say -/
namespace L3
open PySem PySem.Spec PyProof.Rows L2
theorem pb {α β : Type} (a : α) (f : α → Sem β) : (pure a >>= f) = f a := rfl
theorem look_zip_none {x : Str} : ∀ {ps : List Str} {us : List Value}, x ∉ ps → (ps.zip us).lookup x = none
  | [], _, _ => rfl
  | _ :: _, [], _ => rfl
  | p :: ps, u :: us, h => by
    simp only [List.mem_cons, not_or] at h
    show List.lookup x ((p, u) :: ps.zip us) = none
    rw [List.lookup_cons]
    have : (x == p) = false := by
      rw [Bool.eq_false_iff]
      intro z
      exact h.1 (beq_iff_eq.mp z)
    simp only [this]
    exact look_zip_none h.2
theorem zip_look : ∀ {ps : List Str} {us : List Value} (l : List (Str × Value)), ps.Nodup → us.length = ps.length → (∀ n ∈ ps, l.lookup n = none) → ps.filterMap (fun n => ((l ++ ps.zip us).lookup n).map (n, ·)) = ps.zip us
  | [], [], _, _, _, _ => rfl
  | [], _ :: _, _, _, h, _ => by cases h
  | _ :: _, [], _, _, h, _ => by cases h
  | p :: ps, u :: us, l, nd, hl, hn => by
    have nd' := List.nodup_cons.mp nd
    have h1 : (l ++ (p :: ps).zip (u :: us)).lookup p = some u := by
      rw [List.lookup_append, hn p List.mem_cons_self]
      show (List.lookup p ((p, u) :: ps.zip us)) = some u
      rw [List.lookup_cons]
      simp
    rw [List.filterMap_cons, h1]
    show (p, u) :: _ = _
    congr 1
    have h2 : l ++ (p :: ps).zip (u :: us) = (l ++ [(p, u)]) ++ ps.zip us := by simp
    rw [h2]
    refine zip_look (l ++ [(p, u)]) nd'.2 (by simpa using hl) (fun n hm => ?_)
    rw [List.lookup_append, hn n (List.mem_cons_of_mem _ hm)]
    show List.lookup n [(p, u)] = none
    rw [List.lookup_cons]
    have : (n == p) = false := by
      rw [Bool.eq_false_iff]
      intro z
      have e := beq_iff_eq.mp z
      subst e
      exact nd'.1 hm
    simp [this]
theorem zip_some {ps : List Str} : ∀ {qs : List Str} {us : List Value}, us.length = ps.length → (∀ q ∈ qs, q ∈ ps) → qs.filter (fun n => ((ps.zip us).lookup n).isNone) = [] := by
  have key : ∀ {ps : List Str} {us : List Value} {n : Str}, us.length = ps.length → n ∈ ps → ((ps.zip us).lookup n).isNone = false := by
    intro ps
    induction ps with
    | nil => intro us n _ h; cases h
    | cons p ps ih =>
      intro us n hl hm
      cases us with
      | nil => cases hl
      | cons u us =>
        show (List.lookup n ((p, u) :: ps.zip us)).isNone = false
        rw [List.lookup_cons]
        cases e : n == p with
        | true => rfl
        | false =>
          rcases List.mem_cons.mp hm with rfl | hm
          · simp at e
          · exact ih (by simpa using hl) hm
  intro qs us hl hq
  rw [List.filter_eq_nil_iff]
  intro a ha
  rw [key hl (hq a ha)]
  decide
theorem bind_plain {x qual : Str} {body : List Stmt} {scope : Scope} {kV doc pm : Value} {an : Option Addr} {cdv ct : Value} {as : List Arg} {us : List Value} (nd : (as.map (·.arg)).Nodup) (hl : us.length = (as.map (·.arg)).length) :
    bindArgs (PySem.W.fnOf x qual ⟨[], as, none, [], [], none, []⟩ body scope .none kV doc pm an cdv ct) ⟨us, []⟩ = pure ((as.map (·.arg)).zip us) := by
  have h1 : seqItems? .none = pure none := rfl
  unfold bindArgs PySem.W.fnOf
  simp only [h1, List.map_nil, List.nil_append, List.forIn_nil, pb, Option.getD_none, List.drop_nil, List.length_nil, Nat.sub_zero, List.take_length, List.zip_nil_right, List.append_nil, Array.toList_empty]
  have h2 : us.length ≤ as.length := by
    have := Nat.le_of_eq hl
    rwa [List.length_map] at this
  have h3 := zip_some (ps := as.map (·.arg)) (qs := as.map (·.arg)) hl (fun q h => h)
  have h4 := zip_look (ps := as.map (·.arg)) (us := us) [] nd hl (fun _ _ => rfl)
  simp only [List.nil_append] at h4
  rw [if_neg (by simpa using h2), h3]
  simp only [List.isEmpty_nil, Bool.not_true, Bool.false_eq_true, if_false, h4]

/-! ### what the top has left -/
structure Fn1 (K : PySem.W.Frag) (mg : Str → Option Value) (tb : Nat → Option Def) (f : FunDef) (g : Addr) (fd : FuncData) (ps : List Str) : Prop where
  ex : ∃ (as : List Arg) (body : List Stmt) (scope : Scope) (N : List Str), FunD K f.nm f.nm ⟨[], as, none, [], [], none, []⟩ body scope [] [] g fd ∧ FnScope N ps scope ∧ ps = as.map (·.arg) ∧ ps.Nodup ∧
    N.length = f.n ∧ chkSs N tb f.rk f.io scope f.body body = true
  mgf : mg f.nm = some (.ref g)
  len : ps.length = f.np
  deb : (f.nm == ("__debug__" : Str)) = false
structure Facts (K : PySem.W.Frag) (mg : Str → Option Value) (tb : Nat → Option Def) : Prop where
  fns : ∀ (j : Nat) (f : FunDef), tb j = some (.fn f) → ∃ (g : Addr) (fd : FuncData) (ps : List Str), Fn1 K mg tb f g fd ps
  csts : ∀ (j : Nat) (nm : Str) (d : D), tb j = some (.cst nm d) → (nm == ("__debug__" : Str)) = false ∧ ∃ u v, mg nm = some u ∧ RelV v u ∧ ∀ M, Hd K M v d
  blt : ∀ x ∈ bltNames, mg x = none

theorem Rel.ext {K : PySem.W.Frag} {B M0 M H : Hp} {sl : Sls} {σ : L2.St} (r : Rel K B M0 M sl σ H) (n : Nat) : Rel K B M0 M (sl ++ List.replicate n .un) (σ ++ List.replicate n none) H := by
  have old : ∀ {i : Nat} {x : Sl}, (sl ++ List.replicate n .un)[i]? = some x → x = .un ∨ (sl[i]? = some x ∧ i < σ.length) := fun {i x} h => by
    by_cases hi : i < sl.length
    · rw [List.getElem?_append_left hi] at h
      exact Or.inr ⟨h, by rw [← r.len]; exact hi⟩
    · rw [List.getElem?_append_right (by omega)] at h
      have := List.mem_of_getElem? h
      exact Or.inl (List.eq_of_mem_replicate this)
  refine ⟨by simp [r.len], r.exB, r.exM, r.m0, r.mb, fun i x e => ?_, fun i j oi oj a e1 e2 e3 e4 => ?_⟩
  · rcases old e with rfl | ⟨h1, h2⟩
    · trivial
    · have q := r.slot i x h1
      have eg : (σ ++ List.replicate n none)[i]? = σ[i]? := List.getElem?_append_left h2
      cases x with
      | un => trivial
      | sh d =>
        obtain ⟨v, q1, q2⟩ := q
        exact ⟨v, by rw [eg]; exact q1, q2⟩
      | ow o =>
        obtain ⟨v, ho, q1, q2⟩ := q
        exact ⟨v, ho, by rw [eg]; exact q1, q2⟩
      | sc ns =>
        obtain ⟨v, q1, q2⟩ := q
        exact ⟨v, by rw [eg]; exact q1, q2⟩
  · rcases old e1 with z | ⟨h1, h2⟩
    · cases z
    · rcases old e2 with z | ⟨h3, h4⟩
      · cases z
      · rw [List.getElem?_append_left h2] at e3
        rw [List.getElem?_append_left h4] at e4
        exact r.inj i j oi oj a h1 h3 e3 e4
theorem owIn_of {io : List Nat} : ∀ {args : List Sl} {k i : Nat} {o : Ob}, owIn io k args = true → args[i]? = some (.ow o) → k + i ∈ io
  | [], _, _, _, _, h => by simp at h
  | a :: r, k, 0, o, h, e => by
    simp at e
    subst e
    simp only [owIn, Bool.and_eq_true] at h
    exact List.contains_iff_mem.mp h.1
  | a :: r, k, i + 1, o, h, e => by
    have h' : owIn io (k + 1) r = true := by
      cases a <;> simp only [owIn, Bool.and_eq_true] at h <;> first | exact h | exact h.2
    have := owIn_of h' (i := i) (by simpa using e)
    rw [show k + (i + 1) = k + 1 + i by omega]
    exact this
section
variable {P : Program} {w : World} {K : PySem.W.Frag} {mg : Str → Option Value} {base : Heap} {tb : Nat → Option Def} {W : Nat}
theorem allG (F : Facts K mg tb) : ∀ (k j : Nat) (f : FunDef) (g : Addr) (fd : FuncData) (ps : List Str), tb j = some (.fn f) → Fn1 K mg tb f g fd ps → FnG P w K mg base CX0 k g fd ps (spD K (sem tb W k j) f.np f.rk)
  | 0, j, f, g, fd, ps, hj, F1 => by
    refine ⟨fun vs H Q E h => ?_, fun A o s H a us vs Q E r gd e0 hb hv h => ?_⟩
    · obtain ⟨args, B, M, outs, d, h1, _⟩ := h
      rw [h1, F1.len]
    · obtain ⟨args, B, M, outs, d, h1, h2, h3, _⟩ := h
      cases h3
  | k + 1, j, f, g, fd, ps, hj, F1 => by
    obtain ⟨as, body, scope, N, FD, S, rfl, nd, hN, hc⟩ := F1.ex
    obtain ⟨oc, od, dV, kV, doc, pm, an, cdv, ct, osl, rfl, lk, hcd, hD, hK⟩ := FD.ex
    refine fnG_of lk hcd S (fun vs H Q E h => ?_) (fun A outer s H vs Q E hr gd h => ?_)
    · obtain ⟨args, B, M, outs, d, h1, _⟩ := h
      rw [h1, F1.len]
    · obtain ⟨args, B, M, outs, d, h1, h2, h3, h4⟩ := h
      refine ⟨TSt K f.rk f.io (sts (sem tb W k) W f.body), PSs.nox ?_, ?_⟩
      · have G : GoodS (cxOf CX0 P w K mg base N f.nm scope g cdv A outer s H E).nox k tb (sem tb W k) scope := by
          refine ⟨⟨rfl, S.nd, hr, gd, rfl, fun x h => h, fun x h => ⟨h, rfl⟩, fun x h => absurd rfl (S.nofree _ (PySem.mem_of_lookup h)), fun x h => h, fun i f' hi => ?_, fun i nm d' hi => ?_, F.blt⟩, S.kind⟩
          · obtain ⟨g', fd', ps', F2⟩ := F.fns i f' hi
            obtain ⟨as', body', scope', N', FD', S', rfl, nd', hN', hc'⟩ := F2.ex
            refine ⟨g', fd', _, F2.mgf, FD'.kp, FD'.bindsN (fun kV doc pm an cdv ct us hl => bind_plain nd' hl), F2.len, F2.deb, allG F k i f' g' fd' _ hi F2⟩
          · obtain ⟨q1, q2⟩ := F.csts i nm d' hi
            refine ⟨q1, q2, fun d2 o e => ?_⟩
            cases k with
            | zero => cases e
            | succ k =>
              simp only [sem, hi] at e
              cases e
              rfl
        exact soundSs f.body G body hc
      · simp only [sem, hj, runDef] at h3
        split at h3
        · rename_i hcond
          obtain ⟨hlen, how⟩ := hcond
          have hst : L2.start N vs = vs.map some ++ List.replicate (f.n - f.np) none := by
            unfold L2.start
            rw [hN, h1]
          have hr2 := h2.ext (f.n - f.np)
          have kio : ∀ {σ' : L2.St}, KeepIo f.io (L2.start N vs) σ' → Kio args (vs.map some) σ' := fun {σ'} kp i o e => by
            have hm := owIn_of how e
            rw [Nat.zero_add] at hm
            rw [kp i hm, hst, List.getElem?_append_left]
            have hi := (List.getElem?_eq_some_iff.mp e).1
            rw [List.length_map, h1, ← hlen]
            exact hi
          refine ⟨B, M, M, args ++ List.replicate (f.n - f.np) .un, by rw [hst]; exact hr2, ?_⟩
          split at h3
          · rename_i d2 s2 hs
            cases h3
            rw [hs]
            exact fun v M' σ' H' sm ret kp => h4 v M' σ' H' s2 sm ret rfl (kio kp)
          · rename_i s2 hs
            rw [hs]
            split at h3
            · cases h3
            · rename_i hrk
              cases h3
              refine fun M' σ' H' sm r' kp => h4 .non M' σ' H' s2 sm ?_ rfl (kio kp)
              cases hk : f.rk with
              | sh => exact ⟨r', .non⟩
              | fr => exact Or.inl ⟨(by intro _ _ z; cases z), r', .non⟩
              | io j => exact absurd hk (hrk j)
          · cases h3
        · cases h3
end
/-! ### the law -/
theorem law_sp {K : PySem.W.Frag} {φ : Sem1} {H : Hp} {a : Addr} {ns : List Int} {outs : List Sl} (h : φ [.sc ns] = some (.bool true, outs)) (hS : SqL K H a (ns.map V.int)) :
    spD K φ 1 .sh [.ref a] H (fun v _ => v = .bl true) fun _ _ _ => False := by
  refine ⟨[.sc ns], H, H, outs, .bool true, rfl, ⟨rfl, Same.refl _, Same.refl _, Same.refl _, fun b o e => Or.inr e, fun i x e => ?_, fun i j oi oj b e1 e2 e3 e4 => ?_⟩, h, fun v M' σ' H' sl' sm ret _ _ => ?_⟩
  · cases i with
    | zero =>
      cases e
      exact ⟨a, rfl, hS⟩
    | succ i => simp at e
  · cases i with
    | zero => cases e1
    | succ i => simp at e1
  · obtain ⟨_, h2⟩ := ret
    cases h2
    rfl
/-- the goal behind a head with facts -/
theorem walkGE {l : PySem.W.OpenLaw} {n k : Nat} {q : Program} {loose : List Str}
    {XP : (Str → Option Value) → Heap → Prop} {YP : World → Heap → Prop} {d : DefRec} {x : Str}
    (hn : l.most = some n) (hn2 : n ≤ sizeLine) (hdf : d.params.defaults = []) (hr : Room k callerA)
    (F : ∀ (w : World) (mg : Str → Option Value) (fa : Addr) (h : Heap), YP w h → h.Ns mainGlobals mg → mg d.name = some (.ref fa) →
      ∃ (K : PySem.W.Frag) (fd : FuncData) (sp : Sp), K.In h ∧ (∀ (s : Shared) (u : Value), BindsTo s fd ⟨[u], []⟩ [(x, u)]) ∧
        (∀ (H : Hp) (a : Addr) (ns : List Int), ns.length ≤ n → Only H → SqL K H a (ns.map V.int) → sp [.ref a] H (fun v _ => v = .bl true) fun _ _ _ => False) ∧
        ∀ base : Heap, K.In base → base.Ns mainGlobals mg → FnG l.prog w K mg base CX0 k fa fd [x] sp) :
    PySem.W.WalkO q loose XP YP l.row.toRowW d [] (fun f vs => PySem.call f vs) := by
  refine Att.attach_call hn hdf ?_
  intro w s₀ s₁ mg mb fa o pm cd doc a vs ns G Y ho hd hcd hmg hobj hints hlen hg
  obtain ⟨K, fd, sp, KX, hb, hsp, hF⟩ := F w mg fa _ Y G.T.g hmg
  exact lawG KX G.T.g G.T.b G.T.builtins G.T.nolimit hg hobj hints (Nat.le_trans hlen hn2) hr hF hb (fun H hO hS => hsp H a ns hlen hO hS) (fun H e s' z => z)
end L3

set_option Elab.async false
set_option linter.all false
set_option maxRecDepth 100000
set_option maxHeartbeats 4000000
/-! a program's table, checked; the facts of its top -/
namespace L3
open PySem PySem.Spec PyProof.Rows L2
@[reducible] def es : List E → Es
  | [] => .nil
  | e :: r => .cons e (es r)
@[reducible] def ss : List S → Ss
  | [] => .nil
  | e :: r => .cons e (ss r)
structure DR where
  f : FunDef
  i : Nat
  N : List Str
structure Prg where
  P : Program
  fns : List DR
  csts : List (Str × Int)
def Prg.top (p : Prg) (i : Nat) : Stmt := p.P.main.body.getD i (.Pass ⟨0, 0, 0, 0⟩)
def Prg.lst (p : Prg) : List Def := p.fns.map (fun r => .fn r.f) ++ p.csts.map fun c => .cst c.1 (.int c.2)
def Prg.tb (p : Prg) (j : Nat) : Option Def := p.lst[j]?
def sArgs : Stmt → Arguments
  | .FunctionDef (args := a) .. => a
  | _ => ⟨[], [], none, [], [], none, []⟩
def sBody : Stmt → List Stmt
  | .FunctionDef (body := b) .. => b
  | _ => []
def sScope : Stmt → Scope
  | .FunctionDef (scope := s) .. => s
  | _ => ⟨.function, [], false, false, []⟩
def Prg.dd (p : Prg) (r : DR) : He.DefD := ⟨(r.f.nm, none), r.f.nm, r.f.nm, sArgs (p.top r.i), sBody (p.top r.i), sScope (p.top r.i), [], []⟩
def Prg.fn (p : Prg) : List He.DefD := p.fns.map p.dd
def Prg.fa (p : Prg) : List He.Fa := p.fns.map (fun r => .glo r.f.nm) ++ (p.csts.map (fun c => .int c.1 c.2) ++ bltNames.map .free)
def plainArgs : Arguments → Option (List Arg)
  | ⟨[], as, none, [], [], none, []⟩ => some as
  | _ => none
theorem plainArgs_ok {a : Arguments} {as : List Arg} (h : plainArgs a = some as) : a = ⟨[], as, none, [], [], none, []⟩ := by
  unfold plainArgs at h
  split at h
  · cases h
    rfl
  · cases h
def scB (N P : List Str) (sc : Scope) : Bool :=
  (match sc.kind with | .function => true | _ => false) && !sc.isCoroutine && !sc.isGenerator && decide N.Nodup && decide (N.take P.length = P) &&
    P.all (fun x => match sc.names.lookup x with | some .local => true | some .cell => true | _ => false) && sc.names.all (fun y => match y.2 with | .free => false | _ => true)
theorem scB_ok {N P : List Str} {sc : Scope} (h : scB N P sc = true) : FnScope N P sc := by
  simp only [scB, Bool.and_eq_true, Bool.not_eq_true', decide_eq_true_eq, List.all_eq_true] at h
  obtain ⟨⟨⟨⟨⟨⟨h1, h2⟩, h3⟩, h4⟩, h5⟩, h6⟩, h7⟩ := h
  refine ⟨?_, h2, h3, h4, h5, fun x hx => ?_, fun y hy e => ?_⟩
  · split at h1
    · assumption
    · cases h1
  · have := h6 x hx
    split at this
    · exact Or.inl (by assumption)
    · exact Or.inr (by assumption)
    · cases this
  · have := h7 y hy
    rw [e] at this
    cases this
def Prg.chk1 (p : Prg) (r : DR) : Bool := match plainArgs (sArgs (p.top r.i)) with
  | none => false
  | some as => decide ((as.map (·.arg)).length = r.f.np) && decide (as.map (·.arg)).Nodup && decide (r.N.length = r.f.n) && !(r.f.nm == ("__debug__" : Str)) && scB r.N (as.map (·.arg)) (sScope (p.top r.i)) &&
    chkSs r.N p.tb r.f.rk r.f.io (sScope (p.top r.i)) r.f.body (sBody (p.top r.i))
def Prg.chk (p : Prg) : Bool := p.fns.all p.chk1 && p.csts.all fun c => !(c.1 == ("__debug__" : Str))
theorem lst_fn {p : Prg} {j : Nat} {f : FunDef} (h : p.tb j = some (.fn f)) : ∃ r, p.fns[j]? = some r ∧ r.f = f := by
  unfold Prg.tb Prg.lst at h
  by_cases hj : j < p.fns.length
  · rw [List.getElem?_append_left (by simpa using hj), List.getElem?_map, List.getElem?_eq_getElem hj] at h
    refine ⟨_, List.getElem?_eq_getElem hj, ?_⟩
    simpa using h
  · rw [List.getElem?_append_right (by simpa using hj), List.getElem?_map] at h
    rw [Option.map_eq_some_iff] at h
    obtain ⟨c, _, z⟩ := h
    cases z
theorem lst_cst {p : Prg} {j : Nat} {nm : Str} {d : D} (h : p.tb j = some (.cst nm d)) : ∃ c ∈ p.csts, c.1 = nm ∧ d = .int c.2 := by
  unfold Prg.tb Prg.lst at h
  have := List.mem_of_getElem? h
  rcases List.mem_append.mp this with z | z
  · obtain ⟨r, _, z⟩ := List.mem_map.mp z
    cases z
  · obtain ⟨c, hc, z⟩ := List.mem_map.mp z
    cases z
    exact ⟨c, hc, rfl, rfl⟩
section
variable {K : PySem.W.Frag} {h : Heap} {mg : Str → Option Value} {p : Prg}
theorem fact_mem {fa : List He.Fa} {fn : List He.DefD} (c : He.SaysD fa fn K) {f : He.Fa} (hf : f ∈ fa) : f.ok K = true := by
  obtain ⟨i, hi⟩ := List.getElem?_of_mem hf
  exact c.fact i hi
theorem facts_of (X : K.In h) (G : h.Ns mainGlobals mg) (c : He.SaysD p.fa p.fn K) (hc : p.chk = true) : Facts K mg p.tb := by
  simp only [Prg.chk, Bool.and_eq_true, List.all_eq_true] at hc
  refine ⟨fun j f hj => ?_, fun j nm d hj => ?_, fun x hx => ?_⟩
  · obtain ⟨r, hr, rfl⟩ := lst_fn hj
    have hm := List.mem_of_getElem? hr
    have h1 := hc.1 r hm
    unfold Prg.chk1 at h1
    split at h1
    · cases h1
    · rename_i as has
      simp only [Bool.and_eq_true, decide_eq_true_eq, Bool.not_eq_true'] at h1
      obtain ⟨⟨⟨⟨⟨q1, q2⟩, q3⟩, q4⟩, q5⟩, q6⟩ := h1
      have hd : p.fn[j]? = some (p.dd r) := by
        unfold Prg.fn
        rw [List.getElem?_map, hr]
        rfl
      obtain ⟨fd, F⟩ := c.def_ j hd
      have F' : FunD K r.f.nm r.f.nm (sArgs (p.top r.i)) (sBody (p.top r.i)) (sScope (p.top r.i)) [] [] (He.fAd K (r.f.nm, none)) fd := F
      rw [plainArgs_ok has] at F'
      refine ⟨He.fAd K (r.f.nm, none), fd, as.map (·.arg), ⟨as, _, _, r.N, F', scB_ok q5, rfl, q2, q3, q6⟩, ?_, q1, q4⟩
      exact He.glo_ok X G (fact_mem c (List.mem_append_left _ (List.mem_map.mpr ⟨r, hm, rfl⟩)))
  · obtain ⟨k, hk, rfl, rfl⟩ := lst_cst hj
    have h2 := hc.2 k hk
    obtain ⟨t, ht⟩ := He.int_ok X G (fact_mem c (List.mem_append_right _ (List.mem_append_left _ (List.mem_map.mpr ⟨k, hk, rfl⟩))))
    exact ⟨by simpa using h2, _, .int k.2, ht, ⟨t, rfl⟩, fun M => .int _⟩
  · exact He.free_ok X G (fact_mem c (List.mem_append_right _ (List.mem_append_right _ (List.mem_map.mpr ⟨x, hx, rfl⟩))))
end
/-- the law of a checked program -/
theorem law_of {l : PySem.W.OpenLaw} {p : Prg} {n k W jl : Nat} {q : Program} {loose : List Str} {XP : (Str → Option Value) → Heap → Prop} {d : DefRec} {x : Str} {r : DR}
    (hn : l.most = some n) (hn2 : n ≤ sizeLine) (hdf : d.params.defaults = []) (hr : Room k callerA) (hchk : p.chk = true) (hj : p.fns[jl]? = some r) (hnm : d.name = r.f.nm) (hps : (plainArgs (sArgs (p.top r.i))).map (fun as => as.map (·.arg)) = some [x]) (hrk : r.f.rk = .sh)
    (hlaw : ∀ ns : List Int, ns.length ≤ n → ∃ outs, sem p.tb W k jl [.sc ns] = some (.bool true, outs)) :
    PySem.W.WalkO q loose XP (fun _ h => ∃ K : PySem.W.Frag, K.In h ∧ He.SaysD p.fa p.fn K) l.row.toRowW d [] (fun f vs => PySem.call f vs) := by
  refine walkGE (x := x) hn hn2 hdf hr ?_
  rintro w mg fa h ⟨K, KX, c⟩ G hmg
  have F := facts_of KX G c hchk
  have htb : p.tb jl = some (.fn r.f) := by
    unfold Prg.tb Prg.lst
    have hl := (List.getElem?_eq_some_iff.mp hj).1
    rw [List.getElem?_append_left (by simpa using hl), List.getElem?_map, hj]
    rfl
  have hm := List.mem_of_getElem? hj
  have hc1 : p.chk1 r = true := by
    have h := hchk
    simp only [Prg.chk, Bool.and_eq_true, List.all_eq_true] at h
    exact h.1 r hm
  unfold Prg.chk1 at hc1
  split at hc1
  · cases hc1
  · rename_i as has
    simp only [Bool.and_eq_true, decide_eq_true_eq, Bool.not_eq_true'] at hc1
    obtain ⟨⟨⟨⟨⟨q1, q2⟩, q3⟩, q4⟩, q5⟩, q6⟩ := hc1
    rw [has] at hps
    have hx : as.map (·.arg) = [x] := by simpa using hps
    have hd : p.fn[jl]? = some (p.dd r) := by
      unfold Prg.fn
      rw [List.getElem?_map, hj]
      rfl
    obtain ⟨fd, FD⟩ := c.def_ jl hd
    have FD' : FunD K r.f.nm r.f.nm (sArgs (p.top r.i)) (sBody (p.top r.i)) (sScope (p.top r.i)) [] [] (He.fAd K (r.f.nm, none)) fd := FD
    rw [plainArgs_ok has] at FD'
    have e1 : mg r.f.nm = some (.ref (He.fAd K (r.f.nm, none))) := He.glo_ok KX G (fact_mem c (List.mem_append_left _ (List.mem_map.mpr ⟨r, hm, rfl⟩)))
    have e2 : fa = He.fAd K (r.f.nm, none) := by
      rw [hnm, e1] at hmg
      cases hmg
      rfl
    subst e2
    have F1 : Fn1 K mg p.tb r.f (He.fAd K (r.f.nm, none)) fd (as.map (·.arg)) := ⟨⟨as, _, _, r.N, FD', scB_ok q5, rfl, q2, q3, q6⟩, e1, q1, q4⟩
    refine ⟨K, fd, spD K (sem p.tb W k jl) r.f.np r.f.rk, KX, fun s v => ?_, fun H a ns hl _ hS => ?_, fun base _ _ => ?_⟩
    · have b := FD'.bindsA (ps := as.map (·.arg)) (fun kV doc pm an cdv ct us hl => bind_plain q2 hl) s [v] (by rw [hx]; rfl)
      rw [hx] at b
      exact b
    · obtain ⟨outs, ho⟩ := hlaw ns hl
      rw [← q1, hx, hrk]
      exact law_sp ho hS
    · have := allG (P := l.prog) (w := w) (base := base) (W := W) F k jl r.f _ fd _ htb F1
      rw [hx] at this
      exact this
end L3

set_option Elab.async false
set_option linter.all false
set_option maxRecDepth 100000
set_option maxHeartbeats 4000000
/-! to run a term -/
namespace L3
open PySem PySem.Spec
section
variable {Φ : Nat → Sem1} {s s1 s2 s3 : Sls} {d e f r : D}
theorem x_c {k : Const} (h : cD k = some d) : ev Φ (.c k) s = .ok d s := by simp only [ev, h, opt_some]
theorem x_v {i : Nat} (h : s[i]? = some (.sh d)) : ev Φ (.v i) s = .ok d s := by simp only [ev, h]
theorem x_vo {i : Nat} {xs : List D} (h : s[i]? = some (.ow (.l xs))) : ev Φ (.v i) s = .ok (.list xs) (s.set i (.sh (.list xs))) := by simp only [ev, h]
theorem x_g {j : Nat} {o : List Sl} (h : Φ j [] = some (d, o)) : ev Φ (.g j) s = .ok d s := by simp only [ev, h]
def isPk : E → Bool
  | .pk _ => true
  | _ => false
theorem o_pk {i : Nat} {q : R D} (h : here i s = true) : opnd (.pk i) q s = .ok (.inr i) s := by
  show (if here i s then R.ok (Sum.inr i) s else R.bad) = _
  rw [if_pos h]
theorem o_e {a : E} (hp : isPk a = false) (h : ev Φ a s = .ok d s1) : opnd a (ev Φ a s) s = .ok (.inl d) s1 := by
  rw [opnd_of (fun i z => by subst z; cases hp), h]
  rfl
theorem xs_nil : evs Φ .nil s = .ok [] s := rfl
theorem xs_cons {a : E} {l : Es} {ds : List D} (h : ev Φ a s = .ok d s1) (t : evs Φ l s1 = .ok ds s2) : evs Φ (.cons a l) s = .ok (d :: ds) s2 := by simp only [evs, h, bnd_ok, t]
theorem xo_nil : evos Φ .nil s = .ok [] s := rfl
theorem xo_cons {a : E} {l : Es} {o : Ov} {os : List Ov} (h : opnd a (ev Φ a s) s = .ok o s1) (t : evos Φ l s1 = .ok os s2) : evos Φ (.cons a l) s = .ok (o :: os) s2 := by simp only [evos, h, bnd_ok, t]
theorem xa_nil : evas Φ .nil s = .ok [] s := rfl
theorem xa_v {a : E} {l : As} {avs : List Av} (h : ev Φ a s = .ok d s1) (t : evas Φ l s1 = .ok avs s2) : evas Φ (.v a l) s = .ok (.v d :: avs) s2 := by simp only [evas, h, bnd_ok, t]
theorem xa_o {i : Nat} {l : As} {avs : List Av} (h : here i s = true) (t : evas Φ l s = .ok avs s2) : evas Φ (.o i l) s = .ok (.o i :: avs) s2 := by simp only [evas, h, if_true, bnd_ok, t]
theorem xa_p {i : Nat} {l : As} {avs : List Av} (h : here i s = true) (t : evas Φ l s = .ok avs s2) : evas Φ (.p i l) s = .ok (.p i :: avs) s2 := by simp only [evas, h, if_true, bnd_ok, t]
theorem xa_sc {i : Nat} {l : As} {avs : List Av} (h : here i s = true) (t : evas Φ l s = .ok avs s2) : evas Φ (.sc i l) s = .ok (.s i :: avs) s2 := by simp only [evas, h, if_true, bnd_ok, t]
theorem x_tup {l : Es} {ds : List D} (h : evs Φ l s = .ok ds s1) : ev Φ (.tup l) s = .ok (.tuple ds) s1 := by simp only [ev, h, bnd_ok]
theorem x_lst {l : Es} {ds : List D} (h : evs Φ l s = .ok ds s1) : ev Φ (.lst l) s = .ok (.list ds) s1 := by simp only [ev, h, bnd_ok]
theorem x_bin {o : Operator} {a b : E} {x y : Ov} (ha : opnd a (ev Φ a s) s = .ok x s1) (hb : opnd b (ev Φ b s1) s1 = .ok y s2) (hx : rd x s2 = some d) (hy : rd y s2 = some e) (h : bop o d e = some r) : ev Φ (.bin o a b) s = .ok r s2 := by
  simp only [ev, ha, bnd_ok, hb, hx, hy, h, opt_some]
theorem x_cmp {o : CmpOp} {a b : E} {x y : Ov} {p : Bool} (ha : opnd a (ev Φ a s) s = .ok x s1) (hb : opnd b (ev Φ b s1) s1 = .ok y s2) (hx : rd x s2 = some d) (hy : rd y s2 = some e) (h : cop o d e = some p) : ev Φ (.cmp o a b) s = .ok (.bool p) s2 := by
  simp only [ev, ha, bnd_ok, hb, hx, hy, h, opt_some, Option.map_some]
theorem x_ix {a b : E} {x y : Ov} (ha : opnd a (ev Φ a s) s = .ok x s1) (hb : opnd b (ev Φ b s1) s1 = .ok y s2) (hx : rd x s2 = some d) (hy : rd y s2 = some e) (h : ixD d e = some r) : ev Φ (.ix a b) s = .ok r s2 := by
  simp only [ev, ha, bnd_ok, hb, hx, hy, h, opt_some]
theorem x_isi {a : E} {t : Ty} {x : Ov} {p : Bool} (ha : opnd a (ev Φ a s) s = .ok x s1) (hx : rd x s1 = some d) (h : isD t d = some p) : ev Φ (.isi a t) s = .ok (.bool p) s1 := by
  simp only [ev, ha, bnd_ok, hx, h, opt_some, Option.map_some]
theorem x_bf {b : Bf} {l : Es} {os : List Ov} {ds : List D} (h : evos Φ l s = .ok os s1) (hr : rdA os s1 = some ds) (hb : bfn b ds = some r) : ev Φ (.bf b l) s = .ok r s1 := by
  simp only [ev, h, bnd_ok, hr, hb, opt_some]
theorem x_neg {a : E} {i : Int} (h : ev Φ a s = .ok (.int i) s1) : ev Φ (.neg a) s = .ok (.int (-i)) s1 := by simp only [ev, h, bnd_ok]
theorem x_nt {a : E} {p : Bool} (h : ev Φ a s = .ok d s1) (t : truth d = some p) : ev Φ (.nt a) s = .ok (.bool (!p)) s1 := by simp only [ev, h, tru_ok', t, opt_some, bnd_ok]
theorem x_chain {o1 o2 : CmpOp} {a b c : E} {p q : Bool} (ha : ev Φ a s = .ok d s1) (hb : ev Φ b s1 = .ok e s2) (hc : ev Φ c s2 = .ok f s2) (h1 : cop o1 d e = some p) (h2 : cop o2 e f = some q) : ev Φ (.chain o1 o2 a b c) s = .ok (.bool (p && q)) s2 := by
  cases p <;> simp only [ev, ha, bnd_ok, hb, hc, h1, h2, opt_some, Option.map_some, Bool.false_and, Bool.true_and]
theorem x_cut {a : E} {lo hi : Oe} {x : Ov} {l h : Option Int} (ha : opnd a (ev Φ a s) s = .ok x s1) (hl : evb Φ lo s1 = .ok l s2) (hh : evb Φ hi s2 = .ok h s3) (hx : rd x s3 = some d) (hs : slD d l h = some r) : ev Φ (.cut a lo hi) s = .ok r s3 := by
  simp only [ev, ha, bnd_ok, hl, hh, hx, hs, opt_some]
theorem xb_n : evb Φ .n s = .ok none s := rfl
theorem xb_s {a : E} {i : Int} (h : ev Φ a s = .ok (.int i) s1) : evb Φ (.s a) s = .ok (some i) s1 := by simp only [evb, h, bnd_ok]
theorem x_sc {i : Nat} {lo hi : Option Int} {ns : List Int} (h : s[i]? = some (.sc ns)) : ev Φ (.sc i lo hi) s = .ok (.list (cutD (ns.map .int) lo hi)) s := by simp only [ev, h]
theorem x_call {j : Nat} {b : Bool} {l : As} {avs : List Av} (h : evas Φ l s = .ok avs s1) (hd : doCall (Φ j) avs s1 = .ok d s2) : ev Φ (.call j b l) s = .ok d s2 := by simp only [ev, h, bnd_ok, hd]
/-- a call whose arguments are values -/
theorem do_ok {φ : Sem1} {avs : List Av} {args outs : List Sl} (hc : callOk avs = true) (ha : argSl avs s = some args) (hφ : φ args = some (d, outs)) (hp : (hasP avs s && (hasO avs || !flat d)) = false) (hb : backSl avs outs s = some s1) : doCall φ avs s = .ok d s1 := by
  unfold doCall
  simp only [hc, if_true, ha, hφ, hp, Bool.false_eq_true, if_false, hb]
theorem x_and {a b : E} {p q : Bool} (ha : ev Φ a s = .ok (.bool p) s1) (hb : p = true → ev Φ b s1 = .ok (.bool q) s1) : ev Φ (.and a b) s = .ok (.bool (p && q)) s1 := by
  cases p with
  | true => simp only [ev, ha, bnd_ok, truth, hb rfl, Bool.true_and]
  | false => simp only [ev, ha, bnd_ok, truth, Bool.false_and]
theorem x_or {a b : E} {p q : Bool} (ha : ev Φ a s = .ok (.bool p) s1) (hb : p = false → ev Φ b s1 = .ok (.bool q) s1) : ev Φ (.or a b) s = .ok (.bool (p || q)) s1 := by
  cases p with
  | false => simp only [ev, ha, bnd_ok, truth, hb rfl, Bool.false_or]
  | true => simp only [ev, ha, bnd_ok, truth, Bool.true_or]
end
section
variable {Φ : Nat → Sem1} {s s1 s2 : Sls} {d r : D}
theorem x_orT {a b : E} (ha : ev Φ a s = .ok d s1) (ht : truth d = some true) : ev Φ (.or a b) s = .ok d s1 := by simp only [ev, ha, bnd_ok, ht]
theorem x_orF {a b : E} (ha : ev Φ a s = .ok d s1) (ht : truth d = some false) (hb : ev Φ b s1 = .ok r s2) : ev Φ (.or a b) s = .ok r s2 := by simp only [ev, ha, bnd_ok, ht, hb]
theorem x_andF {a b : E} (ha : ev Φ a s = .ok d s1) (ht : truth d = some false) : ev Φ (.and a b) s = .ok d s1 := by simp only [ev, ha, bnd_ok, ht]
theorem x_andT {a b : E} (ha : ev Φ a s = .ok d s1) (ht : truth d = some true) (hb : ev Φ b s1 = .ok r s2) : ev Φ (.and a b) s = .ok r s2 := by simp only [ev, ha, bnd_ok, ht, hb]
theorem x_eq {a : E} {e : D} (h : ev Φ a s = .ok d s1) (he : d = e) : ev Φ a s = .ok e s1 := by rw [h, he]
end
theorem sem_fn {tb : Nat → Option Def} {W k j : Nat} {f : FunDef} (h : tb j = some (.fn f)) : sem tb W (k + 1) j = runDef (sem tb W k) W f := by simp only [sem, h]
theorem sem_cst {tb : Nat → Option Def} {W k j : Nat} {nm : Str} {d : D} (h : tb j = some (.cst nm d)) : sem tb W (k + 1) j [] = some (d, []) := by simp only [sem, h]
theorem mulI {i j : Int} (h1 : i.natAbs < 2 ^ 200) (h2 : j.natAbs < 2 ^ 200) : bop .Mult (.int i) (.int j) = some (.int (i * j)) := by
  have key : ∀ n : Nat, n < 2 ^ 200 → n.log2 < 500 := fun n h => by
    by_cases h0 : n = 0
    · subst h0
      decide
    · have := (Nat.log2_lt h0).mpr h
      omega
  have k1 := key _ h1
  have k2 := key _ h2
  show (if i.natAbs.log2 + j.natAbs.log2 < 1000000 then some (PyData.int (i * j)) else none) = _
  rw [if_pos (by omega)]
theorem powI {i j : Int} (h : i.natAbs < 2 ^ 64) (h0 : 0 ≤ j) (h1 : j ≤ 1000000) : bop .Pow (.int i) (.int j) = some (.int (i ^ j.toNat)) := by
  show (if 0 ≤ j ∧ j ≤ 1000000 ∧ i.natAbs < 2 ^ 64 then some (PyData.int (i ^ j.toNat)) else none) = _
  rw [if_pos ⟨h0, h1, h⟩]
theorem modI {i j : Int} (h : 0 < j) : bop .Mod (.int i) (.int j) = some (.int (i % j)) := by
  show (if 0 < j then some (PyData.int (i % j)) else none) = _
  rw [if_pos h]
theorem divI {i j : Int} (h : 0 < j) (h2 : j < 2 ^ 200) : bop .FloorDiv (.int i) (.int j) = some (.int (i / j)) := by
  have key : j.natAbs.log2 < 9000 := by
    have := (Nat.log2_lt (n := j.natAbs) (k := 200) (by omega)).mpr (by omega)
    omega
  show (if 0 < j ∧ j.natAbs.log2 < 9000 then some (PyData.int (i / j)) else none) = _
  rw [if_pos ⟨h, key⟩]
theorem of_eq {P : Fl → Prop} {f g : Fl} (h : f = g) (p : P g) : P f := by rw [h]; exact p
def RtI (f : Fl) : Prop := ∃ r x y t, f = .rt (.int r) (x :: y :: t)
def turnF (Φ : Nat → Sem1) (W : Nat) (g : Tg) (b : Ss) (d : D) (s : Sls) : Fl := match asgTg g d s with
  | some s1 => sts Φ W b s1
  | none => .bad
def thenF (f : Fl) (k : Sls → Fl) : Fl := match f with
  | .nx s => k s
  | f => f
theorem thenF_nx (s : Sls) (k : Sls → Fl) : thenF (.nx s) k = k s := rfl
theorem thenF_rt (d : D) (s : Sls) (k : Sls → Fl) : thenF (.rt d s) k = .rt d s := rfl
section
variable {Φ : Nat → Sem1} {W : Nat} {s s1 s2 s3 : Sls} {d : D} {q : Ss} {F : Fl}
theorem s_asg {i : Nat} {e : E} (h : ev Φ e s = .ok d s1) (t : sts Φ W q (s1.set i (.sh d)) = F) : sts Φ W (.cons (.asg i e) q) s = F := by
  simp only [sts, st, h, thn_ok, t]
theorem p_asg {i : Nat} {e : E} (h : ev Φ e s = .ok d s) : sts Φ W (.cons (.asg i e) q) s = sts Φ W q (s.set i (.sh d)) := s_asg h rfl
theorem s_asgO {i : Nat} {e : E} {xs : List D} (h : ev Φ e s = .ok (.list xs) s1) (t : sts Φ W q (s1.set i (.ow (.l xs))) = F) : sts Φ W (.cons (.asgO i e) q) s = F := by
  simp only [sts, st, h, thn_ok, t]
theorem s_asgT {g : Tg} {e : E} (h : ev Φ e s = .ok d s1) (ht : asgTg g d s1 = some s2) (t : sts Φ W q s2 = F) : sts Φ W (.cons (.asgT g e) q) s = F := by
  simp only [sts, st, h, thn_ok, ht, t]
theorem s_par {is : List Nat} {l : Es} {ds : List D} (h : evs Φ l s = .ok ds s1) (ht : setsL is ds s1 = some s2) (t : sts Φ W q s2 = F) : sts Φ W (.cons (.par is l) q) s = F := by
  simp only [sts, st, h, thn_ok, ht, t]
theorem s_setI {i : Nat} {ie e : E} {kd : D} {o o1 : Ob} (h : ev Φ e s = .ok d s1) (ho : isOw s1 i = true) (hk : ev Φ ie s1 = .ok kd s2) (hs : s2[i]? = some (.ow o)) (hp : putAt o kd d = some o1) (t : sts Φ W q (s2.set i (.ow o1)) = F) : sts Φ W (.cons (.setI i ie e) q) s = F := by
  simp only [sts, st, h, thn_ok, ho, if_true, hk, hs, hp, t]
theorem s_app {i : Nat} {e : E} {xs : List D} (ho : isOwL s i = true) (h : ev Φ e s = .ok d s1) (hs : s1[i]? = some (.ow (.l xs))) (hf : fitN (xs.length + 1) = true) (t : sts Φ W q (s1.set i (.ow (.l (xs ++ [d])))) = F) : sts Φ W (.cons (.app i e) q) s = F := by
  simp only [sts, st, h, thn_ok, ho, if_true, hs, hf, t]
theorem s_ex {e : E} (h : ev Φ e s = .ok d s1) (t : sts Φ W q s1 = F) : sts Φ W (.cons (.ex e) q) s = F := by
  simp only [sts, st, h, thn_ok, t]
theorem s_ret {e : E} (h : ev Φ e s = .ok d s1) : sts Φ W (.cons (.ret e) q) s = .rt d s1 := by
  simp only [sts, st, h, thn_ok]
theorem p_ret {e : E} (h : ev Φ e s = .ok d s) : sts Φ W (.cons (.ret e) q) s = .rt d s := s_ret h
theorem s_retF {e : E} (h : ev Φ e s = .ok d s1) : sts Φ W (.cons (.retF e) q) s = .rt d s1 := by
  simp only [sts, st, h, thn_ok]
theorem s_ite {c : E} {a b : Ss} {p : Bool} (h : ev Φ c s = .ok d s1) (ht : truth d = some p) (t : thenF (if p then sts Φ W a s1 else sts Φ W b s1) (sts Φ W q) = F) : sts Φ W (.cons (.ite c a b) q) s = F := by
  simp only [sts, st, h, tru_ok', ht, opt_some, thn_ok]
  rw [← t]
  generalize (if p = true then sts Φ W a s1 else sts Φ W b s1) = z
  cases z <;> rfl
theorem s_ifF {c : E} {a : Ss} (h : ev Φ c s = .ok d s1) (ht : truth d = some false) (t : sts Φ W q s1 = F) : sts Φ W (.cons (.ite c a .nil) q) s = F := by
  simp only [sts, st, h, tru_ok', ht, opt_some, thn_ok, Bool.false_eq_true, if_false, t]
theorem s_ifT {c : E} {a b : Ss} (h : ev Φ c s = .ok d s1) (ht : truth d = some true) (t : thenF (sts Φ W a s1) (sts Φ W q) = F) : sts Φ W (.cons (.ite c a b) q) s = F :=
  s_ite h ht (by simpa using t)
theorem s_elF {c : E} {a b : Ss} (h : ev Φ c s = .ok d s1) (ht : truth d = some false) (t : thenF (sts Φ W b s1) (sts Φ W q) = F) : sts Φ W (.cons (.ite c a b) q) s = F :=
  s_ite h ht (by simpa using t)
theorem s_for {g : Tg} {it : It} {b : Ss} {items : List D} (h : evIt Φ it s = .ok items s1) (t : thenF (forL (turnF Φ W g b) items s1) (sts Φ W q) = F) : sts Φ W (.cons (.for g it b) q) s = F := by
  simp only [sts, st, h, thn_ok]
  rw [← t]
  show (match forL (turnF Φ W g b) items s1 with
    | .nx s1 => sts Φ W q s1
    | f => f) = thenF (forL (turnF Φ W g b) items s1) (sts Φ W q)
  generalize forL (turnF Φ W g b) items s1 = z
  cases z <;> rfl
theorem for_nx {g : Tg} {b : Ss} {d : D} {ds : List D} (ht : asgTg g d s = some s1) (h : sts Φ W b s1 = .nx s2) (t : forL (turnF Φ W g b) ds s2 = F) : forL (turnF Φ W g b) (d :: ds) s = F := by
  have e : turnF Φ W g b d s = .nx s2 := by simp only [turnF, ht, h]
  simp only [forL, e, t]
theorem forL_cons {g : Tg} {b : Ss} {d : D} {ds : List D} (h : turnF Φ W g b d s = .nx s1) : forL (turnF Φ W g b) (d :: ds) s = forL (turnF Φ W g b) ds s1 := by
  simp only [forL, h]
theorem turn_nx {g : Tg} {b : Ss} {d : D} (ht : asgTg g d s = some s1) (h : sts Φ W b s1 = F) : turnF Φ W g b d s = F := by
  simp only [turnF, ht, h]
theorem run_rt {f : FunDef} {args s0 : List Sl} (hl : args.length = f.np) (ho : owIn f.io 0 args = true) (h : sts Φ W f.body s0 = .rt d s) (he : args ++ List.replicate (f.n - f.np) .un = s0 := by rfl) : runDef Φ W f args = some (d, s.take f.np) := by
  subst he
  simp only [runDef, hl, ho, and_self, if_true, h]
theorem run_nx {f : FunDef} {args s0 : List Sl} (hl : args.length = f.np) (ho : owIn f.io 0 args = true) (hk : f.rk = .sh) (h : sts Φ W f.body s0 = .nx s) (he : args ++ List.replicate (f.n - f.np) .un = s0 := by rfl) : runDef Φ W f args = some (.none, s.take f.np) := by
  subst he
  simp only [runDef, hl, ho, and_self, if_true, h, hk]
end

/-! ### the pen -/
def spreadF : FunDef := ⟨"_law_spread", 2, 8, .sh, [], (ss [
    .ite (.cmp .GtE (.pk 0) (.bin .Pow (.c (.int 10)) (.c (.int 18)))) (ss [.ret (.v 0)]) (ss []),
    .asg 2 (.lst (es [.c (.int 2147483629), .c (.int 2147483587), .c (.int 2147483579), .c (.int 2147483563), .c (.int 2147483549), .c (.int 2147483543), .c (.int 2147483497)])),
    .asg 2 (.bin .Add (.pk 2) (.lst (es [.c (.int 2147483489), .c (.int 2147483477), .c (.int 2147483423), .c (.int 2147483399), .c (.int 2147483353), .c (.int 2147483323)]))),
    .asg 3 (.bin .Add (.bin .Add (.bin .Mult (.bin .Mod (.bf .int (es [.pk 0])) (.c (.int 1000000007))) (.bin .Add (.bin .Mult (.c (.int 2)) (.pk 1)) (.c (.int 69069)))) (.bin .Mult (.pk 1) (.c (.int 40503)))) (.c (.int 977))),
    .asg 4 (.bin .Mod (.bf .int (es [.bin .Pow (.pk 3) (.c (.int 3))])) (.ix (.pk 2) (.bin .Mod (.bf .int (es [.pk 1])) (.c (.int 13))))),
    .asg 5 (.bin .Add (.bin .Mod (.bf .int (es [.pk 0])) (.c (.int 65537))) (.c (.int 5))),
    .asg 6 (.bin .Mod (.bf .int (es [.bin .Pow (.bin .Add (.bin .Mult (.pk 4) (.bin .Add (.pk 1) (.c (.int 3)))) (.pk 5)) (.c (.int 5))])) (.ix (.pk 2) (.bin .Mod (.bf .int (es [.bin .Add (.pk 1) (.c (.int 5))])) (.c (.int 13))))),
    .asg 7 (.bin .Mod (.bf .int (es [.bin .Pow (.bin .Add (.bin .Add (.pk 6) (.bin .Mod (.bf .int (es [.pk 4])) (.c (.int 1009)))) (.pk 1)) (.c (.int 3))])) (.ix (.pk 2) (.bin .Mod (.bf .int (es [.bin .Add (.pk 1) (.c (.int 7))])) (.c (.int 13))))),
    .ret (.bin .Add (.bin .Mult (.bin .Add (.bin .Mult (.pk 4) (.c (.int 2147483647))) (.pk 6)) (.c (.int 2147483647))) (.pk 7))])⟩
def primes : List D := [.int 2147483629, .int 2147483587, .int 2147483579, .int 2147483563, .int 2147483549, .int 2147483543, .int 2147483497, .int 2147483489, .int 2147483477, .int 2147483423, .int 2147483399, .int 2147483353, .int 2147483323]
theorem prime_at (a : Int) : ∃ p : Int, ixD (.list primes) (.int (a % 13)) = some (.int p) ∧ 0 < p ∧ p < 2 ^ 31 := by
  have h1 : 0 ≤ a % 13 := Int.emod_nonneg _ (by decide)
  have h2 : a % 13 < 13 := Int.emod_lt_of_pos _ (by decide)
  generalize a % 13 = b at h1 h2
  have : b = 0 ∨ b = 1 ∨ b = 2 ∨ b = 3 ∨ b = 4 ∨ b = 5 ∨ b = 6 ∨ b = 7 ∨ b = 8 ∨ b = 9 ∨ b = 10 ∨ b = 11 ∨ b = 12 := by omega
  rcases this with rfl | rfl | rfl | rfl | rfl | rfl | rfl | rfl | rfl | rfl | rfl | rfl | rfl <;> exact ⟨_, rfl, by decide, by decide⟩
theorem spread_ok (Φ : Nat → Sem1) (W : Nat) (c a : Int) (h0 : 0 ≤ a) (h1 : a ≤ 2 ^ 20) : RtI (sts Φ W spreadF.body [.sh (.int c), .sh (.int a), .un, .un, .un, .un, .un, .un]) := by
  have cmp : ev Φ (.cmp .GtE (.pk 0) (.bin .Pow (.c (.int 10)) (.c (.int 18)))) [.sh (.int c), .sh (.int a), .un, .un, .un, .un, .un, .un] = .ok (.bool (decide (10 ^ 18 ≤ c))) [.sh (.int c), .sh (.int a), .un, .un, .un, .un, .un, .un] := by
    (repeat' first | exact powI (by decide) (by decide) (by decide) | with_reducible apply x_c | with_reducible apply x_v | with_reducible apply o_pk | with_reducible apply o_e | with_reducible exact xs_nil | with_reducible exact xo_nil | with_reducible exact xa_nil | with_reducible apply xs_cons | with_reducible apply xo_cons | with_reducible apply xa_v | with_reducible apply xa_o | with_reducible apply xa_p | with_reducible apply xa_sc | with_reducible apply x_tup | with_reducible apply x_lst | with_reducible apply x_bin | with_reducible apply x_cmp | with_reducible apply x_ix | with_reducible apply x_isi | with_reducible apply x_bf | with_reducible apply x_neg | with_reducible apply x_nt | with_reducible apply x_chain | with_reducible apply x_cut | with_reducible exact xb_n | with_reducible apply xb_s | with_reducible apply x_sc | with_reducible apply x_call | rfl)
  by_cases hc : 10 ^ 18 ≤ c
  · rw [decide_eq_true hc] at cmp
    refine of_eq (s_ifT cmp rfl rfl) ?_
    exact ⟨c, _, _, _, rfl⟩
  · rw [decide_eq_false hc] at cmp
    refine of_eq (s_ifF cmp rfl rfl) ?_
    have b1 : 0 ≤ c % 1000000007 ∧ c % 1000000007 < 1000000007 := ⟨Int.emod_nonneg _ (by decide), Int.emod_lt_of_pos _ (by decide)⟩
    have b2 : 0 ≤ c % 65537 ∧ c % 65537 < 65537 := ⟨Int.emod_nonneg _ (by decide), Int.emod_lt_of_pos _ (by decide)⟩
    generalize hm : c % 1000000007 = m at b1
    generalize hr : c % 65537 = q at b2
    have b3 : 0 ≤ m * (2 * a + 69069) ∧ m * (2 * a + 69069) < 2 ^ 53 := by
      refine ⟨Int.mul_nonneg b1.1 (by omega), ?_⟩
      have : m * (2 * a + 69069) ≤ 1000000007 * (2 * 2 ^ 20 + 69069) := Int.mul_le_mul (by omega) (by omega) (by omega) (by decide)
      omega
    obtain ⟨p1, i1, p1a, p1b⟩ := prime_at a
    obtain ⟨p2, i2, p2a, p2b⟩ := prime_at (a + 5)
    obtain ⟨p3, i3, p3a, p3b⟩ := prime_at (a + 7)
    refine of_eq (p_asg (d := .list (primes.take 7)) ?_) ?_
    · (repeat' first | with_reducible apply x_c | with_reducible apply x_v | with_reducible apply o_pk | with_reducible apply o_e | with_reducible exact xs_nil | with_reducible exact xo_nil | with_reducible exact xa_nil | with_reducible apply xs_cons | with_reducible apply xo_cons | with_reducible apply xa_v | with_reducible apply xa_o | with_reducible apply xa_p | with_reducible apply xa_sc | with_reducible apply x_tup | with_reducible apply x_lst | with_reducible apply x_bin | with_reducible apply x_cmp | with_reducible apply x_ix | with_reducible apply x_isi | with_reducible apply x_bf | with_reducible apply x_neg | with_reducible apply x_nt | with_reducible apply x_chain | with_reducible apply x_cut | with_reducible exact xb_n | with_reducible apply xb_s | with_reducible apply x_sc | with_reducible apply x_call | rfl)
    simp only [List.set_cons_succ, List.set_cons_zero]
    refine of_eq (p_asg (d := .list primes) ?_) ?_
    · (repeat' first | with_reducible apply x_c | with_reducible apply x_v | with_reducible apply o_pk | with_reducible apply o_e | with_reducible exact xs_nil | with_reducible exact xo_nil | with_reducible exact xa_nil | with_reducible apply xs_cons | with_reducible apply xo_cons | with_reducible apply xa_v | with_reducible apply xa_o | with_reducible apply xa_p | with_reducible apply xa_sc | with_reducible apply x_tup | with_reducible apply x_lst | with_reducible apply x_bin | with_reducible apply x_cmp | with_reducible apply x_ix | with_reducible apply x_isi | with_reducible apply x_bf | with_reducible apply x_neg | with_reducible apply x_nt | with_reducible apply x_chain | with_reducible apply x_cut | with_reducible exact xb_n | with_reducible apply xb_s | with_reducible apply x_sc | with_reducible apply x_call | rfl)
    simp only [List.set_cons_succ, List.set_cons_zero]
    refine of_eq (p_asg (d := .int (m * (2 * a + 69069) + a * 40503 + 977)) ?_) ?_
    · subst hm
      (repeat' first | exact modI (by decide) | exact mulI (by omega) (by omega) | with_reducible apply x_c | with_reducible apply x_v | with_reducible apply o_pk | with_reducible apply o_e | with_reducible exact xs_nil | with_reducible exact xo_nil | with_reducible exact xa_nil | with_reducible apply xs_cons | with_reducible apply xo_cons | with_reducible apply xa_v | with_reducible apply xa_o | with_reducible apply xa_p | with_reducible apply xa_sc | with_reducible apply x_tup | with_reducible apply x_lst | with_reducible apply x_bin | with_reducible apply x_cmp | with_reducible apply x_ix | with_reducible apply x_isi | with_reducible apply x_bf | with_reducible apply x_neg | with_reducible apply x_nt | with_reducible apply x_chain | with_reducible apply x_cut | with_reducible exact xb_n | with_reducible apply xb_s | with_reducible apply x_sc | with_reducible apply x_call | rfl)
    simp only [List.set_cons_succ, List.set_cons_zero]
    generalize hx : m * (2 * a + 69069) + a * 40503 + 977 = x
    have x0 : 0 ≤ x ∧ x < 2 ^ 64 := by omega
    refine of_eq (p_asg (d := .int (x ^ 3 % p1)) ?_) ?_
    · (repeat' first | exact powI (by omega) (by decide) (by decide) | exact modI (by assumption) | exact modI (by decide) | exact i1 | with_reducible apply x_c | with_reducible apply x_v | with_reducible apply o_pk | with_reducible apply o_e | with_reducible exact xs_nil | with_reducible exact xo_nil | with_reducible exact xa_nil | with_reducible apply xs_cons | with_reducible apply xo_cons | with_reducible apply xa_v | with_reducible apply xa_o | with_reducible apply xa_p | with_reducible apply xa_sc | with_reducible apply x_tup | with_reducible apply x_lst | with_reducible apply x_bin | with_reducible apply x_cmp | with_reducible apply x_ix | with_reducible apply x_isi | with_reducible apply x_bf | with_reducible apply x_neg | with_reducible apply x_nt | with_reducible apply x_chain | with_reducible apply x_cut | with_reducible exact xb_n | with_reducible apply xb_s | with_reducible apply x_sc | with_reducible apply x_call | rfl)
    simp only [List.set_cons_succ, List.set_cons_zero]
    have y0 : 0 ≤ x ^ 3 % p1 ∧ x ^ 3 % p1 < 2 ^ 31 := ⟨Int.emod_nonneg _ (by omega), by have := Int.emod_lt_of_pos (x ^ 3) p1a; omega⟩
    generalize x ^ 3 % p1 = y at y0
    refine of_eq (p_asg (d := .int (q + 5)) ?_) ?_
    · subst hr
      (repeat' first | exact modI (by decide) | with_reducible apply x_c | with_reducible apply x_v | with_reducible apply o_pk | with_reducible apply o_e | with_reducible exact xs_nil | with_reducible exact xo_nil | with_reducible exact xa_nil | with_reducible apply xs_cons | with_reducible apply xo_cons | with_reducible apply xa_v | with_reducible apply xa_o | with_reducible apply xa_p | with_reducible apply xa_sc | with_reducible apply x_tup | with_reducible apply x_lst | with_reducible apply x_bin | with_reducible apply x_cmp | with_reducible apply x_ix | with_reducible apply x_isi | with_reducible apply x_bf | with_reducible apply x_neg | with_reducible apply x_nt | with_reducible apply x_chain | with_reducible apply x_cut | with_reducible exact xb_n | with_reducible apply xb_s | with_reducible apply x_sc | with_reducible apply x_call | rfl)
    simp only [List.set_cons_succ, List.set_cons_zero]
    have b4 : 0 ≤ y * (a + 3) ∧ y * (a + 3) < 2 ^ 53 := by
      refine ⟨Int.mul_nonneg y0.1 (by omega), ?_⟩
      have : y * (a + 3) ≤ 2 ^ 31 * (2 ^ 20 + 3) := Int.mul_le_mul (by omega) (by omega) (by omega) (by decide)
      omega
    refine of_eq (p_asg (d := .int ((y * (a + 3) + (q + 5)) ^ 5 % p2)) ?_) ?_
    · (repeat' first | exact powI (by omega) (by decide) (by decide) | exact modI (by assumption) | exact modI (by decide) | exact i2 | exact mulI (by omega) (by omega) | with_reducible apply x_c | with_reducible apply x_v | with_reducible apply o_pk | with_reducible apply o_e | with_reducible exact xs_nil | with_reducible exact xo_nil | with_reducible exact xa_nil | with_reducible apply xs_cons | with_reducible apply xo_cons | with_reducible apply xa_v | with_reducible apply xa_o | with_reducible apply xa_p | with_reducible apply xa_sc | with_reducible apply x_tup | with_reducible apply x_lst | with_reducible apply x_bin | with_reducible apply x_cmp | with_reducible apply x_ix | with_reducible apply x_isi | with_reducible apply x_bf | with_reducible apply x_neg | with_reducible apply x_nt | with_reducible apply x_chain | with_reducible apply x_cut | with_reducible exact xb_n | with_reducible apply xb_s | with_reducible apply x_sc | with_reducible apply x_call | rfl)
    simp only [List.set_cons_succ, List.set_cons_zero]
    have z0 : 0 ≤ (y * (a + 3) + (q + 5)) ^ 5 % p2 ∧ (y * (a + 3) + (q + 5)) ^ 5 % p2 < 2 ^ 31 := ⟨Int.emod_nonneg _ (by omega), by have := Int.emod_lt_of_pos ((y * (a + 3) + (q + 5)) ^ 5) p2a; omega⟩
    generalize (y * (a + 3) + (q + 5)) ^ 5 % p2 = z at z0
    have y1 : 0 ≤ y % 1009 ∧ y % 1009 < 1009 := ⟨Int.emod_nonneg _ (by decide), Int.emod_lt_of_pos _ (by decide)⟩
    refine of_eq (p_asg (d := .int ((z + y % 1009 + a) ^ 3 % p3)) ?_) ?_
    · (repeat' first | exact powI (by omega) (by decide) (by decide) | exact modI (by assumption) | exact modI (by decide) | exact i3 | with_reducible apply x_c | with_reducible apply x_v | with_reducible apply o_pk | with_reducible apply o_e | with_reducible exact xs_nil | with_reducible exact xo_nil | with_reducible exact xa_nil | with_reducible apply xs_cons | with_reducible apply xo_cons | with_reducible apply xa_v | with_reducible apply xa_o | with_reducible apply xa_p | with_reducible apply xa_sc | with_reducible apply x_tup | with_reducible apply x_lst | with_reducible apply x_bin | with_reducible apply x_cmp | with_reducible apply x_ix | with_reducible apply x_isi | with_reducible apply x_bf | with_reducible apply x_neg | with_reducible apply x_nt | with_reducible apply x_chain | with_reducible apply x_cut | with_reducible exact xb_n | with_reducible apply xb_s | with_reducible apply x_sc | with_reducible apply x_call | rfl)
    simp only [List.set_cons_succ, List.set_cons_zero]
    refine of_eq (p_ret (d := .int ((y * 2147483647 + z) * 2147483647 + (z + y % 1009 + a) ^ 3 % p3)) ?_) ⟨_, _, _, _, rfl⟩
    (repeat' first | exact mulI (by omega) (by omega) | with_reducible apply x_c | with_reducible apply x_v | with_reducible apply o_pk | with_reducible apply o_e | with_reducible exact xs_nil | with_reducible exact xo_nil | with_reducible exact xa_nil | with_reducible apply xs_cons | with_reducible apply xo_cons | with_reducible apply xa_v | with_reducible apply xa_o | with_reducible apply xa_p | with_reducible apply xa_sc | with_reducible apply x_tup | with_reducible apply x_lst | with_reducible apply x_bin | with_reducible apply x_cmp | with_reducible apply x_ix | with_reducible apply x_isi | with_reducible apply x_bf | with_reducible apply x_neg | with_reducible apply x_nt | with_reducible apply x_chain | with_reducible apply x_cut | with_reducible exact xb_n | with_reducible apply xb_s | with_reducible apply x_sc | with_reducible apply x_call | rfl)

def SpreadS (φ : Sem1) : Prop := ∀ c a : Int, 0 ≤ a → a ≤ 2 ^ 20 → ∃ (r : Int) (x y : Sl), φ [.sh (.int c), .sh (.int a)] = some (.int r, [x, y])
def takeF (js : Nat) : FunDef := ⟨"_law_take", 2, 5, .sh, [0], (ss [
    .ite (.cmp .Lt (.ix (.pk 0) (.c (.int 2))) (.pk 1)) (ss [.asg 2 (.ix (.pk 0) (.c (.int 1))), .asg 3 (.c (.int 0)), .ite (.cmp .Lt (.pk 2) (.bf .len (es [.ix (.pk 0) (.c (.int 0))]))) (ss [.asg 3 (.ix (.ix (.pk 0) (.c (.int 0))) (.pk 2))]) (ss [.ite (.cmp .Gt (.bf .len (es [.ix (.pk 0) (.c (.int 0))])) (.c (.int 0))) (ss [.asg 3 (.bin .Mod (.bf .int (es [.ix (.ix (.pk 0) (.c (.int 0))) (.bin .Mod (.bf .int (es [.bin .Add (.bin .Mult (.pk 2) (.c (.int 5))) (.c (.int 3))])) (.bf .len (es [.ix (.pk 0) (.c (.int 0))])))])) (.bin .Add (.bin .Pow (.c (.int 10)) (.c (.int 17))) (.pk 2)))]) (ss [])]), .setI 0 (.c (.int 1)) (.bin .Add (.pk 2) (.c (.int 1))), .setI 0 (.c (.int 2)) (.call js false (.v (.v 3) (.v (.v 2) .nil)))]) (ss []),
    .asg 4 (.bin .Mod (.bf .int (es [.ix (.pk 0) (.c (.int 2))])) (.pk 1)),
    .setI 0 (.c (.int 2)) (.bin .FloorDiv (.ix (.pk 0) (.c (.int 2))) (.pk 1)),
    .ret (.v 4)])⟩
def penL (cs : List Int) (a r : Int) : Ob := .l [.list (cs.map .int), .int a, .int r]
def PenOk (n : Nat) (o : Ob) : Prop := ∃ (cs : List Int) (a r : Int), o = penL cs a r ∧ 0 ≤ a ∧ a ≤ n ∧ cs.length ≤ 12
def TakeQ (n : Nat) (m : Int) (f : Fl) : Prop := ∃ (r : Int) (o : Ob) (x y z : Sl), f = .rt (.int r) [.ow o, .sh (.int m), x, y, z] ∧ 0 ≤ r ∧ r < m ∧ PenOk n o
theorem atI_in {α : Type} {l : List α} {i : Int} (h0 : 0 ≤ i) (h1 : i < l.length) : ∃ x, L2.atI l i = some x ∧ x ∈ l := by
  have h2 : i.toNat < l.length := by omega
  refine ⟨l[i.toNat], ?_, List.getElem_mem h2⟩
  have := L2.atI_nat (xs := l) (j := i.toNat) (v := l[i.toNat]) (List.getElem?_eq_getElem h2)
  rwa [Int.toNat_of_nonneg h0] at this
theorem ix_int {cs : List Int} {i : Int} (h0 : 0 ≤ i) (h1 : i < cs.length) : ∃ c : Int, ixD (.list (cs.map .int)) (.int i) = some (.int c) := by
  obtain ⟨x, h2, h3⟩ := atI_in (l := cs.map PyData.int) h0 (by simpa using h1)
  obtain ⟨c, _, rfl⟩ := List.mem_map.mp h3
  exact ⟨c, h2⟩
theorem take_end (Φ : Nat → Sem1) (W : Nat) {n : Nat} {cs : List Int} {a r m : Int} {x y z : Sl} (ha : 0 ≤ a) (hn : a ≤ n) (hc : cs.length ≤ 12) (h1 : 1 ≤ m) (h2 : m < 2 ^ 60) :
    TakeQ n m (sts Φ W (ss [.asg 4 (.bin .Mod (.bf .int (es [.ix (.pk 0) (.c (.int 2))])) (.pk 1)),
    .setI 0 (.c (.int 2)) (.bin .FloorDiv (.ix (.pk 0) (.c (.int 2))) (.pk 1)),
    .ret (.v 4)]) [.ow (penL cs a r), .sh (.int m), x, y, z]) := by
  refine of_eq (p_asg (d := .int (r % m)) ?_) ?_
  · (repeat' first | exact modI (by omega) | with_reducible apply x_c | with_reducible apply x_v | with_reducible apply o_pk | with_reducible apply o_e | with_reducible exact xs_nil | with_reducible exact xo_nil | with_reducible exact xa_nil | with_reducible apply xs_cons | with_reducible apply xo_cons | with_reducible apply xa_v | with_reducible apply xa_o | with_reducible apply xa_p | with_reducible apply xa_sc | with_reducible apply x_tup | with_reducible apply x_lst | with_reducible apply x_bin | with_reducible apply x_cmp | with_reducible apply x_ix | with_reducible apply x_isi | with_reducible apply x_bf | with_reducible apply x_neg | with_reducible apply x_nt | with_reducible apply x_chain | with_reducible apply x_cut | with_reducible exact xb_n | with_reducible apply xb_s | with_reducible apply x_sc | with_reducible apply x_call | rfl)
  simp only [List.set_cons_succ, List.set_cons_zero]
  refine of_eq (s_setI (d := .int (r / m)) (s1 := [.ow (penL cs a r), .sh (.int m), x, y, .sh (.int (r % m))]) (s2 := [.ow (penL cs a r), .sh (.int m), x, y, .sh (.int (r % m))]) (kd := .int 2) (o := penL cs a r) (o1 := penL cs a (r / m)) ?_ rfl ?_ rfl rfl rfl) ?_
  · (repeat' first | exact divI (by omega) (by omega) | with_reducible apply x_c | with_reducible apply x_v | with_reducible apply o_pk | with_reducible apply o_e | with_reducible exact xs_nil | with_reducible exact xo_nil | with_reducible exact xa_nil | with_reducible apply xs_cons | with_reducible apply xo_cons | with_reducible apply xa_v | with_reducible apply xa_o | with_reducible apply xa_p | with_reducible apply xa_sc | with_reducible apply x_tup | with_reducible apply x_lst | with_reducible apply x_bin | with_reducible apply x_cmp | with_reducible apply x_ix | with_reducible apply x_isi | with_reducible apply x_bf | with_reducible apply x_neg | with_reducible apply x_nt | with_reducible apply x_chain | with_reducible apply x_cut | with_reducible exact xb_n | with_reducible apply xb_s | with_reducible apply x_sc | with_reducible apply x_call | rfl)
  · (repeat' first | with_reducible apply x_c | with_reducible apply x_v | with_reducible apply o_pk | with_reducible apply o_e | with_reducible exact xs_nil | with_reducible exact xo_nil | with_reducible exact xa_nil | with_reducible apply xs_cons | with_reducible apply xo_cons | with_reducible apply xa_v | with_reducible apply xa_o | with_reducible apply xa_p | with_reducible apply xa_sc | with_reducible apply x_tup | with_reducible apply x_lst | with_reducible apply x_bin | with_reducible apply x_cmp | with_reducible apply x_ix | with_reducible apply x_isi | with_reducible apply x_bf | with_reducible apply x_neg | with_reducible apply x_nt | with_reducible apply x_chain | with_reducible apply x_cut | with_reducible exact xb_n | with_reducible apply xb_s | with_reducible apply x_sc | with_reducible apply x_call | rfl)
  simp only [List.set_cons_succ, List.set_cons_zero]
  exact ⟨r % m, penL cs a (r / m), x, y, _, s_ret (x_v rfl), Int.emod_nonneg _ (by omega), Int.emod_lt_of_pos _ (by omega), cs, a, r / m, rfl, ha, hn, hc⟩
theorem take_ok {Φ : Nat → Sem1} {W js : Nat} (hs : SpreadS (Φ js)) {n : Nat} {o : Ob} {m : Int} (hp : PenOk n o) (hn : n < 2 ^ 20) (h1 : 1 ≤ m) (h2 : m < 2 ^ 60) :
    TakeQ (n + 1) m (sts Φ W (takeF js).body [.ow o, .sh (.int m), .un, .un, .un]) := by
  obtain ⟨cs, a, r, rfl, ha, han, hc⟩ := hp
  have cmp : ev Φ (.cmp .Lt (.ix (.pk 0) (.c (.int 2))) (.pk 1)) [.ow (penL cs a r), .sh (.int m), .un, .un, .un] = .ok (.bool (decide (r < m))) [.ow (penL cs a r), .sh (.int m), .un, .un, .un] := by
    (repeat' first | with_reducible apply x_c | with_reducible apply x_v | with_reducible apply o_pk | with_reducible apply o_e | with_reducible exact xs_nil | with_reducible exact xo_nil | with_reducible exact xa_nil | with_reducible apply xs_cons | with_reducible apply xo_cons | with_reducible apply xa_v | with_reducible apply xa_o | with_reducible apply xa_p | with_reducible apply xa_sc | with_reducible apply x_tup | with_reducible apply x_lst | with_reducible apply x_bin | with_reducible apply x_cmp | with_reducible apply x_ix | with_reducible apply x_isi | with_reducible apply x_bf | with_reducible apply x_neg | with_reducible apply x_nt | with_reducible apply x_chain | with_reducible apply x_cut | with_reducible exact xb_n | with_reducible apply xb_s | with_reducible apply x_sc | with_reducible apply x_call | rfl)
  by_cases hr : r < m
  · rw [decide_eq_true hr] at cmp
    refine of_eq (s_ifT cmp rfl rfl) ?_
    have tail : ∀ c : Int, TakeQ (n + 1) m (thenF (sts Φ W (ss [.setI 0 (.c (.int 1)) (.bin .Add (.pk 2) (.c (.int 1))), .setI 0 (.c (.int 2)) (.call js false (.v (.v 3) (.v (.v 2) .nil)))]) [.ow (penL cs a r), .sh (.int m), .sh (.int a), .sh (.int c), .un]) (sts Φ W (ss [.asg 4 (.bin .Mod (.bf .int (es [.ix (.pk 0) (.c (.int 2))])) (.pk 1)),
    .setI 0 (.c (.int 2)) (.bin .FloorDiv (.ix (.pk 0) (.c (.int 2))) (.pk 1)),
    .ret (.v 4)]))) := fun c => by
      obtain ⟨r2, x, y, hsp⟩ := hs c a ha (by omega)
      have e1 : sts Φ W (ss [.setI 0 (.c (.int 1)) (.bin .Add (.pk 2) (.c (.int 1))), .setI 0 (.c (.int 2)) (.call js false (.v (.v 3) (.v (.v 2) .nil)))]) [.ow (penL cs a r), .sh (.int m), .sh (.int a), .sh (.int c), .un] = .nx [.ow (penL cs (a + 1) r2), .sh (.int m), .sh (.int a), .sh (.int c), .un] := by
        refine s_setI (d := .int (a + 1)) (s1 := [.ow (penL cs a r), .sh (.int m), .sh (.int a), .sh (.int c), .un]) (s2 := [.ow (penL cs a r), .sh (.int m), .sh (.int a), .sh (.int c), .un]) (kd := .int 1) (o := penL cs a r) (o1 := penL cs (a + 1) r) ?_ rfl ?_ rfl rfl ?_
        · (repeat' first | with_reducible apply x_c | with_reducible apply x_v | with_reducible apply o_pk | with_reducible apply o_e | with_reducible exact xs_nil | with_reducible exact xo_nil | with_reducible exact xa_nil | with_reducible apply xs_cons | with_reducible apply xo_cons | with_reducible apply xa_v | with_reducible apply xa_o | with_reducible apply xa_p | with_reducible apply xa_sc | with_reducible apply x_tup | with_reducible apply x_lst | with_reducible apply x_bin | with_reducible apply x_cmp | with_reducible apply x_ix | with_reducible apply x_isi | with_reducible apply x_bf | with_reducible apply x_neg | with_reducible apply x_nt | with_reducible apply x_chain | with_reducible apply x_cut | with_reducible exact xb_n | with_reducible apply xb_s | with_reducible apply x_sc | with_reducible apply x_call | rfl)
        · (repeat' first | with_reducible apply x_c | with_reducible apply x_v | with_reducible apply o_pk | with_reducible apply o_e | with_reducible exact xs_nil | with_reducible exact xo_nil | with_reducible exact xa_nil | with_reducible apply xs_cons | with_reducible apply xo_cons | with_reducible apply xa_v | with_reducible apply xa_o | with_reducible apply xa_p | with_reducible apply xa_sc | with_reducible apply x_tup | with_reducible apply x_lst | with_reducible apply x_bin | with_reducible apply x_cmp | with_reducible apply x_ix | with_reducible apply x_isi | with_reducible apply x_bf | with_reducible apply x_neg | with_reducible apply x_nt | with_reducible apply x_chain | with_reducible apply x_cut | with_reducible exact xb_n | with_reducible apply xb_s | with_reducible apply x_sc | with_reducible apply x_call | rfl)
        simp only [List.set_cons_succ, List.set_cons_zero]
        refine s_setI (d := .int r2) (s1 := [.ow (penL cs (a + 1) r), .sh (.int m), .sh (.int a), .sh (.int c), .un]) (s2 := [.ow (penL cs (a + 1) r), .sh (.int m), .sh (.int a), .sh (.int c), .un]) (kd := .int 2) (o := penL cs (a + 1) r) (o1 := penL cs (a + 1) r2) ?_ rfl ?_ rfl rfl ?_
        · refine x_call (avs := [.v (.int c), .v (.int a)]) (s1 := [.ow (penL cs (a + 1) r), .sh (.int m), .sh (.int a), .sh (.int c), .un]) ?_ (do_ok rfl rfl hsp rfl rfl)
          (repeat' first | with_reducible apply x_c | with_reducible apply x_v | with_reducible apply o_pk | with_reducible apply o_e | with_reducible exact xs_nil | with_reducible exact xo_nil | with_reducible exact xa_nil | with_reducible apply xs_cons | with_reducible apply xo_cons | with_reducible apply xa_v | with_reducible apply xa_o | with_reducible apply xa_p | with_reducible apply xa_sc | with_reducible apply x_tup | with_reducible apply x_lst | with_reducible apply x_bin | with_reducible apply x_cmp | with_reducible apply x_ix | with_reducible apply x_isi | with_reducible apply x_bf | with_reducible apply x_neg | with_reducible apply x_nt | with_reducible apply x_chain | with_reducible apply x_cut | with_reducible exact xb_n | with_reducible apply xb_s | with_reducible apply x_sc | with_reducible apply x_call | rfl)
        · (repeat' first | with_reducible apply x_c | with_reducible apply x_v | with_reducible apply o_pk | with_reducible apply o_e | with_reducible exact xs_nil | with_reducible exact xo_nil | with_reducible exact xa_nil | with_reducible apply xs_cons | with_reducible apply xo_cons | with_reducible apply xa_v | with_reducible apply xa_o | with_reducible apply xa_p | with_reducible apply xa_sc | with_reducible apply x_tup | with_reducible apply x_lst | with_reducible apply x_bin | with_reducible apply x_cmp | with_reducible apply x_ix | with_reducible apply x_isi | with_reducible apply x_bf | with_reducible apply x_neg | with_reducible apply x_nt | with_reducible apply x_chain | with_reducible apply x_cut | with_reducible exact xb_n | with_reducible apply xb_s | with_reducible apply x_sc | with_reducible apply x_call | rfl)
        rfl
      refine of_eq (f := thenF _ _) (congrArg (fun z => thenF z _) e1) ?_
      exact take_end Φ W (by omega) (by omega) hc h1 h2
    have hlen : ev Φ (.bf .len (es [.ix (.pk 0) (.c (.int 0))])) [.ow (penL cs a r), .sh (.int m), .sh (.int a), .sh (.int 0), .un] = .ok (.int cs.length) [.ow (penL cs a r), .sh (.int m), .sh (.int a), .sh (.int 0), .un] := by
      have : (PyData.int ((cs.map PyData.int).length : Int)) = .int cs.length := by rw [List.length_map]
      rw [← this]
      (repeat' first | with_reducible apply x_c | with_reducible apply x_v | with_reducible apply o_pk | with_reducible apply o_e | with_reducible exact xs_nil | with_reducible exact xo_nil | with_reducible exact xa_nil | with_reducible apply xs_cons | with_reducible apply xo_cons | with_reducible apply xa_v | with_reducible apply xa_o | with_reducible apply xa_p | with_reducible apply xa_sc | with_reducible apply x_tup | with_reducible apply x_lst | with_reducible apply x_bin | with_reducible apply x_cmp | with_reducible apply x_ix | with_reducible apply x_isi | with_reducible apply x_bf | with_reducible apply x_neg | with_reducible apply x_nt | with_reducible apply x_chain | with_reducible apply x_cut | with_reducible exact xb_n | with_reducible apply xb_s | with_reducible apply x_sc | with_reducible apply x_call | rfl)
    have e2 : ev Φ (.cmp .Lt (.pk 2) (.bf .len (es [.ix (.pk 0) (.c (.int 0))]))) [.ow (penL cs a r), .sh (.int m), .sh (.int a), .sh (.int 0), .un] = .ok (.bool (decide (a < cs.length))) [.ow (penL cs a r), .sh (.int m), .sh (.int a), .sh (.int 0), .un] := by
      (repeat' first | exact hlen | with_reducible apply x_c | with_reducible apply x_v | with_reducible apply o_pk | with_reducible apply o_e | with_reducible exact xs_nil | with_reducible exact xo_nil | with_reducible exact xa_nil | with_reducible apply xs_cons | with_reducible apply xo_cons | with_reducible apply xa_v | with_reducible apply xa_o | with_reducible apply xa_p | with_reducible apply xa_sc | with_reducible apply x_tup | with_reducible apply x_lst | with_reducible apply x_bin | with_reducible apply x_cmp | with_reducible apply x_ix | with_reducible apply x_isi | with_reducible apply x_bf | with_reducible apply x_neg | with_reducible apply x_nt | with_reducible apply x_chain | with_reducible apply x_cut | with_reducible exact xb_n | with_reducible apply xb_s | with_reducible apply x_sc | with_reducible apply x_call | rfl)
    have e3 : ev Φ (.cmp .Gt (.bf .len (es [.ix (.pk 0) (.c (.int 0))])) (.c (.int 0))) [.ow (penL cs a r), .sh (.int m), .sh (.int a), .sh (.int 0), .un] = .ok (.bool (decide ((0 : Int) < cs.length))) [.ow (penL cs a r), .sh (.int m), .sh (.int a), .sh (.int 0), .un] := by
      (repeat' first | exact hlen | with_reducible apply x_c | with_reducible apply x_v | with_reducible apply o_pk | with_reducible apply o_e | with_reducible exact xs_nil | with_reducible exact xo_nil | with_reducible exact xa_nil | with_reducible apply xs_cons | with_reducible apply xo_cons | with_reducible apply xa_v | with_reducible apply xa_o | with_reducible apply xa_p | with_reducible apply xa_sc | with_reducible apply x_tup | with_reducible apply x_lst | with_reducible apply x_bin | with_reducible apply x_cmp | with_reducible apply x_ix | with_reducible apply x_isi | with_reducible apply x_bf | with_reducible apply x_neg | with_reducible apply x_nt | with_reducible apply x_chain | with_reducible apply x_cut | with_reducible exact xb_n | with_reducible apply xb_s | with_reducible apply x_sc | with_reducible apply x_call | rfl)
    have body : ∃ c : Int, ∀ q : Ss, sts Φ W (.cons (.asg 2 (.ix (.pk 0) (.c (.int 1)))) (.cons (.asg 3 (.c (.int 0))) (.cons (.ite (.cmp .Lt (.pk 2) (.bf .len (es [.ix (.pk 0) (.c (.int 0))]))) (ss [.asg 3 (.ix (.ix (.pk 0) (.c (.int 0))) (.pk 2))]) (ss [.ite (.cmp .Gt (.bf .len (es [.ix (.pk 0) (.c (.int 0))])) (.c (.int 0))) (ss [.asg 3 (.bin .Mod (.bf .int (es [.ix (.ix (.pk 0) (.c (.int 0))) (.bin .Mod (.bf .int (es [.bin .Add (.bin .Mult (.pk 2) (.c (.int 5))) (.c (.int 3))])) (.bf .len (es [.ix (.pk 0) (.c (.int 0))])))])) (.bin .Add (.bin .Pow (.c (.int 10)) (.c (.int 17))) (.pk 2)))]) (ss [])])) q))) [.ow (penL cs a r), .sh (.int m), .un, .un, .un] = sts Φ W q [.ow (penL cs a r), .sh (.int m), .sh (.int a), .sh (.int c), .un] := by
      have start : ∀ q : Ss, sts Φ W (.cons (.asg 2 (.ix (.pk 0) (.c (.int 1)))) (.cons (.asg 3 (.c (.int 0))) q)) [.ow (penL cs a r), .sh (.int m), .un, .un, .un] = sts Φ W q [.ow (penL cs a r), .sh (.int m), .sh (.int a), .sh (.int 0), .un] := fun q => by
        refine (p_asg (d := .int a) ?_).trans ?_
        · (repeat' first | with_reducible apply x_c | with_reducible apply x_v | with_reducible apply o_pk | with_reducible apply o_e | with_reducible exact xs_nil | with_reducible exact xo_nil | with_reducible exact xa_nil | with_reducible apply xs_cons | with_reducible apply xo_cons | with_reducible apply xa_v | with_reducible apply xa_o | with_reducible apply xa_p | with_reducible apply xa_sc | with_reducible apply x_tup | with_reducible apply x_lst | with_reducible apply x_bin | with_reducible apply x_cmp | with_reducible apply x_ix | with_reducible apply x_isi | with_reducible apply x_bf | with_reducible apply x_neg | with_reducible apply x_nt | with_reducible apply x_chain | with_reducible apply x_cut | with_reducible exact xb_n | with_reducible apply xb_s | with_reducible apply x_sc | with_reducible apply x_call | rfl)
        refine (p_asg (d := .int 0) ?_).trans ?_
        · (repeat' first | with_reducible apply x_c | with_reducible apply x_v | with_reducible apply o_pk | with_reducible apply o_e | with_reducible exact xs_nil | with_reducible exact xo_nil | with_reducible exact xa_nil | with_reducible apply xs_cons | with_reducible apply xo_cons | with_reducible apply xa_v | with_reducible apply xa_o | with_reducible apply xa_p | with_reducible apply xa_sc | with_reducible apply x_tup | with_reducible apply x_lst | with_reducible apply x_bin | with_reducible apply x_cmp | with_reducible apply x_ix | with_reducible apply x_isi | with_reducible apply x_bf | with_reducible apply x_neg | with_reducible apply x_nt | with_reducible apply x_chain | with_reducible apply x_cut | with_reducible exact xb_n | with_reducible apply xb_s | with_reducible apply x_sc | with_reducible apply x_call | rfl)
        rfl
      by_cases c1 : a < cs.length
      · rw [decide_eq_true c1] at e2
        obtain ⟨c, hcx⟩ := ix_int ha c1
        refine ⟨c, fun q => (start _).trans (s_ifT e2 rfl ?_)⟩
        have : sts Φ W (ss [.asg 3 (.ix (.ix (.pk 0) (.c (.int 0))) (.pk 2))]) [.ow (penL cs a r), .sh (.int m), .sh (.int a), .sh (.int 0), .un] = .nx [.ow (penL cs a r), .sh (.int m), .sh (.int a), .sh (.int c), .un] := by
          refine (p_asg (d := .int c) ?_).trans ?_
          · (repeat' first | exact hcx | with_reducible apply x_c | with_reducible apply x_v | with_reducible apply o_pk | with_reducible apply o_e | with_reducible exact xs_nil | with_reducible exact xo_nil | with_reducible exact xa_nil | with_reducible apply xs_cons | with_reducible apply xo_cons | with_reducible apply xa_v | with_reducible apply xa_o | with_reducible apply xa_p | with_reducible apply xa_sc | with_reducible apply x_tup | with_reducible apply x_lst | with_reducible apply x_bin | with_reducible apply x_cmp | with_reducible apply x_ix | with_reducible apply x_isi | with_reducible apply x_bf | with_reducible apply x_neg | with_reducible apply x_nt | with_reducible apply x_chain | with_reducible apply x_cut | with_reducible exact xb_n | with_reducible apply xb_s | with_reducible apply x_sc | with_reducible apply x_call | rfl)
          rfl
        rw [this]
        rfl
      · rw [decide_eq_false c1] at e2
        by_cases c2 : (0 : Int) < cs.length
        · rw [decide_eq_true c2] at e3
          obtain ⟨c, hcx⟩ := ix_int (cs := cs) (i := (a * 5 + 3) % cs.length) (Int.emod_nonneg _ (by omega)) (Int.emod_lt_of_pos _ (by omega))
          refine ⟨c % (10 ^ 17 + a), fun q => (start _).trans (s_elF e2 rfl ?_)⟩
          have : sts Φ W (ss [.ite (.cmp .Gt (.bf .len (es [.ix (.pk 0) (.c (.int 0))])) (.c (.int 0))) (ss [.asg 3 (.bin .Mod (.bf .int (es [.ix (.ix (.pk 0) (.c (.int 0))) (.bin .Mod (.bf .int (es [.bin .Add (.bin .Mult (.pk 2) (.c (.int 5))) (.c (.int 3))])) (.bf .len (es [.ix (.pk 0) (.c (.int 0))])))])) (.bin .Add (.bin .Pow (.c (.int 10)) (.c (.int 17))) (.pk 2)))]) (ss [])]) [.ow (penL cs a r), .sh (.int m), .sh (.int a), .sh (.int 0), .un] = .nx [.ow (penL cs a r), .sh (.int m), .sh (.int a), .sh (.int (c % (10 ^ 17 + a))), .un] := by
            refine s_ifT e3 rfl ?_
            refine (congrArg (fun z => thenF z _) (p_asg (d := .int (c % (10 ^ 17 + a))) ?_)).trans ?_
            · (repeat' first | exact hlen | exact mulI (by omega) (by decide) | exact modI c2 | exact powI (by decide) (by decide) (by decide) | exact hcx | exact modI (show (0 : Int) < 10 ^ 17 + a by omega) | with_reducible apply x_c | with_reducible apply x_v | with_reducible apply o_pk | with_reducible apply o_e | with_reducible exact xs_nil | with_reducible exact xo_nil | with_reducible exact xa_nil | with_reducible apply xs_cons | with_reducible apply xo_cons | with_reducible apply xa_v | with_reducible apply xa_o | with_reducible apply xa_p | with_reducible apply xa_sc | with_reducible apply x_tup | with_reducible apply x_lst | with_reducible apply x_bin | with_reducible apply x_cmp | with_reducible apply x_ix | with_reducible apply x_isi | with_reducible apply x_bf | with_reducible apply x_neg | with_reducible apply x_nt | with_reducible apply x_chain | with_reducible apply x_cut | with_reducible exact xb_n | with_reducible apply xb_s | with_reducible apply x_sc | with_reducible apply x_call | rfl)
            rfl
          rw [this]
          rfl
        · rw [decide_eq_false c2] at e3
          refine ⟨0, fun q => (start _).trans (s_elF e2 rfl ?_)⟩
          have : sts Φ W (ss [.ite (.cmp .Gt (.bf .len (es [.ix (.pk 0) (.c (.int 0))])) (.c (.int 0))) (ss [.asg 3 (.bin .Mod (.bf .int (es [.ix (.ix (.pk 0) (.c (.int 0))) (.bin .Mod (.bf .int (es [.bin .Add (.bin .Mult (.pk 2) (.c (.int 5))) (.c (.int 3))])) (.bf .len (es [.ix (.pk 0) (.c (.int 0))])))])) (.bin .Add (.bin .Pow (.c (.int 10)) (.c (.int 17))) (.pk 2)))]) (ss [])]) [.ow (penL cs a r), .sh (.int m), .sh (.int a), .sh (.int 0), .un] = .nx [.ow (penL cs a r), .sh (.int m), .sh (.int a), .sh (.int 0), .un] := s_ifF e3 rfl rfl
          rw [this]
          rfl
    obtain ⟨c, hb⟩ := body
    refine of_eq (f := thenF _ _) (congrArg (fun z => thenF z _) (hb _)) ?_
    exact tail c
  · rw [decide_eq_false hr] at cmp
    refine of_eq (s_ifF cmp rfl rfl) ?_
    exact take_end Φ W ha (by omega) hc h1 h2

end L3

set_option Elab.async false
set_option linter.all false
set_option maxRecDepth 100000
set_option maxHeartbeats 4000000
/-! the pen's defs as promises -/
namespace L3
open PySem PySem.Spec L2
theorem spreadS {Φ : Nat → Sem1} {W : Nat} : SpreadS (runDef Φ W spreadF) := fun c a h0 h1 => by
  obtain ⟨r, x, y, t, h⟩ := spread_ok Φ W c a h0 h1
  exact ⟨r, x, y, run_rt (f := spreadF) (args := [.sh (.int c), .sh (.int a)]) rfl rfl h⟩
def TakeS (φ : Sem1) : Prop := ∀ (n : Nat) (o : Ob) (m : Int), PenOk n o → n < 2 ^ 20 → 1 ≤ m → m < 2 ^ 60 →
  ∃ (r : Int) (o1 : Ob) (x : Sl), φ [.ow o, .sh (.int m)] = some (.int r, [.ow o1, x]) ∧ 0 ≤ r ∧ r < m ∧ PenOk (n + 1) o1
theorem takeS {Φ : Nat → Sem1} {W js : Nat} (h : SpreadS (Φ js)) : TakeS (runDef Φ W (takeF js)) := fun n o m hp hn h1 h2 => by
  obtain ⟨r, o1, x, y, z, e, r0, r1, hp1⟩ := take_ok (W := W) h hp hn h1 h2
  exact ⟨r, o1, _, run_rt (f := takeF js) (args := [.ow o, .sh (.int m)]) rfl rfl e, r0, r1, hp1⟩
def oneF (jt : Nat) : FunDef := ⟨"_law_one", 2, 2, .sh, [0], (ss [
    .ret (.ix (.pk 1) (.call jt false (.o 0 (.v (.bf .len (es [.pk 1])) .nil))))])⟩
def OneS (φ : Sem1) : Prop := ∀ (n : Nat) (o : Ob) (xs : List D), PenOk n o → n < 2 ^ 20 → xs ≠ [] → xs.length < 2 ^ 60 →
  ∃ (d : D) (o1 : Ob) (x : Sl), φ [.ow o, .sh (.list xs)] = some (d, [.ow o1, x]) ∧ d ∈ xs ∧ PenOk (n + 1) o1
theorem oneS {Φ : Nat → Sem1} {W jt : Nat} (h : TakeS (Φ jt)) : OneS (runDef Φ W (oneF jt)) := fun n o xs hp hn h1 h2 => by
  have hl : 0 < xs.length := List.length_pos_iff.mpr h1
  obtain ⟨r, o1, x, e, r0, r1, hp1⟩ := h n o xs.length hp hn (by omega) (by omega)
  obtain ⟨d, hd, hm⟩ := atI_in (l := xs) r0 r1
  have hc : ev Φ (.call jt false (.o 0 (.v (.bf .len (es [.pk 1])) .nil))) [.ow o, .sh (.list xs)] = .ok (.int r) [.ow o1, .sh (.list xs)] := by
    refine x_call (avs := [.o 0, .v (.int xs.length)]) (s1 := [.ow o, .sh (.list xs)]) ?_ (do_ok rfl rfl e rfl rfl)
    (repeat' first | with_reducible apply x_c | with_reducible apply x_v | with_reducible apply o_pk | with_reducible apply o_e | with_reducible exact xs_nil | with_reducible exact xo_nil | with_reducible exact xa_nil | with_reducible apply xs_cons | with_reducible apply xo_cons | with_reducible apply xa_v | with_reducible apply xa_o | with_reducible apply xa_p | with_reducible apply xa_sc | with_reducible apply x_tup | with_reducible apply x_lst | with_reducible apply x_bin | with_reducible apply x_cmp | with_reducible apply x_ix | with_reducible apply x_isi | with_reducible apply x_bf | with_reducible apply x_neg | with_reducible apply x_nt | with_reducible apply x_chain | with_reducible apply x_cut | with_reducible exact xb_n | with_reducible apply xb_s | with_reducible apply x_sc | with_reducible apply x_call | rfl)
  refine ⟨d, o1, _, run_rt (f := oneF jt) (args := [.ow o, .sh (.list xs)]) (s := [.ow o1, .sh (.list xs)]) rfl rfl (s_ret ?_), hm, hp1⟩
  (repeat' first | exact hc | exact hd | with_reducible apply x_c | with_reducible apply x_v | with_reducible apply o_pk | with_reducible apply o_e | with_reducible exact xs_nil | with_reducible exact xo_nil | with_reducible exact xa_nil | with_reducible apply xs_cons | with_reducible apply xo_cons | with_reducible apply xa_v | with_reducible apply xa_o | with_reducible apply xa_p | with_reducible apply xa_sc | with_reducible apply x_tup | with_reducible apply x_lst | with_reducible apply x_bin | with_reducible apply x_cmp | with_reducible apply x_ix | with_reducible apply x_isi | with_reducible apply x_bf | with_reducible apply x_neg | with_reducible apply x_nt | with_reducible apply x_chain | with_reducible apply x_cut | with_reducible exact xb_n | with_reducible apply xb_s | with_reducible apply x_sc | with_reducible apply x_call | rfl)
def anewF : FunDef := ⟨"_law_anew", 1, 1, .io 0, [0], (ss [
    .setI 0 (.c (.int 2)) (.c (.int 0)),
    .retI 0])⟩
def AnewS (φ : Sem1) : Prop := ∀ (n : Nat) (o : Ob), PenOk n o → ∃ o1 : Ob, φ [.ow o] = some (.none, [.ow o1]) ∧ PenOk n o1
theorem anewS {Φ : Nat → Sem1} {W : Nat} : AnewS (runDef Φ W anewF) := by
  rintro n o ⟨cs, a, r, rfl, h1, h2, h3⟩
  refine ⟨penL cs a 0, run_rt (f := anewF) (args := [.ow (penL cs a r)]) (s := [.ow (penL cs a 0)]) rfl rfl ?_, cs, a, 0, rfl, h1, h2, h3⟩
  refine s_setI (d := .int 0) (s1 := [.ow (penL cs a r)]) (s2 := [.ow (penL cs a r)]) (kd := .int 2) (o := penL cs a r) (o1 := penL cs a 0) ?_ rfl ?_ rfl rfl rfl
  · (repeat' first | with_reducible apply x_c | with_reducible apply x_v | with_reducible apply o_pk | with_reducible apply o_e | with_reducible exact xs_nil | with_reducible exact xo_nil | with_reducible exact xa_nil | with_reducible apply xs_cons | with_reducible apply xo_cons | with_reducible apply xa_v | with_reducible apply xa_o | with_reducible apply xa_p | with_reducible apply xa_sc | with_reducible apply x_tup | with_reducible apply x_lst | with_reducible apply x_bin | with_reducible apply x_cmp | with_reducible apply x_ix | with_reducible apply x_isi | with_reducible apply x_bf | with_reducible apply x_neg | with_reducible apply x_nt | with_reducible apply x_chain | with_reducible apply x_cut | with_reducible exact xb_n | with_reducible apply xb_s | with_reducible apply x_sc | with_reducible apply x_call | rfl)
  · (repeat' first | with_reducible apply x_c | with_reducible apply x_v | with_reducible apply o_pk | with_reducible apply o_e | with_reducible exact xs_nil | with_reducible exact xo_nil | with_reducible exact xa_nil | with_reducible apply xs_cons | with_reducible apply xo_cons | with_reducible apply xa_v | with_reducible apply xa_o | with_reducible apply xa_p | with_reducible apply xa_sc | with_reducible apply x_tup | with_reducible apply x_lst | with_reducible apply x_bin | with_reducible apply x_cmp | with_reducible apply x_ix | with_reducible apply x_isi | with_reducible apply x_bf | with_reducible apply x_neg | with_reducible apply x_nt | with_reducible apply x_chain | with_reducible apply x_cut | with_reducible exact xb_n | with_reducible apply xb_s | with_reducible apply x_sc | with_reducible apply x_call | rfl)
def openF : FunDef := ⟨"_law_open", 1, 4, .fr, [], (ss [
    .asgO 1 (.bf .list (es [.sc 0 none (some 12)])),
    .for (.tp (.cons (.nm 2) (.cons (.nm 3) .nil))) (.enum (.sc 0 (some 12) (some 63))) (ss [.setI 1 (.bin .Mod (.bf .int (es [.pk 2])) (.c (.int 12))) (.bin .Add (.ix (.pk 1) (.bin .Mod (.bf .int (es [.pk 2])) (.c (.int 12)))) (.pk 3))]),
    .retF (.lst (es [.v 1, .c (.int 0), .c (.int 0)]))])⟩
def OpenS (φ : Sem1) : Prop := ∀ ns : List Int, ns.length ≤ 63 → ∃ (cs : List Int) (x : Sl), cs.length ≤ 12 ∧ φ [.sc ns] = some (.list [.list (cs.map .int), .int 0, .int 0], [x])
theorem cut_lo (ns : List Int) : cutD (ns.map PyData.int) none (some 12) = (ns.take 12).map .int := by
  unfold cutD
  rw [HT.sIx_none, show HT.sIx (ns.map PyData.int).length (ns.map PyData.int).length (some 12) = min 12 (ns.map PyData.int).length from HT.sIx_nat _ _ 12]
  simp only [List.drop_zero, Nat.sub_zero, List.length_map, ← List.map_take]
  congr 1
  by_cases h : ns.length ≤ 12
  · rw [Nat.min_eq_right h, List.take_of_length_le (Nat.le_refl _), List.take_of_length_le h]
  · rw [Nat.min_eq_left (by omega)]
theorem cut_hi (ns : List Int) : ∃ ms : List Int, cutD (ns.map PyData.int) (some 12) (some 63) = ms.map .int ∧ (ms ≠ [] → 12 < ns.length) := by
  unfold cutD
  rw [show HT.sIx (ns.map PyData.int).length 0 (some 12) = min 12 (ns.map PyData.int).length from HT.sIx_nat _ _ 12]
  refine ⟨(ns.drop (min 12 ns.length)).take _, by rw [← List.map_drop, ← List.map_take, List.length_map], fun h => ?_⟩
  by_cases hl : 12 < ns.length
  · exact hl
  · exact absurd (by rw [Nat.min_eq_right (by omega), List.drop_length, List.take_nil]) h
theorem ix_12 {cs : List Int} (hc : cs.length = 12) (k : Nat) : ∃ (j : Nat) (c : Int), ixD (.list (cs.map .int)) (.int ((k : Int) % 12)) = some (.int c) ∧ L2.ixN (cs.map PyData.int).length ((k : Int) % 12) = some j := by
  obtain ⟨c, hcx⟩ := ix_int (cs := cs) (i := (k : Int) % 12) (Int.emod_nonneg _ (by decide)) (by rw [hc]; exact Int.emod_lt_of_pos _ (by decide))
  refine ⟨((k : Int) % 12).toNat, c, hcx, ?_⟩
  unfold ixN
  rw [if_pos (Int.emod_nonneg _ (by decide)), if_pos (by rw [List.length_map, hc]; exact Int.emod_lt_of_pos _ (by decide))]
theorem openS {Φ : Nat → Sem1} {W : Nat} : OpenS (runDef Φ W openF) := fun ns hn => by
  obtain ⟨ms, hm, hms⟩ := cut_hi ns
  have loop : ∀ (ms : List Int) (k : Nat) (cs : List Int) (x y : Sl), (ms ≠ [] → cs.length = 12) → cs.length ≤ 12 → ∃ (cs1 : List Int) (x1 y1 : Sl), cs1.length ≤ 12 ∧
      forL (turnF Φ W (.tp (.cons (.nm 2) (.cons (.nm 3) .nil))) (ss [.setI 1 (.bin .Mod (.bf .int (es [.pk 2])) (.c (.int 12))) (.bin .Add (.ix (.pk 1) (.bin .Mod (.bf .int (es [.pk 2])) (.c (.int 12)))) (.pk 3))])) (enumL k (ms.map .int)) [.sc ns, .ow (.l (cs.map .int)), x, y] = .nx [.sc ns, .ow (.l (cs1.map .int)), x1, y1] := by
    intro ms
    induction ms with
    | nil => exact fun k cs x y _ h2 => ⟨cs, x, y, h2, rfl⟩
    | cons m ms ih =>
      intro k cs x y h1 h2
      have hc := h1 (by simp)
      obtain ⟨j, c, e1, e2⟩ := ix_12 hc k
      have step : sts Φ W (ss [.setI 1 (.bin .Mod (.bf .int (es [.pk 2])) (.c (.int 12))) (.bin .Add (.ix (.pk 1) (.bin .Mod (.bf .int (es [.pk 2])) (.c (.int 12)))) (.pk 3))]) [.sc ns, .ow (.l (cs.map .int)), .sh (.int k), .sh (.int m)] = .nx [.sc ns, .ow (.l ((cs.set j (c + m)).map .int)), .sh (.int k), .sh (.int m)] := by
        refine s_setI (d := .int (c + m)) (s1 := [.sc ns, .ow (.l (cs.map .int)), .sh (.int k), .sh (.int m)]) (s2 := [.sc ns, .ow (.l (cs.map .int)), .sh (.int k), .sh (.int m)]) (kd := .int ((k : Int) % 12)) (o := .l (cs.map .int)) (o1 := .l ((cs.map .int).set j (.int (c + m)))) ?_ rfl ?_ rfl ?_ ?_
        · (repeat' first | exact modI (by decide) | exact e1 | with_reducible apply x_c | with_reducible apply x_v | with_reducible apply o_pk | with_reducible apply o_e | with_reducible exact xs_nil | with_reducible exact xo_nil | with_reducible exact xa_nil | with_reducible apply xs_cons | with_reducible apply xo_cons | with_reducible apply xa_v | with_reducible apply xa_o | with_reducible apply xa_p | with_reducible apply xa_sc | with_reducible apply x_tup | with_reducible apply x_lst | with_reducible apply x_bin | with_reducible apply x_cmp | with_reducible apply x_ix | with_reducible apply x_isi | with_reducible apply x_bf | with_reducible apply x_neg | with_reducible apply x_nt | with_reducible apply x_chain | with_reducible apply x_cut | with_reducible exact xb_n | with_reducible apply xb_s | with_reducible apply x_sc | with_reducible apply x_call | rfl)
        · (repeat' first | exact modI (by decide) | with_reducible apply x_c | with_reducible apply x_v | with_reducible apply o_pk | with_reducible apply o_e | with_reducible exact xs_nil | with_reducible exact xo_nil | with_reducible exact xa_nil | with_reducible apply xs_cons | with_reducible apply xo_cons | with_reducible apply xa_v | with_reducible apply xa_o | with_reducible apply xa_p | with_reducible apply xa_sc | with_reducible apply x_tup | with_reducible apply x_lst | with_reducible apply x_bin | with_reducible apply x_cmp | with_reducible apply x_ix | with_reducible apply x_isi | with_reducible apply x_bf | with_reducible apply x_neg | with_reducible apply x_nt | with_reducible apply x_chain | with_reducible apply x_cut | with_reducible exact xb_n | with_reducible apply xb_s | with_reducible apply x_sc | with_reducible apply x_call | rfl)
        · simp only [putAt, e2, Option.map_some]
        · rw [List.map_set]
          rfl
      obtain ⟨cs1, x1, y1, h3, h4⟩ := ih (k + 1) (cs.set j (c + m)) (.sh (.int k)) (.sh (.int m)) (fun _ => by rw [List.length_set]; exact hc) (by rw [List.length_set]; exact h2)
      exact ⟨cs1, x1, y1, h3, for_nx (s1 := [.sc ns, .ow (.l (cs.map .int)), .sh (.int k), .sh (.int m)]) rfl step h4⟩
  obtain ⟨cs1, x1, y1, h3, h4⟩ := loop ms 0 (ns.take 12) .un .un (fun h => by rw [List.length_take]; have := hms h; omega) (by rw [List.length_take]; omega)
  refine ⟨cs1, .sc ns, h3, run_rt (f := openF) (args := [.sc ns]) (s := [.sc ns, .sh (.list (cs1.map .int)), x1, y1]) rfl rfl ?_⟩
  refine s_asgO (xs := (ns.take 12).map .int) (s1 := [.sc ns, .un, .un, .un]) ?_ ?_
  · rw [← cut_lo]
    (repeat' first | with_reducible apply x_c | with_reducible apply x_v | with_reducible apply o_pk | with_reducible apply o_e | with_reducible exact xs_nil | with_reducible exact xo_nil | with_reducible exact xa_nil | with_reducible apply xs_cons | with_reducible apply xo_cons | with_reducible apply xa_v | with_reducible apply xa_o | with_reducible apply xa_p | with_reducible apply xa_sc | with_reducible apply x_tup | with_reducible apply x_lst | with_reducible apply x_bin | with_reducible apply x_cmp | with_reducible apply x_ix | with_reducible apply x_isi | with_reducible apply x_bf | with_reducible apply x_neg | with_reducible apply x_nt | with_reducible apply x_chain | with_reducible apply x_cut | with_reducible exact xb_n | with_reducible apply xb_s | with_reducible apply x_sc | with_reducible apply x_call | rfl)
  refine s_for (items := enumL 0 (ms.map .int)) (s1 := [.sc ns, .ow (.l ((ns.take 12).map .int)), .un, .un]) ?_ ?_
  · rw [← hm]
    rfl
  rw [h4, thenF_nx]
  refine s_retF ?_
  (repeat' first | exact x_vo rfl | with_reducible apply x_c | with_reducible apply x_v | with_reducible apply o_pk | with_reducible apply o_e | with_reducible exact xs_nil | with_reducible exact xo_nil | with_reducible exact xa_nil | with_reducible apply xs_cons | with_reducible apply xo_cons | with_reducible apply xa_v | with_reducible apply xa_o | with_reducible apply xa_p | with_reducible apply xa_sc | with_reducible apply x_tup | with_reducible apply x_lst | with_reducible apply x_bin | with_reducible apply x_cmp | with_reducible apply x_ix | with_reducible apply x_isi | with_reducible apply x_bf | with_reducible apply x_neg | with_reducible apply x_nt | with_reducible apply x_chain | with_reducible apply x_cut | with_reducible exact xb_n | with_reducible apply xb_s | with_reducible apply x_sc | with_reducible apply x_call | rfl)
end L3

set_option Elab.async false
set_option linter.all false
set_option maxRecDepth 100000
set_option maxHeartbeats 4000000
/-! small data -/
namespace L3
open PySem PySem.Spec L2
mutual
def okD : D → Bool
  | .none => true
  | .bool _ => true
  | .int i => decide (i.natAbs < 10 ^ 12)
  | .str x => x.cps.toList.all fun c => decide (c < 128)
  | .list xs => okAll xs
  | .tuple xs => okAll xs
  | .dict _ => false
def okAll : List D → Bool
  | [] => true
  | x :: xs => okD x && okAll xs
end
theorem okAll_iff : ∀ {xs : List D}, okAll xs = true ↔ ∀ x ∈ xs, okD x = true
  | [] => by simp [okAll]
  | x :: xs => by simp [okAll, okAll_iff (xs := xs)]
mutual
theorem ok_lay : ∀ d : D, okD d = true → d.canLay0 = true
  | .none, _ => by simp only [PyData.canLay0]
  | .bool _, _ => by simp only [PyData.canLay0]
  | .int _, _ => by simp only [PyData.canLay0]
  | .str x, h => by
    simp only [okD, List.all_eq_true, decide_eq_true_eq] at h
    simp only [PyData.canLay0, PyData.strOk]
    rw [Array.all_eq_true']
    intro c hc
    have := h c (Array.mem_toList_iff.mpr hc)
    exact decide_eq_true (by omega)
  | .list xs, h => by simp only [PyData.canLay0]; exact ok_layAll xs (by simpa only [okD] using h)
  | .tuple xs, h => by simp only [PyData.canLay0]; exact ok_layAll xs (by simpa only [okD] using h)
  | .dict _, h => by simp [okD] at h
theorem ok_layAll : ∀ xs : List D, okAll xs = true → PyData.canLayAll0 xs = true
  | [], _ => by simp only [PyData.canLayAll0]
  | x :: xs, h => by
    simp only [okAll, Bool.and_eq_true] at h
    simp only [PyData.canLayAll0, ok_lay x h.1, ok_layAll xs h.2, Bool.and_self]
end
mutual
theorem ok_noDict : ∀ d : D, okD d = true → d.hasDict = false
  | .none, _ => by simp only [PyData.hasDict]
  | .bool _, _ => by simp only [PyData.hasDict]
  | .int _, _ => by simp only [PyData.hasDict]
  | .str x, h => by simp only [PyData.hasDict]
  | .list xs, h => by simp only [PyData.hasDict]; exact ok_noDictAll xs (by simpa only [okD] using h)
  | .tuple xs, h => by simp only [PyData.hasDict]; exact ok_noDictAll xs (by simpa only [okD] using h)
  | .dict _, h => by simp [okD] at h
theorem ok_noDictAll : ∀ xs : List D, okAll xs = true → PyData.hasDictAll xs = false
  | [], _ => by simp only [PyData.hasDictAll]
  | x :: xs, h => by
    simp only [okAll, Bool.and_eq_true] at h
    simp only [PyData.hasDictAll, ok_noDict x h.1, ok_noDictAll xs h.2, Bool.or_self]
end
theorem log_small {n : Nat} (h : n < 10 ^ 12) : n.log2 < 1920 := by
  by_cases h0 : n = 0
  · subst h0
    decide
  · have := (Nat.log2_lt (n := n) (k := 100) h0).mpr (by omega)
    omega
mutual
theorem ok_show : ∀ d : D, okD d = true → d.showable = true
  | .none, _ => by simp only [PyData.showable]
  | .bool _, _ => by simp only [PyData.showable]
  | .int i, h => by
    simp only [okD, decide_eq_true_eq] at h
    simp only [PyData.showable]
    exact decide_eq_true (log_small h)
  | .str x, h => by simp only [PyData.showable]
  | .list xs, h => by simp only [PyData.showable]; exact ok_showAll xs (by simpa only [okD] using h)
  | .tuple xs, h => by simp only [PyData.showable]; exact ok_showAll xs (by simpa only [okD] using h)
  | .dict _, h => by simp [okD] at h
theorem ok_showAll : ∀ xs : List D, okAll xs = true → PyData.showableAll xs = true
  | [], _ => by simp only [PyData.showableAll]
  | x :: xs, h => by
    simp only [okAll, Bool.and_eq_true] at h
    simp only [PyData.showableAll, ok_show x h.1, ok_showAll xs h.2, Bool.and_self]
end
mutual
theorem ok_short : ∀ d : D, okD d = true → d.leavesShort 13 = true
  | .none, _ => by simp only [PyData.leavesShort]
  | .bool _, _ => by simp only [PyData.leavesShort]
  | .int i, h => by
    simp only [okD, decide_eq_true_eq] at h
    simp only [PyData.leavesShort, decide_eq_true_eq]
    have h1 := int_text_length_le10 (a := i) (k := 12) (by decide) h
    have h2 : (PyData.shown (.int i)).length = (toString i).length := ofString_length _
    omega
  | .str x, h => by
    simp only [okD, List.all_eq_true, decide_eq_true_eq] at h
    simp only [PyData.leavesShort, List.all_eq_true, decide_eq_true_eq]
    intro c hc
    have := h c hc
    omega
  | .list xs, h => by simp only [PyData.leavesShort]; exact ok_shortAll xs (by simpa only [okD] using h)
  | .tuple xs, h => by simp only [PyData.leavesShort]; exact ok_shortAll xs (by simpa only [okD] using h)
  | .dict _, h => by simp [okD] at h
theorem ok_shortAll : ∀ xs : List D, okAll xs = true → PyData.leavesShortAll 13 xs = true
  | [], _ => by simp only [PyData.leavesShortAll]
  | x :: xs, h => by
    simp only [okAll, Bool.and_eq_true] at h
    simp only [PyData.leavesShortAll, ok_short x h.1, ok_shortAll xs h.2, Bool.and_self]
end
/-- d is small: n of bulk, c deep -/
def Gd (n c : Nat) (d : D) : Prop := okD d = true ∧ d.bulk ≤ n ∧ d.depth ≤ c
def GdL (n c : Nat) (xs : List D) : Prop := okAll xs = true ∧ PyData.bulkAll xs ≤ n ∧ PyData.depthAll xs ≤ c
theorem Gd.repr {n c : Nat} {d : D} (h : Gd n c d) (hn : n ≤ 2 ^ 20) (hc : c ≤ 64) : reprOk d = true := by
  obtain ⟨h1, h2, h3⟩ := h
  have h4 := PyData.shown_fits_bulk (B := 13) (by decide) (by decide) (ok_short d h1) (by omega)
  simp only [reprOk, ok_show d h1, ok_noDict d h1, fitN, Bool.and_eq_true, decide_eq_true_eq, Bool.not_false, true_and, and_true]
  exact ⟨by omega, h4⟩
theorem Gd.shaped {n c : Nat} {d : D} (h : Gd n c d) (hc : c ≤ 64) : SeqAt.shaped d = true := by
  simp only [SeqAt.shaped, ok_lay d h.1, Bool.true_and, decide_eq_true_eq]
  exact Nat.le_trans h.2.2 hc
theorem Gd.mono {n c n' c' : Nat} {d : D} (h : Gd n c d) (hn : n ≤ n') (hc : c ≤ c') : Gd n' c' d := ⟨h.1, Nat.le_trans h.2.1 hn, Nat.le_trans h.2.2 hc⟩
theorem GdL.mono {n c n' c' : Nat} {d : List D} (h : GdL n c d) (hn : n ≤ n') (hc : c ≤ c') : GdL n' c' d := ⟨h.1, Nat.le_trans h.2.1 hn, Nat.le_trans h.2.2 hc⟩
theorem GdL.tup {n c : Nat} {xs : List D} (h : GdL n c xs) : Gd n (c + 1) (.tuple xs) := by
  refine ⟨by simpa only [okD] using h.1, by simpa only [PyData.bulk] using h.2.1, ?_⟩
  simp only [PyData.depth]
  exact Nat.succ_le_succ h.2.2
theorem GdL.lst {n c : Nat} {xs : List D} (h : GdL n c xs) : Gd n (c + 1) (.list xs) := by
  refine ⟨by simpa only [okD] using h.1, by simpa only [PyData.bulk] using h.2.1, ?_⟩
  simp only [PyData.depth]
  exact Nat.succ_le_succ h.2.2
theorem Gd.untup {n c : Nat} {xs : List D} (h : Gd n (c + 1) (.tuple xs)) : GdL n c xs := by
  obtain ⟨h1, h2, h3⟩ := h
  simp only [PyData.depth] at h3
  exact ⟨by simpa only [okD] using h1, by simpa only [PyData.bulk] using h2, Nat.le_of_succ_le_succ h3⟩
theorem Gd.unlst {n c : Nat} {xs : List D} (h : Gd n (c + 1) (.list xs)) : GdL n c xs := by
  obtain ⟨h1, h2, h3⟩ := h
  simp only [PyData.depth] at h3
  exact ⟨by simpa only [okD] using h1, by simpa only [PyData.bulk] using h2, Nat.le_of_succ_le_succ h3⟩
theorem Gd.tup0 {n : Nat} {xs : List D} (h : Gd n 0 (.tuple xs)) : False := by
  have := h.2.2
  simp only [PyData.depth] at this
  omega
theorem Gd.lst0 {n : Nat} {xs : List D} (h : Gd n 0 (.list xs)) : False := by
  have := h.2.2
  simp only [PyData.depth] at this
  omega
theorem GdL.nil {n c : Nat} : GdL n c [] := ⟨rfl, Nat.zero_le _, Nat.zero_le _⟩
theorem GdL.cons {n m c : Nat} {x : D} {xs : List D} (h : Gd n c x) (t : GdL m c xs) : GdL (n + 1 + m) c (x :: xs) := by
  refine ⟨by simp only [okAll, h.1, t.1, Bool.and_self], ?_, ?_⟩
  · simp only [PyData.bulkAll]
    have := h.2.1
    have := t.2.1
    omega
  · simp only [PyData.depthAll]
    exact Nat.max_le.mpr ⟨h.2.2, t.2.2⟩
theorem ok_app : ∀ {xs ys : List D}, okAll (xs ++ ys) = (okAll xs && okAll ys)
  | [], ys => by simp [okAll]
  | x :: xs, ys => by
    show (okD x && okAll (xs ++ ys)) = _
    rw [ok_app, ← Bool.and_assoc]
    rfl
theorem bulk_app : ∀ {xs ys : List D}, PyData.bulkAll (xs ++ ys) = PyData.bulkAll xs + PyData.bulkAll ys
  | [], ys => by simp [PyData.bulkAll]
  | x :: xs, ys => by
    show PyData.bulk x + 1 + PyData.bulkAll (xs ++ ys) = PyData.bulk x + 1 + PyData.bulkAll xs + _
    rw [bulk_app]
    omega
theorem depth_app : ∀ {xs ys : List D}, PyData.depthAll (xs ++ ys) = max (PyData.depthAll xs) (PyData.depthAll ys)
  | [], ys => by simp [PyData.depthAll]
  | x :: xs, ys => by
    show max (PyData.depth x) (PyData.depthAll (xs ++ ys)) = max (max (PyData.depth x) (PyData.depthAll xs)) _
    rw [depth_app, Nat.max_assoc]
theorem GdL.app {n m c : Nat} {xs ys : List D} (h : GdL n c xs) (t : GdL m c ys) : GdL (n + m) c (xs ++ ys) := by
  refine ⟨by rw [ok_app, h.1, t.1]; rfl, by rw [bulk_app]; have := h.2.1; have := t.2.1; omega, by rw [depth_app]; exact Nat.max_le.mpr ⟨h.2.2, t.2.2⟩⟩
theorem GdL.mem : ∀ {n c : Nat} {xs : List D} {x : D}, GdL n c xs → x ∈ xs → Gd n c x
  | n, c, y :: ys, x, h, hm => by
    obtain ⟨h1, h2, h3⟩ := h
    simp only [okAll, Bool.and_eq_true] at h1
    simp only [PyData.bulkAll] at h2
    simp only [PyData.depthAll, Nat.max_le] at h3
    rcases List.mem_cons.mp hm with rfl | hm
    · exact ⟨h1.1, by omega, h3.1⟩
    · exact GdL.mem ⟨h1.2, by omega, h3.2⟩ hm
theorem GdL.splitAt {n c : Nat} {xs : List D} (h : GdL n c xs) (k : Nat) : ∃ a b, a + b ≤ n ∧ GdL a c (xs.take k) ∧ GdL b c (xs.drop k) := by
  have e := List.take_append_drop k xs
  obtain ⟨h1, h2, h3⟩ := h
  rw [← e, ok_app, Bool.and_eq_true] at h1
  rw [← e, bulk_app] at h2
  rw [← e, depth_app, Nat.max_le] at h3
  exact ⟨_, _, h2, ⟨h1.1, Nat.le_refl _, h3.1⟩, ⟨h1.2, Nat.le_refl _, h3.2⟩⟩
theorem GdL.len : ∀ {n c : Nat} {xs : List D}, GdL n c xs → xs.length ≤ n
  | n, c, [], h => Nat.zero_le _
  | n, c, y :: ys, h => by
    obtain ⟨h1, h2, h3⟩ := h
    simp only [okAll, Bool.and_eq_true] at h1
    simp only [PyData.bulkAll] at h2
    simp only [PyData.depthAll, Nat.max_le] at h3
    have := GdL.len (n := PyData.bulkAll ys) ⟨h1.2, Nat.le_refl _, h3.2⟩
    simp only [List.length_cons]
    omega
end L3

set_option Elab.async false
set_option linter.all false
set_option maxRecDepth 100000
set_option maxHeartbeats 4000000
namespace K10
open PySem L3
-- is_integer value
def f0 : FunDef := ⟨"is_integer", 1, 1, .sh, [], (ss [
    .ret (.and (.isi (.pk 0) .int) (.nt (.isi (.pk 0) .bool)))])⟩
-- is_between value least most
def f1 : FunDef := ⟨"is_between", 3, 3, .sh, [], (ss [
    .ret (.and (.call 0 false (.v (.v 0) .nil)) (.chain .LtE .LtE (.v 1) (.v 0) (.v 2)))])⟩
-- are_counts value
def f2 : FunDef := ⟨"are_counts", 1, 1, .sh, [], (ss [
    .ite (.or (.nt (.isi (.pk 0) .tuple)) (.or (.cmp .NotEq (.bf .len (es [.pk 0])) (.c (.int 2))) (.nt (.call 1 false (.v (.ix (.pk 0) (.c (.int 0))) (.v (.c (.int 0)) (.v (.g 28) .nil))))))) (ss [.ret (.c (.bool false))]) (ss []),
    .ret (.or (.cmp .Is (.ix (.pk 0) (.c (.int 1))) (.c (.none))) (.and (.call 0 false (.v (.ix (.pk 0) (.c (.int 1))) .nil)) (.and (.cmp .GtE (.ix (.pk 0) (.c (.int 1))) (.c (.int 1))) (.cmp .GtE (.ix (.pk 0) (.c (.int 1))) (.ix (.pk 0) (.c (.int 0)))))))])⟩
-- is_link many value first second counts others
def f3 : FunDef := ⟨"is_link", 2, 6, .sh, [], (ss [
    .ite (.or (.nt (.isi (.pk 1) .tuple)) (.cmp .NotEq (.bf .len (es [.pk 1])) (.c (.int 4)))) (ss [.ret (.c (.bool false))]) (ss []),
    .asgT (.tp (.cons (.nm 2) (.cons (.nm 3) (.cons (.nm 4) (.cons (.nm 5) .nil))))) (.v 1),
    .ite (.or (.nt (.call 1 false (.v (.v 2) (.v (.c (.int 0)) (.v (.bin .Sub (.pk 0) (.c (.int 1))) .nil))))) (.or (.nt (.call 1 false (.v (.v 3) (.v (.c (.int 0)) (.v (.bin .Sub (.pk 0) (.c (.int 1))) .nil))))) (.cmp .Eq (.pk 2) (.pk 3)))) (ss [.ret (.c (.bool false))]) (ss []),
    .ret (.and (.call 2 false (.v (.v 4) .nil)) (.call 2 false (.v (.v 5) .nil)))])⟩
-- is_scheme_of value one
def f4 : FunDef := ⟨"is_scheme_of", 1, 2, .sh, [], (ss [
    .ite (.or (.nt (.isi (.pk 0) .tuple)) (.or (.cmp .NotEq (.bf .len (es [.pk 0])) (.c (.int 2))) (.nt (.call 1 false (.v (.ix (.pk 0) (.c (.int 0))) (.v (.c (.int 1)) (.v (.g 29) .nil))))))) (ss [.ret (.c (.bool false))]) (ss []),
    .ite (.or (.nt (.isi (.ix (.pk 0) (.c (.int 1))) .tuple)) (.cmp .Gt (.bf .len (es [.ix (.pk 0) (.c (.int 1))])) (.g 30))) (ss [.ret (.c (.bool false))]) (ss []),
    .ret (.bf .all (es [.lc [("one", 1)] (.nm 1) (.e (.ix (.pk 0) (.c (.int 1)))) .n (.call 3 false (.v (.ix (.pk 0) (.c (.int 0))) (.v (.v 1) .nil)))]))])⟩
-- require_scheme value
def f5 : FunDef := ⟨"require_scheme", 1, 1, .sh, [], (ss [
    .ite (.nt (.call 4 false (.v (.v 0) .nil))) (ss [.never]) (ss [])])⟩
-- require_number value count
def f6 : FunDef := ⟨"require_number", 2, 2, .sh, [], (ss [
    .ite (.nt (.call 1 false (.v (.v 0) (.v (.c (.int 0)) (.v (.bin .Sub (.pk 1) (.c (.int 1))) .nil))))) (ss [.never]) (ss [])])⟩
-- require_side scheme link side
def f7 : FunDef := ⟨"require_side", 3, 3, .sh, [], (ss [
    .ex (.call 6 false (.v (.v 1) (.v (.bf .len (es [.ix (.pk 0) (.c (.int 1))])) .nil))),
    .ex (.call 6 false (.v (.v 2) (.v (.c (.int 2)) .nil)))])⟩
-- find_step scheme link side own
def f8 : FunDef := ⟨"find_step", 3, 4, .sh, [], (ss [
    .asg 3 (.ix (.ix (.pk 0) (.c (.int 1))) (.pk 1)),
    .ret (.tup (es [.ix (.pk 3) (.pk 2), .ix (.pk 3) (.bin .Sub (.c (.int 1)) (.pk 2)), .ix (.ix (.pk 3) (.bin .Add (.c (.int 2)) (.pk 2))) (.c (.int 0)), .ix (.ix (.pk 3) (.bin .Sub (.c (.int 3)) (.pk 2))) (.c (.int 1))]))])⟩
-- is_scheme value
def f9 : FunDef := ⟨"is_scheme", 1, 1, .sh, [], (ss [
    .ret (.call 4 false (.v (.v 0) .nil))])⟩
-- step_of scheme link side
def f10 : FunDef := ⟨"step_of", 3, 3, .sh, [], (ss [
    .ex (.call 5 false (.v (.v 0) .nil)),
    .ex (.call 7 false (.v (.v 0) (.v (.v 1) (.v (.v 2) .nil)))),
    .ret (.call 8 false (.v (.v 0) (.v (.v 1) (.v (.v 2) .nil))))])⟩
-- _law_spread _law_cell _law_at _law_primes _law_mixed _law_one_here _law_rest _law_two _law_three
def f11 : FunDef := ⟨"_law_spread", 2, 8, .sh, [], (ss [
    .ite (.cmp .GtE (.pk 0) (.bin .Pow (.c (.int 10)) (.c (.int 18)))) (ss [.ret (.v 0)]) (ss []),
    .asg 2 (.lst (es [.c (.int 2147483629), .c (.int 2147483587), .c (.int 2147483579), .c (.int 2147483563), .c (.int 2147483549), .c (.int 2147483543), .c (.int 2147483497)])),
    .asg 2 (.bin .Add (.pk 2) (.lst (es [.c (.int 2147483489), .c (.int 2147483477), .c (.int 2147483423), .c (.int 2147483399), .c (.int 2147483353), .c (.int 2147483323)]))),
    .asg 3 (.bin .Add (.bin .Add (.bin .Mult (.bin .Mod (.bf .int (es [.pk 0])) (.c (.int 1000000007))) (.bin .Add (.bin .Mult (.c (.int 2)) (.pk 1)) (.c (.int 69069)))) (.bin .Mult (.pk 1) (.c (.int 40503)))) (.c (.int 977))),
    .asg 4 (.bin .Mod (.bf .int (es [.bin .Pow (.pk 3) (.c (.int 3))])) (.ix (.pk 2) (.bin .Mod (.bf .int (es [.pk 1])) (.c (.int 13))))),
    .asg 5 (.bin .Add (.bin .Mod (.bf .int (es [.pk 0])) (.c (.int 65537))) (.c (.int 5))),
    .asg 6 (.bin .Mod (.bf .int (es [.bin .Pow (.bin .Add (.bin .Mult (.pk 4) (.bin .Add (.pk 1) (.c (.int 3)))) (.pk 5)) (.c (.int 5))])) (.ix (.pk 2) (.bin .Mod (.bf .int (es [.bin .Add (.pk 1) (.c (.int 5))])) (.c (.int 13))))),
    .asg 7 (.bin .Mod (.bf .int (es [.bin .Pow (.bin .Add (.bin .Add (.pk 6) (.bin .Mod (.bf .int (es [.pk 4])) (.c (.int 1009)))) (.pk 1)) (.c (.int 3))])) (.ix (.pk 2) (.bin .Mod (.bf .int (es [.bin .Add (.pk 1) (.c (.int 7))])) (.c (.int 13))))),
    .ret (.bin .Add (.bin .Mult (.bin .Add (.bin .Mult (.pk 4) (.c (.int 2147483647))) (.pk 6)) (.c (.int 2147483647))) (.pk 7))])⟩
-- _law_open _law_script _law_cells _law_k _law_cell
def f12 : FunDef := ⟨"_law_open", 1, 4, .fr, [], (ss [
    .asgO 1 (.bf .list (es [.sc 0 none (some 12)])),
    .for (.tp (.cons (.nm 2) (.cons (.nm 3) .nil))) (.enum (.sc 0 (some 12) (some 63))) (ss [.setI 1 (.bin .Mod (.bf .int (es [.pk 2])) (.c (.int 12))) (.bin .Add (.ix (.pk 1) (.bin .Mod (.bf .int (es [.pk 2])) (.c (.int 12)))) (.pk 3))]),
    .retF (.lst (es [.v 1, .c (.int 0), .c (.int 0)]))])⟩
-- _law_take _law_pen _law_many _law_at _law_cell _law_found
def f13 : FunDef := ⟨"_law_take", 2, 5, .sh, [0], (ss [
    .ite (.cmp .Lt (.ix (.pk 0) (.c (.int 2))) (.pk 1)) (ss [.asg 2 (.ix (.pk 0) (.c (.int 1))), .asg 3 (.c (.int 0)), .ite (.cmp .Lt (.pk 2) (.bf .len (es [.ix (.pk 0) (.c (.int 0))]))) (ss [.asg 3 (.ix (.ix (.pk 0) (.c (.int 0))) (.pk 2))]) (ss [.ite (.cmp .Gt (.bf .len (es [.ix (.pk 0) (.c (.int 0))])) (.c (.int 0))) (ss [.asg 3 (.bin .Mod (.bf .int (es [.ix (.ix (.pk 0) (.c (.int 0))) (.bin .Mod (.bf .int (es [.bin .Add (.bin .Mult (.pk 2) (.c (.int 5))) (.c (.int 3))])) (.bf .len (es [.ix (.pk 0) (.c (.int 0))])))])) (.bin .Add (.bin .Pow (.c (.int 10)) (.c (.int 17))) (.pk 2)))]) (ss [])]), .setI 0 (.c (.int 1)) (.bin .Add (.pk 2) (.c (.int 1))), .setI 0 (.c (.int 2)) (.call 11 false (.v (.v 3) (.v (.v 2) .nil)))]) (ss []),
    .asg 4 (.bin .Mod (.bf .int (es [.ix (.pk 0) (.c (.int 2))])) (.pk 1)),
    .setI 0 (.c (.int 2)) (.bin .FloorDiv (.ix (.pk 0) (.c (.int 2))) (.pk 1)),
    .ret (.v 4)])⟩
-- _law_anew _law_pen
def f14 : FunDef := ⟨"_law_anew", 1, 1, .io 0, [0], (ss [
    .setI 0 (.c (.int 2)) (.c (.int 0)),
    .retI 0])⟩
-- _law_one _law_pen _law_some
def f15 : FunDef := ⟨"_law_one", 2, 2, .sh, [0], (ss [
    .ret (.ix (.pk 1) (.call 13 false (.o 0 (.v (.bf .len (es [.pk 1])) .nil))))])⟩
-- _law_counts _law_pen _law_least _law_far _law_greatest
def f16 : FunDef := ⟨"_law_counts", 1, 4, .sh, [0], (ss [
    .asg 1 (.call 15 false (.o 0 (.v (.lst (es [.c (.int 0), .c (.int 0), .c (.int 0), .c (.int 1), .c (.int 1), .c (.int 1), .c (.int 2), .c (.int 2), .c (.int 3), .c (.int 4)])) .nil))),
    .asg 2 (.call 15 false (.o 0 (.v (.lst (es [.c (.int 3), .c (.int 9), .c (.int 10), .bin .Sub (.bin .Pow (.c (.int 10)) (.c (.int 6))) (.c (.int 1))])) .nil))),
    .asg 3 (.call 15 false (.o 0 (.v (.lst (es [.c (.none), .v 1, .v 1, .bin .Add (.pk 1) (.c (.int 1)), .bin .Add (.pk 1) (.c (.int 2)), .v 2])) .nil))),
    .ite (.cmp .IsNot (.pk 3) (.c (.none))) (ss [.asg 3 (.bf .max (es [.c (.int 1), .pk 1, .pk 3]))]) (ss []),
    .ret (.tup (es [.v 1, .v 3]))])⟩
-- _law_link _law_pen _law_many _law_first _law_second
def f17 : FunDef := ⟨"_law_link", 2, 4, .sh, [0], (ss [
    .asg 2 (.call 13 false (.o 0 (.v (.v 1) .nil))),
    .asg 3 (.bin .Mod (.bf .int (es [.bin .Add (.bin .Add (.pk 2) (.c (.int 1))) (.call 13 false (.o 0 (.v (.bin .Sub (.pk 1) (.c (.int 1))) .nil)))])) (.pk 1)),
    .ret (.tup (es [.v 2, .v 3, .call 16 false (.o 0 .nil), .call 16 false (.o 0 .nil)]))])⟩
-- _law_ring _law_pen _law_many _law_asks _law_lets _law_bend _law_found _law_k _law_wide _law_counts_here _law_near _law_others _law_link_here
def f18 : FunDef := ⟨"_law_ring", 2, 12, .sh, [0], (ss [
    .asgO 2 (.lc [("_law_k", 6)] (.nm 6) (.rng (es [.v 1])) .n (.call 15 false (.o 0 (.v (.lst (es [.c (.int 1), .c (.int 1), .c (.int 2), .c (.int 2), .c (.int 3)])) .nil)))),
    .asgO 3 (.lc [("_law_k", 6)] (.nm 6) (.rng (es [.v 1])) .n (.ix (.pk 2) (.bin .Mod (.bf .int (es [.bin .Add (.pk 6) (.c (.int 1))])) (.pk 1)))),
    .asg 4 (.call 13 false (.o 0 (.v (.c (.int 3)) .nil))),
    .setI 2 (.c (.int 0)) (.bin .Add (.ix (.pk 2) (.c (.int 0))) (.bf .int (es [.cmp .Eq (.pk 4) (.c (.int 1))]))),
    .setI 3 (.c (.int 0)) (.bin .Add (.ix (.pk 3) (.c (.int 0))) (.bf .int (es [.cmp .Eq (.pk 4) (.c (.int 2))]))),
    .asg 5 (.tup (es [])),
    .for (.nm 6) (.rng (es [.v 1])) (ss [.asg 7 (.call 15 false (.o 0 (.v (.lst (es [.ix (.pk 2) (.pk 6), .ix (.pk 2) (.pk 6), .bin .Add (.ix (.pk 2) (.pk 6)) (.c (.int 1)), .c (.none)])) .nil))), .par [8, 9] (es [.tup (es [.ix (.pk 2) (.pk 6), .v 7]), .bin .Mod (.bf .int (es [.bin .Add (.pk 6) (.c (.int 1))])) (.pk 1)]), .asg 10 (.tup (es [.call 15 false (.o 0 (.v (.lst (es [.c (.int 0), .c (.int 0), .c (.int 1), .ix (.pk 3) (.pk 6)])) .nil)), .ix (.pk 3) (.pk 6)])), .asg 11 (.tup (es [.v 6, .v 9, .v 8, .v 10])), .ite (.cmp .Eq (.call 13 false (.o 0 (.v (.c (.int 2)) .nil))) (.c (.int 0))) (ss [.asg 11 (.tup (es [.v 9, .v 6, .v 10, .v 8]))]) (ss []), .asg 5 (.bin .Add (.pk 5) (.tup (es [.v 11])))]),
    .ret (.v 5)])⟩
-- _law_scheme _law_pen _law_many _law_found _law_k
def f19 : FunDef := ⟨"_law_scheme", 1, 4, .sh, [0], (ss [
    .asg 1 (.call 15 false (.o 0 (.v (.lst (es [.c (.int 1), .c (.int 2), .c (.int 2), .c (.int 2), .c (.int 3), .c (.int 3), .c (.int 3), .c (.int 4)])) .nil))),
    .asg 2 (.tup (es [])),
    .ite (.and (.cmp .Gt (.pk 1) (.c (.int 1))) (.cmp .Eq (.call 13 false (.o 0 (.v (.c (.int 2)) .nil))) (.c (.int 0)))) (ss [.asg 2 (.call 18 false (.o 0 (.v (.v 1) .nil)))]) (ss []),
    .for (.nm 3) (.rng (es [.call 15 false (.o 0 (.v (.lst (es [.c (.int 0), .c (.int 0), .c (.int 1), .c (.int 2), .c (.int 6)])) .nil))])) (ss [.ite (.and (.cmp .Gt (.pk 1) (.c (.int 1))) (.cmp .Lt (.bf .len (es [.pk 2])) (.c (.int 6)))) (ss [.asg 2 (.bin .Add (.pk 2) (.tup (es [.call 17 false (.o 0 (.v (.v 1) .nil))])))]) (ss [])]),
    .ret (.tup (es [.v 1, .v 2]))])⟩
-- _law_whole _law_value _law_least _law_most
def f20 : FunDef := ⟨"_law_whole", 3, 3, .sh, [], (ss [
    .ret (.and (.isi (.pk 0) .int) (.and (.nt (.isi (.pk 0) .bool)) (.chain .LtE .LtE (.v 1) (.v 0) (.v 2))))])⟩
-- _law_bent _law_pen _law_value _law_some _law_at _law_kind
def f21 : FunDef := ⟨"_law_bent", 2, 5, .sh, [0], (ss [
    .ite (.or (.nt (.isi (.pk 1) .tuple)) (.or (.cmp .Eq (.pk 1) (.tup (es []))) (.cmp .Eq (.call 13 false (.o 0 (.v (.c (.int 6)) .nil))) (.c (.int 0))))) (ss [.asg 2 (.lst (es [.c (.none), .c (.int 0), .c (.int 1), .c (.int 2), .neg (.c (.int 1)), .c (.int 5), .c (.int 13), .c (.bool true), .c (.bool false), .c (.str "0"), .tup (es []), .lst (es []), .tup (es [.c (.int 0)]), .tup (es [.c (.int 0), .c (.int 0)]), .tup (es [.c (.int 1), .c (.int 0)]), .tup (es [.c (.int 0), .c (.int 1)]), .lst (es [.c (.int 0), .c (.int 1)])])), .ret (.call 15 false (.o 0 (.v (.bin .Add (.pk 2) (.lst (es [.tup (es [.c (.int 0), .c (.int 1), .tup (es [.c (.int 0), .c (.int 1)]), .tup (es [.c (.int 0), .c (.none)])]), .tup (es [.tup (es [.c (.int 0), .c (.int 0)])]), .c (.int 60), .c (.str ""), .tup (es [.c (.none), .c (.none)])]))) .nil)))]) (ss []),
    .par [3, 4] (es [.call 13 false (.o 0 (.v (.bf .len (es [.pk 1])) .nil)), .call 13 false (.o 0 (.v (.c (.int 8)) .nil))]),
    .ite (.cmp .Eq (.pk 4) (.c (.int 0))) (ss [.ret (.bin .Add (.cut (.pk 1) .n (.s (.v 3))) (.cut (.pk 1) (.s (.bin .Add (.pk 3) (.c (.int 1)))) .n))]) (ss []),
    .ite (.cmp .Eq (.pk 4) (.c (.int 1))) (ss [.ret (.bin .Add (.pk 1) (.cut (.pk 1) (.s (.v 3)) (.s (.bin .Add (.pk 3) (.c (.int 1))))))]) (ss []),
    .ite (.cmp .Eq (.pk 4) (.c (.int 2))) (ss [.ret (.bf .list (es [.pk 1]))]) (ss []),
    .ite (.cmp .Eq (.pk 4) (.c (.int 3))) (ss [.ret (.bin .Add (.bin .Add (.cut (.pk 1) .n (.s (.v 3))) (.cut (.pk 1) (.s (.v 3)) (.s (.bin .Add (.pk 3) (.c (.int 1)))))) (.cut (.pk 1) (.s (.v 3)) .n))]) (ss []),
    .ret (.bin .Add (.bin .Add (.cut (.pk 1) .n (.s (.v 3))) (.tup (es [.call 21 false (.o 0 (.v (.ix (.pk 1) (.pk 3)) .nil))]))) (.cut (.pk 1) (.s (.bin .Add (.pk 3) (.c (.int 1)))) .n))])⟩
-- _law_are_counts _law_value
def f22 : FunDef := ⟨"_law_are_counts", 1, 1, .sh, [], (ss [
    .ite (.or (.nt (.isi (.pk 0) .tuple)) (.or (.cmp .NotEq (.bf .len (es [.pk 0])) (.c (.int 2))) (.nt (.call 20 false (.v (.ix (.pk 0) (.c (.int 0))) (.v (.c (.int 0)) (.v (.c (.int 4)) .nil))))))) (ss [.ret (.c (.bool false))]) (ss []),
    .ite (.cmp .Is (.ix (.pk 0) (.c (.int 1))) (.c (.none))) (ss [.ret (.c (.bool true))]) (ss []),
    .ite (.or (.nt (.isi (.ix (.pk 0) (.c (.int 1))) .int)) (.isi (.ix (.pk 0) (.c (.int 1))) .bool)) (ss [.ret (.c (.bool false))]) (ss []),
    .ret (.cmp .GtE (.ix (.pk 0) (.c (.int 1))) (.bf .max (es [.c (.int 1), .ix (.pk 0) (.c (.int 0))])))])⟩
-- _law_is_link _law_many _law_value
def f23 : FunDef := ⟨"_law_is_link", 2, 2, .sh, [], (ss [
    .ite (.or (.nt (.isi (.pk 1) .tuple)) (.cmp .NotEq (.bf .len (es [.pk 1])) (.c (.int 4)))) (ss [.ret (.c (.bool false))]) (ss []),
    .ite (.or (.nt (.call 20 false (.v (.ix (.pk 1) (.c (.int 0))) (.v (.c (.int 0)) (.v (.bin .Sub (.pk 0) (.c (.int 1))) .nil))))) (.nt (.call 20 false (.v (.ix (.pk 1) (.c (.int 1))) (.v (.c (.int 0)) (.v (.bin .Sub (.pk 0) (.c (.int 1))) .nil)))))) (ss [.ret (.c (.bool false))]) (ss []),
    .ret (.and (.cmp .NotEq (.ix (.pk 1) (.c (.int 0))) (.ix (.pk 1) (.c (.int 1)))) (.and (.call 22 false (.v (.ix (.pk 1) (.c (.int 2))) .nil)) (.call 22 false (.v (.ix (.pk 1) (.c (.int 3))) .nil))))])⟩
-- _law_is_scheme _law_value _law_link_here
def f24 : FunDef := ⟨"_law_is_scheme", 1, 2, .sh, [], (ss [
    .ite (.or (.nt (.isi (.pk 0) .tuple)) (.or (.cmp .NotEq (.bf .len (es [.pk 0])) (.c (.int 2))) (.nt (.call 20 false (.v (.ix (.pk 0) (.c (.int 0))) (.v (.c (.int 1)) (.v (.c (.int 4)) .nil))))))) (ss [.ret (.c (.bool false))]) (ss []),
    .ite (.or (.nt (.isi (.ix (.pk 0) (.c (.int 1))) .tuple)) (.cmp .Gt (.bf .len (es [.ix (.pk 0) (.c (.int 1))])) (.c (.int 6)))) (ss [.ret (.c (.bool false))]) (ss []),
    .ret (.cmp .Eq (.lc [("_law_link_here", 1)] (.nm 1) (.e (.ix (.pk 0) (.c (.int 1)))) (.s (.nt (.call 23 false (.v (.ix (.pk 0) (.c (.int 0))) (.v (.v 1) .nil))))) (.v 1)) (.lst (es [])))])⟩
-- _law_right _law_value _law_kept
def f25 : FunDef := ⟨"_law_right", 1, 2, .sh, [], (ss [
    .asg 1 (.bf .repr (es [.pk 0])),
    .ret (.and (.cmp .Eq (.bf .repr (es [.call 9 false (.v (.v 0) .nil)])) (.bf .repr (es [.call 24 false (.v (.v 0) .nil)]))) (.cmp .Eq (.bf .repr (es [.pk 0])) (.pk 1)))])⟩
-- _law_steps_right _law_scheme_here _law_link_here _law_own _law_due _law_side
def f26 : FunDef := ⟨"_law_steps_right", 1, 5, .sh, [], (ss [
    .for (.tp (.cons (.nm 1) (.cons (.nm 2) .nil))) (.enum (.ix (.pk 0) (.c (.int 1)))) (ss [.asgO 3 (.lst (es [.tup (es [.ix (.pk 2) (.c (.int 0)), .ix (.pk 2) (.c (.int 1)), .ix (.ix (.pk 2) (.c (.int 2))) (.c (.int 0)), .ix (.ix (.pk 2) (.c (.int 3))) (.c (.int 1))])])), .app 3 (.tup (es [.ix (.pk 2) (.c (.int 1)), .ix (.pk 2) (.c (.int 0)), .ix (.ix (.pk 2) (.c (.int 3))) (.c (.int 0)), .ix (.ix (.pk 2) (.c (.int 2))) (.c (.int 1))])), .ite (.cmp .NotEq (.bf .repr (es [.lc [("_law_side", 4)] (.nm 4) (.e (.tup (es [.c (.int 0), .c (.int 1)]))) .n (.call 10 false (.v (.v 0) (.v (.v 1) (.v (.v 4) .nil))))])) (.bf .repr (es [.pk 3]))) (ss [.ret (.c (.bool false))]) (ss [])]),
    .ret (.c (.bool true))])⟩
-- law _law_script _law_pen _law_turn _law_scheme_here _law_step _law_link_here _law_some _law_near _law_own _law_deep _law_k
def f27 : FunDef := ⟨"law", 1, 11, .sh, [], (ss [
    .asgO 1 (.call 12 true (.sc 0 .nil)),
    .for (.nm 2) (.rng (es [.c (.int 6)])) (ss [.asg 3 (.call 19 false (.k 14 (.o 1 .nil) 1 .nil)), .ite (.or (.nt (.call 24 false (.v (.v 3) .nil))) (.or (.nt (.call 25 false (.v (.v 3) .nil))) (.nt (.call 26 false (.v (.v 3) .nil))))) (ss [.ret (.c (.bool false))]) (ss []), .for (.nm 4) (.rng (es [.c (.int 14)])) (ss [.ite (.nt (.call 25 false (.v (.call 21 false (.o 1 (.v (.v 3) .nil))) .nil))) (ss [.ret (.c (.bool false))]) (ss [])]), .asg 5 (.tup (es [.c (.int 0), .c (.int 1), .tup (es [.c (.int 0), .c (.int 1)]), .tup (es [.c (.int 0), .c (.none)])])), .asg 6 (.lst (es [.tup (es [.c (.int 0), .c (.int 1)]), .tup (es [.c (.int 4), .c (.int 4)]), .tup (es [.c (.int 4), .c (.int 3)]), .tup (es [.c (.int 5), .c (.int 5)]), .tup (es [.c (.int 0), .c (.int 0)]), .tup (es [.c (.int 0), .c (.none)]), .tup (es [.neg (.c (.int 1)), .c (.int 2)]), .tup (es [.c (.bool true), .c (.int 1)])])), .asg 7 (.call 15 false (.o 1 (.v (.bin .Add (.pk 6) (.lst (es [.tup (es [.c (.int 1), .c (.bool true)]), .tup (es [.c (.int 0), .c (.bool false)]), .tup (es [.c (.none), .c (.int 1)]), .tup (es [.c (.str "0"), .c (.int 1)]), .tup (es [.c (.int 1), .c (.str "1")])]))) .nil))), .for (.nm 8) (.e (.lst (es [.tup (es [.c (.int 0), .c (.int 1), .v 7, .tup (es [.c (.int 0), .c (.int 1)])]), .tup (es [.c (.int 1), .c (.int 0), .tup (es [.c (.int 0), .c (.int 1)]), .v 7]), .tup (es [.c (.int 0), .c (.int 0), .v 7, .v 7]), .v 5]))) (ss [.ite (.or (.nt (.call 25 false (.v (.tup (es [.c (.int 2), .tup (es [.v 8])])) .nil))) (.nt (.call 25 false (.v (.tup (es [.c (.int 4), .bin .Add (.bin .Mult (.tup (es [.v 5])) (.c (.int 6))) (.tup (es [.v 8]))])) .nil)))) (ss [.ret (.c (.bool false))]) (ss []), .ite (.or (.nt (.call 25 false (.v (.tup (es [.c (.int 5), .tup (es [.v 8])])) .nil))) (.nt (.call 25 false (.v (.tup (es [.c (.int 3), .tup (es [.v 5, .v 5, .v 8, .v 5])])) .nil)))) (ss [.ret (.c (.bool false))]) (ss [])])]),
    .asg 9 (.tup (es [])),
    .for (.nm 10) (.rng (es [.c (.int 16)])) (ss [.asg 9 (.tup (es [.v 9])), .ite (.or (.nt (.call 25 false (.v (.v 9) .nil))) (.nt (.call 25 false (.v (.tup (es [.c (.int 2), .tup (es [.v 9])])) .nil)))) (ss [.ret (.c (.bool false))]) (ss []), .ite (.nt (.call 25 false (.v (.tup (es [.c (.int 2), .tup (es [.tup (es [.c (.int 0), .c (.int 1), .v 9, .v 9])])])) .nil))) (ss [.ret (.c (.bool false))]) (ss [])]),
    .ret (.and (.call 25 false (.v (.tup (es [.c (.int 1), .tup (es [])])) .nil)) (.and (.call 25 false (.v (.tup (es [.c (.int 0), .tup (es [])])) .nil)) (.call 25 false (.v (.tup (es [.c (.int 4), .bin .Mult (.tup (es [.tup (es [.c (.int 3), .c (.int 2), .tup (es [.c (.int 0), .c (.int 1)]), .tup (es [.c (.int 4), .bin .Sub (.bin .Pow (.c (.int 10)) (.c (.int 6))) (.c (.int 1))])])])) (.c (.int 6))])) .nil))))])⟩
def fns0 : List DR := [⟨f0, 5, ["value"]⟩, ⟨f1, 6, ["value", "least", "most"]⟩, ⟨f2, 11, ["value"]⟩, ⟨f3, 12, ["many", "value", "first", "second", "counts", "others"]⟩, ⟨f4, 13, ["value", "one"]⟩, ⟨f5, 14, ["value"]⟩, ⟨f6, 15, ["value", "count"]⟩, ⟨f7, 16, ["scheme", "link", "side"]⟩, ⟨f8, 17, ["scheme", "link", "side", "own"]⟩, ⟨f9, 18, ["value"]⟩, ⟨f10, 19, ["scheme", "link", "side"]⟩, ⟨f11, 21, ["_law_cell", "_law_at", "_law_primes", "_law_mixed", "_law_one_here", "_law_rest", "_law_two", "_law_three"]⟩, ⟨f12, 22, ["_law_script", "_law_cells", "_law_k", "_law_cell"]⟩, ⟨f13, 23, ["_law_pen", "_law_many", "_law_at", "_law_cell", "_law_found"]⟩, ⟨f14, 24, ["_law_pen"]⟩, ⟨f15, 25, ["_law_pen", "_law_some"]⟩, ⟨f16, 26, ["_law_pen", "_law_least", "_law_far", "_law_greatest"]⟩, ⟨f17, 27, ["_law_pen", "_law_many", "_law_first", "_law_second"]⟩, ⟨f18, 28, ["_law_pen", "_law_many", "_law_asks", "_law_lets", "_law_bend", "_law_found", "_law_k", "_law_wide", "_law_counts_here", "_law_near", "_law_others", "_law_link_here"]⟩, ⟨f19, 29, ["_law_pen", "_law_many", "_law_found", "_law_k"]⟩, ⟨f20, 30, ["_law_value", "_law_least", "_law_most"]⟩, ⟨f21, 31, ["_law_pen", "_law_value", "_law_some", "_law_at", "_law_kind"]⟩, ⟨f22, 32, ["_law_value"]⟩, ⟨f23, 33, ["_law_many", "_law_value"]⟩, ⟨f24, 34, ["_law_value", "_law_link_here"]⟩, ⟨f25, 35, ["_law_value", "_law_kept"]⟩, ⟨f26, 36, ["_law_scheme_here", "_law_link_here", "_law_own", "_law_due", "_law_side"]⟩, ⟨f27, 37, ["_law_script", "_law_pen", "_law_turn", "_law_scheme_here", "_law_step", "_law_link_here", "_law_some", "_law_near", "_law_own", "_law_deep", "_law_k"]⟩]
def fns : List DR := fns0
def csts0 : List (Str × Int) := [("MOST_LEAST", 4), ("MOST_TABLES", 4), ("MOST_LINKS", 6)]
def csts : List (Str × Int) := csts0
def loose0 : List Str := ["LinkError", "InvalidScheme", "InvalidNumber", "is_integer", "is_between", "MOST_TABLES", "MOST_LINKS", "MOST_LEAST", "are_counts", "is_link", "is_scheme_of", "require_scheme", "require_number", "require_side", "find_step", "is_scheme", "step_of", "_law_spread", "_law_open", "_law_take", "_law_anew", "_law_one", "_law_counts", "_law_link", "_law_ring", "_law_scheme", "_law_whole", "_law_bent", "_law_are_counts", "_law_is_link"]
def loose1 : List Str := ["_law_is_scheme", "_law_right", "_law_steps_right"]
def loose : List Str := loose0 ++ loose1
-- law at 37 index 27
def p : Prg := ⟨PySem.Challenge.pw_linkcounts_k10_what_is_a_scheme, fns, csts⟩
theorem chk : p.chk = true := by decide +kernel
end K10

set_option Elab.async false
set_option linter.all false
set_option maxRecDepth 100000
set_option maxHeartbeats 4000000
/-! k10: what the tests say -/
namespace K10
open PySem PySem.Spec L2 L3
variable {Φ : Nat → Sem1} {W : Nat}
def isInt : D → Bool
  | .int _ => true
  | _ => false
def whole : D → Int → Int → Bool
  | .int i, a, b => decide (a ≤ i) && decide (i ≤ b)
  | _, _, _ => false
def IntS (φ : Sem1) : Prop := ∀ d : D, okD d = true → φ [.sh d] = some (.bool (isInt d), [.sh d])
def WholeS (φ : Sem1) : Prop := ∀ (d : D) (a b : Int), okD d = true → φ [.sh d, .sh (.int a), .sh (.int b)] = some (.bool (whole d a b), [.sh d, .sh (.int a), .sh (.int b)])
theorem intS : IntS (runDef Φ W f0) := fun d h => by
  cases d <;> first | rfl | simp [okD] at h
theorem wholeS20 : WholeS (runDef Φ W f20) := fun d a b h => by
  cases d with
  | int i =>
    refine run_rt (f := f20) (args := [.sh (.int i), .sh (.int a), .sh (.int b)]) (s0 := [.sh (.int i), .sh (.int a), .sh (.int b)]) (s := [.sh (.int i), .sh (.int a), .sh (.int b)]) rfl rfl (s_ret ?_)
    refine x_andT (d := .bool true) (s1 := [.sh (.int i), .sh (.int a), .sh (.int b)]) (by (repeat' first | with_reducible apply x_c | with_reducible apply x_v | with_reducible apply o_pk | with_reducible apply o_e | with_reducible exact xs_nil | with_reducible exact xo_nil | with_reducible exact xa_nil | with_reducible apply xs_cons | with_reducible apply xo_cons | with_reducible apply xa_v | with_reducible apply xa_o | with_reducible apply xa_p | with_reducible apply xa_sc | with_reducible apply x_tup | with_reducible apply x_lst | with_reducible apply x_bin | with_reducible apply x_cmp | with_reducible apply x_ix | with_reducible apply x_isi | with_reducible apply x_bf | with_reducible apply x_neg | with_reducible apply x_nt | with_reducible apply x_chain | with_reducible apply x_cut | with_reducible exact xb_n | with_reducible apply xb_s | with_reducible apply x_sc | with_reducible apply x_call | rfl)) rfl (x_andT (d := .bool true) (s1 := [.sh (.int i), .sh (.int a), .sh (.int b)]) (by (repeat' first | with_reducible apply x_c | with_reducible apply x_v | with_reducible apply o_pk | with_reducible apply o_e | with_reducible exact xs_nil | with_reducible exact xo_nil | with_reducible exact xa_nil | with_reducible apply xs_cons | with_reducible apply xo_cons | with_reducible apply xa_v | with_reducible apply xa_o | with_reducible apply xa_p | with_reducible apply xa_sc | with_reducible apply x_tup | with_reducible apply x_lst | with_reducible apply x_bin | with_reducible apply x_cmp | with_reducible apply x_ix | with_reducible apply x_isi | with_reducible apply x_bf | with_reducible apply x_neg | with_reducible apply x_nt | with_reducible apply x_chain | with_reducible apply x_cut | with_reducible exact xb_n | with_reducible apply xb_s | with_reducible apply x_sc | with_reducible apply x_call | rfl)) rfl ?_)
    show ev Φ _ _ = .ok (.bool (decide (a ≤ i) && decide (i ≤ b))) _
    (repeat' first | with_reducible apply x_c | with_reducible apply x_v | with_reducible apply o_pk | with_reducible apply o_e | with_reducible exact xs_nil | with_reducible exact xo_nil | with_reducible exact xa_nil | with_reducible apply xs_cons | with_reducible apply xo_cons | with_reducible apply xa_v | with_reducible apply xa_o | with_reducible apply xa_p | with_reducible apply xa_sc | with_reducible apply x_tup | with_reducible apply x_lst | with_reducible apply x_bin | with_reducible apply x_cmp | with_reducible apply x_ix | with_reducible apply x_isi | with_reducible apply x_bf | with_reducible apply x_neg | with_reducible apply x_nt | with_reducible apply x_chain | with_reducible apply x_cut | with_reducible exact xb_n | with_reducible apply xb_s | with_reducible apply x_sc | with_reducible apply x_call | rfl)
  | dict k => simp [okD] at h
  | _ => rfl
theorem wholeS1 (h0 : IntS (Φ 0)) : WholeS (runDef Φ W f1) := fun d a b h => by
  have e := h0 d h
  have hc : ev Φ (.call 0 false (.v (.v 0) .nil)) [.sh d, .sh (.int a), .sh (.int b)] = .ok (.bool (isInt d)) [.sh d, .sh (.int a), .sh (.int b)] := by
    (repeat' first | exact do_ok rfl rfl e rfl rfl | with_reducible apply x_c | with_reducible apply x_v | with_reducible apply o_pk | with_reducible apply o_e | with_reducible exact xs_nil | with_reducible exact xo_nil | with_reducible exact xa_nil | with_reducible apply xs_cons | with_reducible apply xo_cons | with_reducible apply xa_v | with_reducible apply xa_o | with_reducible apply xa_p | with_reducible apply xa_sc | with_reducible apply x_tup | with_reducible apply x_lst | with_reducible apply x_bin | with_reducible apply x_cmp | with_reducible apply x_ix | with_reducible apply x_isi | with_reducible apply x_bf | with_reducible apply x_neg | with_reducible apply x_nt | with_reducible apply x_chain | with_reducible apply x_cut | with_reducible exact xb_n | with_reducible apply xb_s | with_reducible apply x_sc | with_reducible apply x_call | rfl)
  refine run_rt (f := f1) (args := [.sh d, .sh (.int a), .sh (.int b)]) (s0 := [.sh d, .sh (.int a), .sh (.int b)]) (s := [.sh d, .sh (.int a), .sh (.int b)]) rfl rfl (s_ret ?_)
  cases d with
  | int i =>
    refine x_andT hc rfl ?_
    show ev Φ _ _ = .ok (.bool (decide (a ≤ i) && decide (i ≤ b))) _
    (repeat' first | with_reducible apply x_c | with_reducible apply x_v | with_reducible apply o_pk | with_reducible apply o_e | with_reducible exact xs_nil | with_reducible exact xo_nil | with_reducible exact xa_nil | with_reducible apply xs_cons | with_reducible apply xo_cons | with_reducible apply xa_v | with_reducible apply xa_o | with_reducible apply xa_p | with_reducible apply xa_sc | with_reducible apply x_tup | with_reducible apply x_lst | with_reducible apply x_bin | with_reducible apply x_cmp | with_reducible apply x_ix | with_reducible apply x_isi | with_reducible apply x_bf | with_reducible apply x_neg | with_reducible apply x_nt | with_reducible apply x_chain | with_reducible apply x_cut | with_reducible exact xb_n | with_reducible apply xb_s | with_reducible apply x_sc | with_reducible apply x_call | rfl)
  | _ => exact x_andF hc rfl
/-- counts -/
def cnt2 (i : D) : D → Bool
  | .none => true
  | .int j => decide (1 ≤ j) && (match i with
    | .int i => decide (i ≤ j)
    | _ => false)
  | _ => false
def counts : D → Bool
  | .tuple [x, y] => whole x 0 4 && cnt2 x y
  | _ => false
def CountsS (φ : Sem1) : Prop := ∀ d : D, okD d = true → φ [.sh d] = some (.bool (counts d), [.sh d])
theorem len_ne {α : Type} {xs : List α} {n : Nat} (h : xs.length ≠ n) : cop .NotEq (.int (xs.length : Int)) (.int (n : Int)) = some true := by
  show some (!((xs.length : Int) == (n : Int))) = some true
  have : ((xs.length : Int) == (n : Int)) = false := by
    rw [beq_eq_false_iff_ne]
    omega
  rw [this]
  rfl
theorem len_eq {α : Type} {xs : List α} {n : Nat} (h : xs.length = n) : cop .NotEq (.int (xs.length : Int)) (.int (n : Int)) = some false := by
  show some (!((xs.length : Int) == (n : Int))) = some false
  have : ((xs.length : Int) == (n : Int)) = true := by
    rw [beq_iff_eq]
    omega
  rw [this]
  rfl
/-- the tests that open with "not a tuple of n things" -/
theorem not_tuple {d : D} {t : List Sl} {n : Nat} {rest : E} (hd : okD d = true) (h : ∀ xs, d = .tuple xs → xs.length ≠ n) :
    ev Φ (.or (.nt (.isi (.pk 0) .tuple)) (.or (.cmp .NotEq (.bf .len (es [.pk 0])) (.c (.int n))) rest)) (.sh d :: t) = .ok (.bool true) (.sh d :: t) := by
  cases d with
  | tuple xs =>
    refine x_orF (d := .bool false) (s1 := .sh (.tuple xs) :: t) (by (repeat' first | with_reducible apply x_c | with_reducible apply x_v | with_reducible apply o_pk | with_reducible apply o_e | with_reducible exact xs_nil | with_reducible exact xo_nil | with_reducible exact xa_nil | with_reducible apply xs_cons | with_reducible apply xo_cons | with_reducible apply xa_v | with_reducible apply xa_o | with_reducible apply xa_p | with_reducible apply xa_sc | with_reducible apply x_tup | with_reducible apply x_lst | with_reducible apply x_bin | with_reducible apply x_cmp | with_reducible apply x_ix | with_reducible apply x_isi | with_reducible apply x_bf | with_reducible apply x_neg | with_reducible apply x_nt | with_reducible apply x_chain | with_reducible apply x_cut | with_reducible exact xb_n | with_reducible apply xb_s | with_reducible apply x_sc | with_reducible apply x_call | rfl)) rfl (x_orT (d := .bool true) ?_ rfl)
    (repeat' first | exact len_ne (h xs rfl) | with_reducible apply x_c | with_reducible apply x_v | with_reducible apply o_pk | with_reducible apply o_e | with_reducible exact xs_nil | with_reducible exact xo_nil | with_reducible exact xa_nil | with_reducible apply xs_cons | with_reducible apply xo_cons | with_reducible apply xa_v | with_reducible apply xa_o | with_reducible apply xa_p | with_reducible apply xa_sc | with_reducible apply x_tup | with_reducible apply x_lst | with_reducible apply x_bin | with_reducible apply x_cmp | with_reducible apply x_ix | with_reducible apply x_isi | with_reducible apply x_bf | with_reducible apply x_neg | with_reducible apply x_nt | with_reducible apply x_chain | with_reducible apply x_cut | with_reducible exact xb_n | with_reducible apply xb_s | with_reducible apply x_sc | with_reducible apply x_call | rfl)
  | dict k => simp [okD] at hd
  | _ => exact x_orT (d := .bool true) (by (repeat' first | with_reducible apply x_c | with_reducible apply x_v | with_reducible apply o_pk | with_reducible apply o_e | with_reducible exact xs_nil | with_reducible exact xo_nil | with_reducible exact xa_nil | with_reducible apply xs_cons | with_reducible apply xo_cons | with_reducible apply xa_v | with_reducible apply xa_o | with_reducible apply xa_p | with_reducible apply xa_sc | with_reducible apply x_tup | with_reducible apply x_lst | with_reducible apply x_bin | with_reducible apply x_cmp | with_reducible apply x_ix | with_reducible apply x_isi | with_reducible apply x_bf | with_reducible apply x_neg | with_reducible apply x_nt | with_reducible apply x_chain | with_reducible apply x_cut | with_reducible exact xb_n | with_reducible apply xb_s | with_reducible apply x_sc | with_reducible apply x_call | rfl)) rfl
theorem is_tuple {xs : List D} {t : List Sl} {n : Nat} {rest : E} {r : D} (h : xs.length = n) (hr : ev Φ rest (.sh (.tuple xs) :: t) = .ok r (.sh (.tuple xs) :: t)) :
    ev Φ (.or (.nt (.isi (.pk 0) .tuple)) (.or (.cmp .NotEq (.bf .len (es [.pk 0])) (.c (.int n))) rest)) (.sh (.tuple xs) :: t) = .ok r (.sh (.tuple xs) :: t) := by
  refine x_orF (d := .bool false) (s1 := .sh (.tuple xs) :: t) (by (repeat' first | with_reducible apply x_c | with_reducible apply x_v | with_reducible apply o_pk | with_reducible apply o_e | with_reducible exact xs_nil | with_reducible exact xo_nil | with_reducible exact xa_nil | with_reducible apply xs_cons | with_reducible apply xo_cons | with_reducible apply xa_v | with_reducible apply xa_o | with_reducible apply xa_p | with_reducible apply xa_sc | with_reducible apply x_tup | with_reducible apply x_lst | with_reducible apply x_bin | with_reducible apply x_cmp | with_reducible apply x_ix | with_reducible apply x_isi | with_reducible apply x_bf | with_reducible apply x_neg | with_reducible apply x_nt | with_reducible apply x_chain | with_reducible apply x_cut | with_reducible exact xb_n | with_reducible apply xb_s | with_reducible apply x_sc | with_reducible apply x_call | rfl)) rfl (x_orF (d := .bool false) (s1 := .sh (.tuple xs) :: t) ?_ rfl hr)
  (repeat' first | exact len_eq h | with_reducible apply x_c | with_reducible apply x_v | with_reducible apply o_pk | with_reducible apply o_e | with_reducible exact xs_nil | with_reducible exact xo_nil | with_reducible exact xa_nil | with_reducible apply xs_cons | with_reducible apply xo_cons | with_reducible apply xa_v | with_reducible apply xa_o | with_reducible apply xa_p | with_reducible apply xa_sc | with_reducible apply x_tup | with_reducible apply x_lst | with_reducible apply x_bin | with_reducible apply x_cmp | with_reducible apply x_ix | with_reducible apply x_isi | with_reducible apply x_bf | with_reducible apply x_neg | with_reducible apply x_nt | with_reducible apply x_chain | with_reducible apply x_cut | with_reducible exact xb_n | with_reducible apply xb_s | with_reducible apply x_sc | with_reducible apply x_call | rfl)
theorem two_of {xs : List D} (h : xs.length = 2) : ∃ x y, xs = [x, y] := len_two h
theorem counts_no {d : D} (h : ∀ xs, d = .tuple xs → xs.length ≠ 2) : counts d = false := by
  unfold counts
  split
  · exact absurd rfl (h _ rfl)
  · rfl
theorem ret_false {q : Ss} {s : Sls} : thenF (sts Φ W (ss [.ret (.c (.bool false))]) s) (sts Φ W q) = .rt (.bool false) s := rfl
theorem countsS2 (h0 : IntS (Φ 0)) (h1 : WholeS (Φ 1)) (g : Φ 28 [] = some (.int 4, [])) : CountsS (runDef Φ W f2) := fun d h => by
  by_cases hd : ∀ xs, d = .tuple xs → xs.length ≠ 2
  · rw [counts_no hd]
    exact run_rt (f := f2) (args := [.sh d]) (s0 := [.sh d]) (s := [.sh d]) rfl rfl (s_ifT (not_tuple (n := 2) h hd) rfl ret_false)
  · obtain ⟨x, y, rfl⟩ : ∃ x y, d = .tuple [x, y] := by
      apply Classical.byContradiction
      intro hn
      refine hd fun xs e hl => hn ?_
      obtain ⟨x, y, rfl⟩ := two_of hl
      exact ⟨x, y, e⟩
    simp only [okD, okAll, Bool.and_eq_true] at h
    have hw : ev Φ (.nt (.call 1 false (.v (.ix (.pk 0) (.c (.int 0))) (.v (.c (.int 0)) (.v (.g 28) .nil))))) [.sh (.tuple [x, y])] = .ok (.bool (!whole x 0 4)) [.sh (.tuple [x, y])] := by
      (repeat' first | exact x_g g | exact do_ok rfl rfl (h1 x 0 4 h.1) rfl rfl | with_reducible apply x_c | with_reducible apply x_v | with_reducible apply o_pk | with_reducible apply o_e | with_reducible exact xs_nil | with_reducible exact xo_nil | with_reducible exact xa_nil | with_reducible apply xs_cons | with_reducible apply xo_cons | with_reducible apply xa_v | with_reducible apply xa_o | with_reducible apply xa_p | with_reducible apply xa_sc | with_reducible apply x_tup | with_reducible apply x_lst | with_reducible apply x_bin | with_reducible apply x_cmp | with_reducible apply x_ix | with_reducible apply x_isi | with_reducible apply x_bf | with_reducible apply x_neg | with_reducible apply x_nt | with_reducible apply x_chain | with_reducible apply x_cut | with_reducible exact xb_n | with_reducible apply xb_s | with_reducible apply x_sc | with_reducible apply x_call | rfl)
    have hc := is_tuple (Φ := Φ) (t := []) (xs := [x, y]) (n := 2) rfl hw
    show _ = some (PyData.bool (whole x 0 4 && cnt2 x y), [Sl.sh (PyData.tuple [x, y])])
    cases e : whole x 0 4 with
    | false =>
      rw [e] at hc
      exact run_rt (f := f2) (args := [.sh (.tuple [x, y])]) (s0 := [.sh (.tuple [x, y])]) (s := [.sh (.tuple [x, y])]) rfl rfl (s_ifT hc rfl ret_false)
    | true =>
      rw [e] at hc
      obtain ⟨i, rfl⟩ : ∃ i, x = .int i := by
        cases x <;> first | exact ⟨_, rfl⟩ | (simp [whole] at e)
      refine run_rt (f := f2) (args := [.sh (.tuple [.int i, y])]) (s0 := [.sh (.tuple [.int i, y])]) (s := [.sh (.tuple [.int i, y])]) rfl rfl (s_ifF hc rfl (s_ret ?_))
      rw [Bool.true_and]
      have hi : ev Φ (.call 0 false (.v (.ix (.pk 0) (.c (.int 1))) .nil)) [.sh (.tuple [.int i, y])] = .ok (.bool (isInt y)) [.sh (.tuple [.int i, y])] := by
        (repeat' first | exact do_ok rfl rfl (h0 y h.2.1) rfl rfl | with_reducible apply x_c | with_reducible apply x_v | with_reducible apply o_pk | with_reducible apply o_e | with_reducible exact xs_nil | with_reducible exact xo_nil | with_reducible exact xa_nil | with_reducible apply xs_cons | with_reducible apply xo_cons | with_reducible apply xa_v | with_reducible apply xa_o | with_reducible apply xa_p | with_reducible apply xa_sc | with_reducible apply x_tup | with_reducible apply x_lst | with_reducible apply x_bin | with_reducible apply x_cmp | with_reducible apply x_ix | with_reducible apply x_isi | with_reducible apply x_bf | with_reducible apply x_neg | with_reducible apply x_nt | with_reducible apply x_chain | with_reducible apply x_cut | with_reducible exact xb_n | with_reducible apply xb_s | with_reducible apply x_sc | with_reducible apply x_call | rfl)
      cases y with
      | none => exact x_orT (d := .bool true) (by (repeat' first | with_reducible apply x_c | with_reducible apply x_v | with_reducible apply o_pk | with_reducible apply o_e | with_reducible exact xs_nil | with_reducible exact xo_nil | with_reducible exact xa_nil | with_reducible apply xs_cons | with_reducible apply xo_cons | with_reducible apply xa_v | with_reducible apply xa_o | with_reducible apply xa_p | with_reducible apply xa_sc | with_reducible apply x_tup | with_reducible apply x_lst | with_reducible apply x_bin | with_reducible apply x_cmp | with_reducible apply x_ix | with_reducible apply x_isi | with_reducible apply x_bf | with_reducible apply x_neg | with_reducible apply x_nt | with_reducible apply x_chain | with_reducible apply x_cut | with_reducible exact xb_n | with_reducible apply xb_s | with_reducible apply x_sc | with_reducible apply x_call | rfl)) rfl
      | int j =>
        refine x_orF (d := .bool false) (s1 := [.sh (.tuple [.int i, .int j])]) (by (repeat' first | with_reducible apply x_c | with_reducible apply x_v | with_reducible apply o_pk | with_reducible apply o_e | with_reducible exact xs_nil | with_reducible exact xo_nil | with_reducible exact xa_nil | with_reducible apply xs_cons | with_reducible apply xo_cons | with_reducible apply xa_v | with_reducible apply xa_o | with_reducible apply xa_p | with_reducible apply xa_sc | with_reducible apply x_tup | with_reducible apply x_lst | with_reducible apply x_bin | with_reducible apply x_cmp | with_reducible apply x_ix | with_reducible apply x_isi | with_reducible apply x_bf | with_reducible apply x_neg | with_reducible apply x_nt | with_reducible apply x_chain | with_reducible apply x_cut | with_reducible exact xb_n | with_reducible apply xb_s | with_reducible apply x_sc | with_reducible apply x_call | rfl)) rfl (x_andT hi rfl ?_)
        show ev Φ _ _ = .ok (.bool (decide (1 ≤ j) && decide (i ≤ j))) _
        refine x_and (by (repeat' first | with_reducible apply x_c | with_reducible apply x_v | with_reducible apply o_pk | with_reducible apply o_e | with_reducible exact xs_nil | with_reducible exact xo_nil | with_reducible exact xa_nil | with_reducible apply xs_cons | with_reducible apply xo_cons | with_reducible apply xa_v | with_reducible apply xa_o | with_reducible apply xa_p | with_reducible apply xa_sc | with_reducible apply x_tup | with_reducible apply x_lst | with_reducible apply x_bin | with_reducible apply x_cmp | with_reducible apply x_ix | with_reducible apply x_isi | with_reducible apply x_bf | with_reducible apply x_neg | with_reducible apply x_nt | with_reducible apply x_chain | with_reducible apply x_cut | with_reducible exact xb_n | with_reducible apply xb_s | with_reducible apply x_sc | with_reducible apply x_call | rfl)) (fun _ => by (repeat' first | with_reducible apply x_c | with_reducible apply x_v | with_reducible apply o_pk | with_reducible apply o_e | with_reducible exact xs_nil | with_reducible exact xo_nil | with_reducible exact xa_nil | with_reducible apply xs_cons | with_reducible apply xo_cons | with_reducible apply xa_v | with_reducible apply xa_o | with_reducible apply xa_p | with_reducible apply xa_sc | with_reducible apply x_tup | with_reducible apply x_lst | with_reducible apply x_bin | with_reducible apply x_cmp | with_reducible apply x_ix | with_reducible apply x_isi | with_reducible apply x_bf | with_reducible apply x_neg | with_reducible apply x_nt | with_reducible apply x_chain | with_reducible apply x_cut | with_reducible exact xb_n | with_reducible apply xb_s | with_reducible apply x_sc | with_reducible apply x_call | rfl))
      | dict k => simp [okD] at h
      | _ => exact x_orF (d := .bool false) (s1 := _) (by (repeat' first | with_reducible apply x_c | with_reducible apply x_v | with_reducible apply o_pk | with_reducible apply o_e | with_reducible exact xs_nil | with_reducible exact xo_nil | with_reducible exact xa_nil | with_reducible apply xs_cons | with_reducible apply xo_cons | with_reducible apply xa_v | with_reducible apply xa_o | with_reducible apply xa_p | with_reducible apply xa_sc | with_reducible apply x_tup | with_reducible apply x_lst | with_reducible apply x_bin | with_reducible apply x_cmp | with_reducible apply x_ix | with_reducible apply x_isi | with_reducible apply x_bf | with_reducible apply x_neg | with_reducible apply x_nt | with_reducible apply x_chain | with_reducible apply x_cut | with_reducible exact xb_n | with_reducible apply xb_s | with_reducible apply x_sc | with_reducible apply x_call | rfl)) rfl (x_andF hi rfl)
end K10

set_option Elab.async false
set_option linter.all false
set_option maxRecDepth 100000
set_option maxHeartbeats 4000000
/-! k10: links, schemes; right -/
namespace K10
open PySem PySem.Spec L2 L3
variable {Φ : Nat → Sem1} {W : Nat}
theorem set_set_self {α : Type} {s : List α} {i : Nat} {a b : α} : (s.set i a).set i b = s.set i b := List.set_set ..
theorem set_back {s : Sls} {i : Nat} {x : Sl} {y : Sl} (h : s[i]? = some y) : (s.set i x).set i y = s := by
  rw [List.set_set]
  apply List.ext_getElem?
  intro j
  by_cases hj : i = j
  · subst hj
    rw [List.getElem?_set_self (List.getElem?_eq_some_iff.mp h).1, h]
  · rw [List.getElem?_set_ne hj]
/-- a comprehension over one name, its parts without effects -/
theorem lc_turns {i : Nat} {c : Oe} {elt : E} {s : Sls} {p : D → Bool} {F : D → D} :
    ∀ {items acc : List D} {z : Sl}, (∀ d ∈ items, evc Φ c (s.set i (.sh d)) = .ok (p d) (s.set i (.sh d)) ∧ (p d = true → ev Φ elt (s.set i (.sh d)) = .ok (F d) (s.set i (.sh d)))) →
      ∃ z', lcL (fun d s => match asgTg (.nm i) d (wipeS s [i]) with
        | none => .bad
        | some s1 => (evc Φ c s1).bnd fun b s2 => if b then (ev Φ elt s2).bnd fun y s3 => .ok (some y) s3 else .ok none s2) items acc (s.set i z) = .ok (acc ++ (items.filter p).map F) (s.set i z')
  | [], acc, z, _ => ⟨z, by simp [lcL]⟩
  | d :: r, acc, z, h => by
    obtain ⟨h1, h2⟩ := h d List.mem_cons_self
    have e1 : asgTg (.nm i) d (wipeS (s.set i z) [i]) = some (s.set i (.sh d)) := by
      simp only [asgTg, wipeS, List.set_set]
    have hr := fun acc => lc_turns (items := r) (acc := acc) (z := .sh d) (fun x hx => h x (List.mem_cons_of_mem _ hx))
    cases hp : p d with
    | true =>
      obtain ⟨z', hz⟩ := hr (acc ++ [F d])
      refine ⟨z', ?_⟩
      simp only [lcL, e1, h1, hp, bnd_ok, if_true, h2 hp, List.filter_cons, List.map_cons]
      rw [hz, List.append_assoc]
      rfl
    | false =>
      obtain ⟨z', hz⟩ := hr acc
      refine ⟨z', ?_⟩
      simp only [lcL, e1, h1, hp, bnd_ok, Bool.false_eq_true, if_false, List.filter_cons]
      rw [hz]
theorem x_lc {x : Str} {i : Nat} {it : L3.It} {c : Oe} {elt : E} {s : Sls} {items : List D} {p : D → Bool} {F : D → D} {y : Sl} (hi : evIt Φ it s = .ok items s) (hy : s[i]? = some y) (hw : isOw s i = false)
    (h : ∀ d ∈ items, evc Φ c (s.set i (.sh d)) = .ok (p d) (s.set i (.sh d)) ∧ (p d = true → ev Φ elt (s.set i (.sh d)) = .ok (F d) (s.set i (.sh d)))) (hf : items.length ≤ 10000) :
    ev Φ (.lc [(x, i)] (.nm i) it c elt) s = .ok (.list ((items.filter p).map F)) s := by
  have hs : s = s.set i y := by
    have := set_back (x := y) hy
    rw [List.set_set] at this
    exact this.symm
  obtain ⟨z', hz⟩ := lc_turns (z := y) (acc := []) h
  rw [← hs] at hz
  have hl : fitN ((items.filter p).map F).length = true := by
    have := List.length_filter_le p items
    simp only [fitN, List.length_map, decide_eq_true_eq, Line]
    omega
  simp only [ev, hi, bnd_ok, List.map_cons, List.map_nil, List.any_cons, List.any_nil, hw, Bool.or_false, Bool.false_eq_true, if_false]
  rw [List.nil_append] at hz
  refine (congrArg (fun z => R.bnd z _) hz).trans ?_
  simp only [bnd_ok, hl, if_true, backS, hy, Option.getD_some]
  rw [set_back hy]
/-! ### counts, the law's way -/
theorem max3_le {i j : Int} : decide ((if i > 1 then i else 1) ≤ j) = (decide (1 ≤ j) && decide (i ≤ j)) := by
  rw [Bool.eq_iff_iff]
  simp only [decide_eq_true_eq, Bool.and_eq_true]
  split <;> omega
theorem countsS22 (h20 : WholeS (Φ 20)) : CountsS (runDef Φ W f22) := fun d h => by
  by_cases hd : ∀ xs, d = .tuple xs → xs.length ≠ 2
  · rw [counts_no hd]
    exact run_rt (f := f22) (args := [.sh d]) (s0 := [.sh d]) (s := [.sh d]) rfl rfl (s_ifT (not_tuple (n := 2) h hd) rfl ret_false)
  · obtain ⟨x, y, rfl⟩ : ∃ x y, d = .tuple [x, y] := by
      apply Classical.byContradiction
      intro hn
      refine hd fun xs e hl => hn ?_
      obtain ⟨x, y, rfl⟩ := two_of hl
      exact ⟨x, y, e⟩
    simp only [okD, okAll, Bool.and_eq_true] at h
    have hw : ev Φ (.nt (.call 20 false (.v (.ix (.pk 0) (.c (.int 0))) (.v (.c (.int 0)) (.v (.c (.int 4)) .nil))))) [.sh (.tuple [x, y])] = .ok (.bool (!whole x 0 4)) [.sh (.tuple [x, y])] := by
      (repeat' first | exact do_ok rfl rfl (h20 x 0 4 h.1) rfl rfl | with_reducible apply x_c | with_reducible apply x_v | with_reducible apply o_pk | with_reducible apply o_e | with_reducible exact xs_nil | with_reducible exact xo_nil | with_reducible exact xa_nil | with_reducible apply xs_cons | with_reducible apply xo_cons | with_reducible apply xa_v | with_reducible apply xa_o | with_reducible apply xa_p | with_reducible apply xa_sc | with_reducible apply x_tup | with_reducible apply x_lst | with_reducible apply x_bin | with_reducible apply x_cmp | with_reducible apply x_ix | with_reducible apply x_isi | with_reducible apply x_bf | with_reducible apply x_neg | with_reducible apply x_nt | with_reducible apply x_chain | with_reducible apply x_cut | with_reducible exact xb_n | with_reducible apply xb_s | with_reducible apply x_sc | with_reducible apply x_call | rfl)
    have hc := is_tuple (Φ := Φ) (t := []) (xs := [x, y]) (n := 2) rfl hw
    show _ = some (PyData.bool (whole x 0 4 && cnt2 x y), [Sl.sh (PyData.tuple [x, y])])
    cases e : whole x 0 4 with
    | false =>
      rw [e] at hc
      exact run_rt (f := f22) (args := [.sh (.tuple [x, y])]) (s0 := [.sh (.tuple [x, y])]) (s := [.sh (.tuple [x, y])]) rfl rfl (s_ifT hc rfl ret_false)
    | true =>
      rw [e] at hc
      obtain ⟨i, rfl⟩ : ∃ i, x = .int i := by
        cases x <;> first | exact ⟨_, rfl⟩ | (simp [whole] at e)
      refine run_rt (f := f22) (args := [.sh (.tuple [.int i, y])]) (s0 := [.sh (.tuple [.int i, y])]) (s := [.sh (.tuple [.int i, y])]) rfl rfl (s_ifF hc rfl ?_)
      rw [Bool.true_and]
      cases y with
      | none => exact s_ifT (d := .bool true) (s1 := [.sh (.tuple [.int i, .none])]) (by (repeat' first | with_reducible apply x_c | with_reducible apply x_v | with_reducible apply o_pk | with_reducible apply o_e | with_reducible exact xs_nil | with_reducible exact xo_nil | with_reducible exact xa_nil | with_reducible apply xs_cons | with_reducible apply xo_cons | with_reducible apply xa_v | with_reducible apply xa_o | with_reducible apply xa_p | with_reducible apply xa_sc | with_reducible apply x_tup | with_reducible apply x_lst | with_reducible apply x_bin | with_reducible apply x_cmp | with_reducible apply x_ix | with_reducible apply x_isi | with_reducible apply x_bf | with_reducible apply x_neg | with_reducible apply x_nt | with_reducible apply x_chain | with_reducible apply x_cut | with_reducible exact xb_n | with_reducible apply xb_s | with_reducible apply x_sc | with_reducible apply x_call | rfl)) rfl rfl
      | int j =>
        refine s_ifF (d := .bool false) (s1 := [.sh (.tuple [.int i, .int j])]) (by (repeat' first | with_reducible apply x_c | with_reducible apply x_v | with_reducible apply o_pk | with_reducible apply o_e | with_reducible exact xs_nil | with_reducible exact xo_nil | with_reducible exact xa_nil | with_reducible apply xs_cons | with_reducible apply xo_cons | with_reducible apply xa_v | with_reducible apply xa_o | with_reducible apply xa_p | with_reducible apply xa_sc | with_reducible apply x_tup | with_reducible apply x_lst | with_reducible apply x_bin | with_reducible apply x_cmp | with_reducible apply x_ix | with_reducible apply x_isi | with_reducible apply x_bf | with_reducible apply x_neg | with_reducible apply x_nt | with_reducible apply x_chain | with_reducible apply x_cut | with_reducible exact xb_n | with_reducible apply xb_s | with_reducible apply x_sc | with_reducible apply x_call | rfl)) rfl (s_ifF (d := .bool false) (s1 := [.sh (.tuple [.int i, .int j])]) (x_orF (d := .bool false) (s1 := [.sh (.tuple [.int i, .int j])]) (by (repeat' first | with_reducible apply x_c | with_reducible apply x_v | with_reducible apply o_pk | with_reducible apply o_e | with_reducible exact xs_nil | with_reducible exact xo_nil | with_reducible exact xa_nil | with_reducible apply xs_cons | with_reducible apply xo_cons | with_reducible apply xa_v | with_reducible apply xa_o | with_reducible apply xa_p | with_reducible apply xa_sc | with_reducible apply x_tup | with_reducible apply x_lst | with_reducible apply x_bin | with_reducible apply x_cmp | with_reducible apply x_ix | with_reducible apply x_isi | with_reducible apply x_bf | with_reducible apply x_neg | with_reducible apply x_nt | with_reducible apply x_chain | with_reducible apply x_cut | with_reducible exact xb_n | with_reducible apply xb_s | with_reducible apply x_sc | with_reducible apply x_call | rfl)) rfl (by (repeat' first | with_reducible apply x_c | with_reducible apply x_v | with_reducible apply o_pk | with_reducible apply o_e | with_reducible exact xs_nil | with_reducible exact xo_nil | with_reducible exact xa_nil | with_reducible apply xs_cons | with_reducible apply xo_cons | with_reducible apply xa_v | with_reducible apply xa_o | with_reducible apply xa_p | with_reducible apply xa_sc | with_reducible apply x_tup | with_reducible apply x_lst | with_reducible apply x_bin | with_reducible apply x_cmp | with_reducible apply x_ix | with_reducible apply x_isi | with_reducible apply x_bf | with_reducible apply x_neg | with_reducible apply x_nt | with_reducible apply x_chain | with_reducible apply x_cut | with_reducible exact xb_n | with_reducible apply xb_s | with_reducible apply x_sc | with_reducible apply x_call | rfl))) rfl (s_ret ?_))
        show ev Φ _ _ = .ok (.bool (decide (1 ≤ j) && decide (i ≤ j))) _
        rw [← max3_le]
        (repeat' first | with_reducible apply x_c | with_reducible apply x_v | with_reducible apply o_pk | with_reducible apply o_e | with_reducible exact xs_nil | with_reducible exact xo_nil | with_reducible exact xa_nil | with_reducible apply xs_cons | with_reducible apply xo_cons | with_reducible apply xa_v | with_reducible apply xa_o | with_reducible apply xa_p | with_reducible apply xa_sc | with_reducible apply x_tup | with_reducible apply x_lst | with_reducible apply x_bin | with_reducible apply x_cmp | with_reducible apply x_ix | with_reducible apply x_isi | with_reducible apply x_bf | with_reducible apply x_neg | with_reducible apply x_nt | with_reducible apply x_chain | with_reducible apply x_cut | with_reducible exact xb_n | with_reducible apply xb_s | with_reducible apply x_sc | with_reducible apply x_call | rfl)
      | dict k => simp [okD] at h
      | bool b => exact s_ifF (d := .bool false) (s1 := [.sh (.tuple [.int i, .bool b])]) (by (repeat' first | with_reducible apply x_c | with_reducible apply x_v | with_reducible apply o_pk | with_reducible apply o_e | with_reducible exact xs_nil | with_reducible exact xo_nil | with_reducible exact xa_nil | with_reducible apply xs_cons | with_reducible apply xo_cons | with_reducible apply xa_v | with_reducible apply xa_o | with_reducible apply xa_p | with_reducible apply xa_sc | with_reducible apply x_tup | with_reducible apply x_lst | with_reducible apply x_bin | with_reducible apply x_cmp | with_reducible apply x_ix | with_reducible apply x_isi | with_reducible apply x_bf | with_reducible apply x_neg | with_reducible apply x_nt | with_reducible apply x_chain | with_reducible apply x_cut | with_reducible exact xb_n | with_reducible apply xb_s | with_reducible apply x_sc | with_reducible apply x_call | rfl)) rfl (s_ifT (d := .bool true) (s1 := [.sh (.tuple [.int i, .bool b])]) (x_orF (d := .bool false) (s1 := [.sh (.tuple [.int i, .bool b])]) (by (repeat' first | with_reducible apply x_c | with_reducible apply x_v | with_reducible apply o_pk | with_reducible apply o_e | with_reducible exact xs_nil | with_reducible exact xo_nil | with_reducible exact xa_nil | with_reducible apply xs_cons | with_reducible apply xo_cons | with_reducible apply xa_v | with_reducible apply xa_o | with_reducible apply xa_p | with_reducible apply xa_sc | with_reducible apply x_tup | with_reducible apply x_lst | with_reducible apply x_bin | with_reducible apply x_cmp | with_reducible apply x_ix | with_reducible apply x_isi | with_reducible apply x_bf | with_reducible apply x_neg | with_reducible apply x_nt | with_reducible apply x_chain | with_reducible apply x_cut | with_reducible exact xb_n | with_reducible apply xb_s | with_reducible apply x_sc | with_reducible apply x_call | rfl)) rfl (by (repeat' first | with_reducible apply x_c | with_reducible apply x_v | with_reducible apply o_pk | with_reducible apply o_e | with_reducible exact xs_nil | with_reducible exact xo_nil | with_reducible exact xa_nil | with_reducible apply xs_cons | with_reducible apply xo_cons | with_reducible apply xa_v | with_reducible apply xa_o | with_reducible apply xa_p | with_reducible apply xa_sc | with_reducible apply x_tup | with_reducible apply x_lst | with_reducible apply x_bin | with_reducible apply x_cmp | with_reducible apply x_ix | with_reducible apply x_isi | with_reducible apply x_bf | with_reducible apply x_neg | with_reducible apply x_nt | with_reducible apply x_chain | with_reducible apply x_cut | with_reducible exact xb_n | with_reducible apply xb_s | with_reducible apply x_sc | with_reducible apply x_call | rfl))) rfl ret_false)
      | str z => exact s_ifF (d := .bool false) (s1 := [.sh (.tuple [.int i, .str z])]) (by (repeat' first | with_reducible apply x_c | with_reducible apply x_v | with_reducible apply o_pk | with_reducible apply o_e | with_reducible exact xs_nil | with_reducible exact xo_nil | with_reducible exact xa_nil | with_reducible apply xs_cons | with_reducible apply xo_cons | with_reducible apply xa_v | with_reducible apply xa_o | with_reducible apply xa_p | with_reducible apply xa_sc | with_reducible apply x_tup | with_reducible apply x_lst | with_reducible apply x_bin | with_reducible apply x_cmp | with_reducible apply x_ix | with_reducible apply x_isi | with_reducible apply x_bf | with_reducible apply x_neg | with_reducible apply x_nt | with_reducible apply x_chain | with_reducible apply x_cut | with_reducible exact xb_n | with_reducible apply xb_s | with_reducible apply x_sc | with_reducible apply x_call | rfl)) rfl (s_ifT (d := .bool true) (s1 := [.sh (.tuple [.int i, .str z])]) (x_orT (d := .bool true) (by (repeat' first | with_reducible apply x_c | with_reducible apply x_v | with_reducible apply o_pk | with_reducible apply o_e | with_reducible exact xs_nil | with_reducible exact xo_nil | with_reducible exact xa_nil | with_reducible apply xs_cons | with_reducible apply xo_cons | with_reducible apply xa_v | with_reducible apply xa_o | with_reducible apply xa_p | with_reducible apply xa_sc | with_reducible apply x_tup | with_reducible apply x_lst | with_reducible apply x_bin | with_reducible apply x_cmp | with_reducible apply x_ix | with_reducible apply x_isi | with_reducible apply x_bf | with_reducible apply x_neg | with_reducible apply x_nt | with_reducible apply x_chain | with_reducible apply x_cut | with_reducible exact xb_n | with_reducible apply xb_s | with_reducible apply x_sc | with_reducible apply x_call | rfl)) rfl) rfl ret_false)
      | list z => exact s_ifF (d := .bool false) (s1 := [.sh (.tuple [.int i, .list z])]) (by (repeat' first | with_reducible apply x_c | with_reducible apply x_v | with_reducible apply o_pk | with_reducible apply o_e | with_reducible exact xs_nil | with_reducible exact xo_nil | with_reducible exact xa_nil | with_reducible apply xs_cons | with_reducible apply xo_cons | with_reducible apply xa_v | with_reducible apply xa_o | with_reducible apply xa_p | with_reducible apply xa_sc | with_reducible apply x_tup | with_reducible apply x_lst | with_reducible apply x_bin | with_reducible apply x_cmp | with_reducible apply x_ix | with_reducible apply x_isi | with_reducible apply x_bf | with_reducible apply x_neg | with_reducible apply x_nt | with_reducible apply x_chain | with_reducible apply x_cut | with_reducible exact xb_n | with_reducible apply xb_s | with_reducible apply x_sc | with_reducible apply x_call | rfl)) rfl (s_ifT (d := .bool true) (s1 := [.sh (.tuple [.int i, .list z])]) (x_orT (d := .bool true) (by (repeat' first | with_reducible apply x_c | with_reducible apply x_v | with_reducible apply o_pk | with_reducible apply o_e | with_reducible exact xs_nil | with_reducible exact xo_nil | with_reducible exact xa_nil | with_reducible apply xs_cons | with_reducible apply xo_cons | with_reducible apply xa_v | with_reducible apply xa_o | with_reducible apply xa_p | with_reducible apply xa_sc | with_reducible apply x_tup | with_reducible apply x_lst | with_reducible apply x_bin | with_reducible apply x_cmp | with_reducible apply x_ix | with_reducible apply x_isi | with_reducible apply x_bf | with_reducible apply x_neg | with_reducible apply x_nt | with_reducible apply x_chain | with_reducible apply x_cut | with_reducible exact xb_n | with_reducible apply xb_s | with_reducible apply x_sc | with_reducible apply x_call | rfl)) rfl) rfl ret_false)
      | tuple z => exact s_ifF (d := .bool false) (s1 := [.sh (.tuple [.int i, .tuple z])]) (by (repeat' first | with_reducible apply x_c | with_reducible apply x_v | with_reducible apply o_pk | with_reducible apply o_e | with_reducible exact xs_nil | with_reducible exact xo_nil | with_reducible exact xa_nil | with_reducible apply xs_cons | with_reducible apply xo_cons | with_reducible apply xa_v | with_reducible apply xa_o | with_reducible apply xa_p | with_reducible apply xa_sc | with_reducible apply x_tup | with_reducible apply x_lst | with_reducible apply x_bin | with_reducible apply x_cmp | with_reducible apply x_ix | with_reducible apply x_isi | with_reducible apply x_bf | with_reducible apply x_neg | with_reducible apply x_nt | with_reducible apply x_chain | with_reducible apply x_cut | with_reducible exact xb_n | with_reducible apply xb_s | with_reducible apply x_sc | with_reducible apply x_call | rfl)) rfl (s_ifT (d := .bool true) (s1 := [.sh (.tuple [.int i, .tuple z])]) (x_orT (d := .bool true) (by (repeat' first | with_reducible apply x_c | with_reducible apply x_v | with_reducible apply o_pk | with_reducible apply o_e | with_reducible exact xs_nil | with_reducible exact xo_nil | with_reducible exact xa_nil | with_reducible apply xs_cons | with_reducible apply xo_cons | with_reducible apply xa_v | with_reducible apply xa_o | with_reducible apply xa_p | with_reducible apply xa_sc | with_reducible apply x_tup | with_reducible apply x_lst | with_reducible apply x_bin | with_reducible apply x_cmp | with_reducible apply x_ix | with_reducible apply x_isi | with_reducible apply x_bf | with_reducible apply x_neg | with_reducible apply x_nt | with_reducible apply x_chain | with_reducible apply x_cut | with_reducible exact xb_n | with_reducible apply xb_s | with_reducible apply x_sc | with_reducible apply x_call | rfl)) rfl) rfl ret_false)
/-! ### links -/
def link (n : Int) : D → Bool
  | .tuple [x, y, c, o] => whole x 0 (n - 1) && whole y 0 (n - 1) && !PyData.eqv x y && counts c && counts o
  | _ => false
def LinkS (φ : Sem1) : Prop := ∀ (n : Int) (d : D), okD d = true → ∃ z, φ [.sh (.int n), .sh d] = some (.bool (link n d), [.sh (.int n), z])
theorem not_tuple1 {d : D} {a : Sl} {t : List Sl} {n : Nat} (hd : okD d = true) (h : ∀ xs, d = .tuple xs → xs.length ≠ n) :
    ev Φ (.or (.nt (.isi (.pk 1) .tuple)) (.cmp .NotEq (.bf .len (es [.pk 1])) (.c (.int n)))) (a :: .sh d :: t) = .ok (.bool true) (a :: .sh d :: t) := by
  cases d with
  | tuple xs =>
    refine x_orF (d := .bool false) (s1 := a :: .sh (.tuple xs) :: t) (by (repeat' first | with_reducible apply x_c | with_reducible apply x_v | with_reducible apply o_pk | with_reducible apply o_e | with_reducible exact xs_nil | with_reducible exact xo_nil | with_reducible exact xa_nil | with_reducible apply xs_cons | with_reducible apply xo_cons | with_reducible apply xa_v | with_reducible apply xa_o | with_reducible apply xa_p | with_reducible apply xa_sc | with_reducible apply x_tup | with_reducible apply x_lst | with_reducible apply x_bin | with_reducible apply x_cmp | with_reducible apply x_ix | with_reducible apply x_isi | with_reducible apply x_bf | with_reducible apply x_neg | with_reducible apply x_nt | with_reducible apply x_chain | with_reducible apply x_cut | with_reducible exact xb_n | with_reducible apply xb_s | with_reducible apply x_sc | with_reducible apply x_call | rfl)) rfl ?_
    (repeat' first | exact len_ne (h xs rfl) | with_reducible apply x_c | with_reducible apply x_v | with_reducible apply o_pk | with_reducible apply o_e | with_reducible exact xs_nil | with_reducible exact xo_nil | with_reducible exact xa_nil | with_reducible apply xs_cons | with_reducible apply xo_cons | with_reducible apply xa_v | with_reducible apply xa_o | with_reducible apply xa_p | with_reducible apply xa_sc | with_reducible apply x_tup | with_reducible apply x_lst | with_reducible apply x_bin | with_reducible apply x_cmp | with_reducible apply x_ix | with_reducible apply x_isi | with_reducible apply x_bf | with_reducible apply x_neg | with_reducible apply x_nt | with_reducible apply x_chain | with_reducible apply x_cut | with_reducible exact xb_n | with_reducible apply xb_s | with_reducible apply x_sc | with_reducible apply x_call | rfl)
  | dict k => simp [okD] at hd
  | _ => exact x_orT (d := .bool true) (by (repeat' first | with_reducible apply x_c | with_reducible apply x_v | with_reducible apply o_pk | with_reducible apply o_e | with_reducible exact xs_nil | with_reducible exact xo_nil | with_reducible exact xa_nil | with_reducible apply xs_cons | with_reducible apply xo_cons | with_reducible apply xa_v | with_reducible apply xa_o | with_reducible apply xa_p | with_reducible apply xa_sc | with_reducible apply x_tup | with_reducible apply x_lst | with_reducible apply x_bin | with_reducible apply x_cmp | with_reducible apply x_ix | with_reducible apply x_isi | with_reducible apply x_bf | with_reducible apply x_neg | with_reducible apply x_nt | with_reducible apply x_chain | with_reducible apply x_cut | with_reducible exact xb_n | with_reducible apply xb_s | with_reducible apply x_sc | with_reducible apply x_call | rfl)) rfl
theorem is_tuple1 {xs : List D} {a : Sl} {t : List Sl} {n : Nat} (h : xs.length = n) :
    ev Φ (.or (.nt (.isi (.pk 1) .tuple)) (.cmp .NotEq (.bf .len (es [.pk 1])) (.c (.int n)))) (a :: .sh (.tuple xs) :: t) = .ok (.bool false) (a :: .sh (.tuple xs) :: t) := by
  refine x_orF (d := .bool false) (s1 := a :: .sh (.tuple xs) :: t) (by (repeat' first | with_reducible apply x_c | with_reducible apply x_v | with_reducible apply o_pk | with_reducible apply o_e | with_reducible exact xs_nil | with_reducible exact xo_nil | with_reducible exact xa_nil | with_reducible apply xs_cons | with_reducible apply xo_cons | with_reducible apply xa_v | with_reducible apply xa_o | with_reducible apply xa_p | with_reducible apply xa_sc | with_reducible apply x_tup | with_reducible apply x_lst | with_reducible apply x_bin | with_reducible apply x_cmp | with_reducible apply x_ix | with_reducible apply x_isi | with_reducible apply x_bf | with_reducible apply x_neg | with_reducible apply x_nt | with_reducible apply x_chain | with_reducible apply x_cut | with_reducible exact xb_n | with_reducible apply xb_s | with_reducible apply x_sc | with_reducible apply x_call | rfl)) rfl ?_
  (repeat' first | exact len_eq h | with_reducible apply x_c | with_reducible apply x_v | with_reducible apply o_pk | with_reducible apply o_e | with_reducible exact xs_nil | with_reducible exact xo_nil | with_reducible exact xa_nil | with_reducible apply xs_cons | with_reducible apply xo_cons | with_reducible apply xa_v | with_reducible apply xa_o | with_reducible apply xa_p | with_reducible apply xa_sc | with_reducible apply x_tup | with_reducible apply x_lst | with_reducible apply x_bin | with_reducible apply x_cmp | with_reducible apply x_ix | with_reducible apply x_isi | with_reducible apply x_bf | with_reducible apply x_neg | with_reducible apply x_nt | with_reducible apply x_chain | with_reducible apply x_cut | with_reducible exact xb_n | with_reducible apply xb_s | with_reducible apply x_sc | with_reducible apply x_call | rfl)
theorem four_of : ∀ {xs : List D}, xs.length = 4 → ∃ x y z w, xs = [x, y, z, w]
  | [x, y, z, w], _ => ⟨x, y, z, w, rfl⟩
  | [], h => by cases h
  | [_], h => by cases h
  | [_, _], h => by cases h
  | [_, _, _], h => by cases h
  | _ :: _ :: _ :: _ :: _ :: _, h => by simp at h
theorem link_no {n : Int} {d : D} (h : ∀ xs, d = .tuple xs → xs.length ≠ 4) : link n d = false := by
  unfold link
  split
  · exact absurd rfl (h _ rfl)
  · rfl
theorem four_or (d : D) : (∀ xs, d = .tuple xs → xs.length ≠ 4) ∨ ∃ x y z w, d = .tuple [x, y, z, w] := by
  by_cases hd : ∀ xs, d = .tuple xs → xs.length ≠ 4
  · exact Or.inl hd
  · refine Or.inr ?_
    apply Classical.byContradiction
    intro hn
    refine hd fun xs e hl => hn ?_
    obtain ⟨x, y, z, w, rfl⟩ := four_of hl
    exact ⟨x, y, z, w, e⟩
theorem whole_int {d : D} {a b : Int} (h : whole d a b = true) : ∃ i, d = .int i := by
  cases d <;> first | exact ⟨_, rfl⟩ | (simp [whole] at h)
theorem linkS3 (h1 : WholeS (Φ 1)) (h2 : CountsS (Φ 2)) : LinkS (runDef Φ W f3) := fun n d h => by
  rcases four_or d with hd | ⟨x, y, c, o, rfl⟩
  · rw [link_no hd]
    exact ⟨_, run_rt (f := f3) (args := [.sh (.int n), .sh d]) (s0 := [.sh (.int n), .sh d, .un, .un, .un, .un]) (s := [.sh (.int n), .sh d, .un, .un, .un, .un]) rfl rfl (s_ifT (not_tuple1 (n := 4) h hd) rfl ret_false)⟩
  · simp only [okD, okAll, Bool.and_eq_true] at h
    obtain ⟨ox, oy, oc, oo, _⟩ := h
    refine ⟨_, run_rt (f := f3) (args := [.sh (.int n), .sh (.tuple [x, y, c, o])]) (s0 := [.sh (.int n), .sh (.tuple [x, y, c, o]), .un, .un, .un, .un]) (s := [.sh (.int n), .sh (.tuple [x, y, c, o]), .sh x, .sh y, .sh c, .sh o]) rfl rfl (s_ifF (is_tuple1 (n := 4) rfl) rfl ?_)⟩
    refine s_asgT (d := .tuple [x, y, c, o]) (s1 := [.sh (.int n), .sh (.tuple [x, y, c, o]), .un, .un, .un, .un]) (s2 := [.sh (.int n), .sh (.tuple [x, y, c, o]), .sh x, .sh y, .sh c, .sh o]) (by (repeat' first | with_reducible apply x_c | with_reducible apply x_v | with_reducible apply o_pk | with_reducible apply o_e | with_reducible exact xs_nil | with_reducible exact xo_nil | with_reducible exact xa_nil | with_reducible apply xs_cons | with_reducible apply xo_cons | with_reducible apply xa_v | with_reducible apply xa_o | with_reducible apply xa_p | with_reducible apply xa_sc | with_reducible apply x_tup | with_reducible apply x_lst | with_reducible apply x_bin | with_reducible apply x_cmp | with_reducible apply x_ix | with_reducible apply x_isi | with_reducible apply x_bf | with_reducible apply x_neg | with_reducible apply x_nt | with_reducible apply x_chain | with_reducible apply x_cut | with_reducible exact xb_n | with_reducible apply xb_s | with_reducible apply x_sc | with_reducible apply x_call | rfl)) rfl ?_
    have w1 : ev Φ (.nt (.call 1 false (.v (.v 2) (.v (.c (.int 0)) (.v (.bin .Sub (.pk 0) (.c (.int 1))) .nil))))) [.sh (.int n), .sh (.tuple [x, y, c, o]), .sh x, .sh y, .sh c, .sh o] = .ok (.bool (!whole x 0 (n - 1))) [.sh (.int n), .sh (.tuple [x, y, c, o]), .sh x, .sh y, .sh c, .sh o] := by
      (repeat' first | exact do_ok rfl rfl (h1 x 0 (n - 1) ox) rfl rfl | with_reducible apply x_c | with_reducible apply x_v | with_reducible apply o_pk | with_reducible apply o_e | with_reducible exact xs_nil | with_reducible exact xo_nil | with_reducible exact xa_nil | with_reducible apply xs_cons | with_reducible apply xo_cons | with_reducible apply xa_v | with_reducible apply xa_o | with_reducible apply xa_p | with_reducible apply xa_sc | with_reducible apply x_tup | with_reducible apply x_lst | with_reducible apply x_bin | with_reducible apply x_cmp | with_reducible apply x_ix | with_reducible apply x_isi | with_reducible apply x_bf | with_reducible apply x_neg | with_reducible apply x_nt | with_reducible apply x_chain | with_reducible apply x_cut | with_reducible exact xb_n | with_reducible apply xb_s | with_reducible apply x_sc | with_reducible apply x_call | rfl)
    have w2 : ev Φ (.nt (.call 1 false (.v (.v 3) (.v (.c (.int 0)) (.v (.bin .Sub (.pk 0) (.c (.int 1))) .nil))))) [.sh (.int n), .sh (.tuple [x, y, c, o]), .sh x, .sh y, .sh c, .sh o] = .ok (.bool (!whole y 0 (n - 1))) [.sh (.int n), .sh (.tuple [x, y, c, o]), .sh x, .sh y, .sh c, .sh o] := by
      (repeat' first | exact do_ok rfl rfl (h1 y 0 (n - 1) oy) rfl rfl | with_reducible apply x_c | with_reducible apply x_v | with_reducible apply o_pk | with_reducible apply o_e | with_reducible exact xs_nil | with_reducible exact xo_nil | with_reducible exact xa_nil | with_reducible apply xs_cons | with_reducible apply xo_cons | with_reducible apply xa_v | with_reducible apply xa_o | with_reducible apply xa_p | with_reducible apply xa_sc | with_reducible apply x_tup | with_reducible apply x_lst | with_reducible apply x_bin | with_reducible apply x_cmp | with_reducible apply x_ix | with_reducible apply x_isi | with_reducible apply x_bf | with_reducible apply x_neg | with_reducible apply x_nt | with_reducible apply x_chain | with_reducible apply x_cut | with_reducible exact xb_n | with_reducible apply xb_s | with_reducible apply x_sc | with_reducible apply x_call | rfl)
    show _ = Fl.rt (PyData.bool (whole x 0 (n - 1) && whole y 0 (n - 1) && !PyData.eqv x y && counts c && counts o)) _
    cases e1 : whole x 0 (n - 1) with
    | false =>
      rw [e1] at w1
      exact s_ifT (x_orT w1 rfl) rfl ret_false
    | true =>
      rw [e1] at w1
      cases e2 : whole y 0 (n - 1) with
      | false =>
        rw [e2] at w2
        exact s_ifT (x_orF w1 rfl (x_orT w2 rfl)) rfl ret_false
      | true =>
        rw [e2] at w2
        obtain ⟨i, rfl⟩ := whole_int e1
        obtain ⟨j, rfl⟩ := whole_int e2
        have w3 : ev Φ (.cmp .Eq (.pk 2) (.pk 3)) [.sh (.int n), .sh (.tuple [.int i, .int j, c, o]), .sh (.int i), .sh (.int j), .sh c, .sh o] = .ok (.bool (PyData.eqv (.int i) (.int j))) [.sh (.int n), .sh (.tuple [.int i, .int j, c, o]), .sh (.int i), .sh (.int j), .sh c, .sh o] := by
          (repeat' first | with_reducible apply x_c | with_reducible apply x_v | with_reducible apply o_pk | with_reducible apply o_e | with_reducible exact xs_nil | with_reducible exact xo_nil | with_reducible exact xa_nil | with_reducible apply xs_cons | with_reducible apply xo_cons | with_reducible apply xa_v | with_reducible apply xa_o | with_reducible apply xa_p | with_reducible apply xa_sc | with_reducible apply x_tup | with_reducible apply x_lst | with_reducible apply x_bin | with_reducible apply x_cmp | with_reducible apply x_ix | with_reducible apply x_isi | with_reducible apply x_bf | with_reducible apply x_neg | with_reducible apply x_nt | with_reducible apply x_chain | with_reducible apply x_cut | with_reducible exact xb_n | with_reducible apply xb_s | with_reducible apply x_sc | with_reducible apply x_call | rfl)
        cases e3 : PyData.eqv (.int i) (.int j) with
        | true =>
          rw [e3] at w3
          exact s_ifT (x_orF w1 rfl (x_orF w2 rfl w3)) rfl ret_false
        | false =>
          rw [e3] at w3
          refine s_ifF (x_orF w1 rfl (x_orF w2 rfl w3)) rfl (s_ret ?_)
          show ev Φ _ _ = .ok (.bool (counts c && counts o)) _
          refine x_and ?_ (fun _ => ?_)
          · (repeat' first | exact do_ok rfl rfl (h2 c oc) rfl rfl | with_reducible apply x_c | with_reducible apply x_v | with_reducible apply o_pk | with_reducible apply o_e | with_reducible exact xs_nil | with_reducible exact xo_nil | with_reducible exact xa_nil | with_reducible apply xs_cons | with_reducible apply xo_cons | with_reducible apply xa_v | with_reducible apply xa_o | with_reducible apply xa_p | with_reducible apply xa_sc | with_reducible apply x_tup | with_reducible apply x_lst | with_reducible apply x_bin | with_reducible apply x_cmp | with_reducible apply x_ix | with_reducible apply x_isi | with_reducible apply x_bf | with_reducible apply x_neg | with_reducible apply x_nt | with_reducible apply x_chain | with_reducible apply x_cut | with_reducible exact xb_n | with_reducible apply xb_s | with_reducible apply x_sc | with_reducible apply x_call | rfl)
          · (repeat' first | exact do_ok rfl rfl (h2 o oo) rfl rfl | with_reducible apply x_c | with_reducible apply x_v | with_reducible apply o_pk | with_reducible apply o_e | with_reducible exact xs_nil | with_reducible exact xo_nil | with_reducible exact xa_nil | with_reducible apply xs_cons | with_reducible apply xo_cons | with_reducible apply xa_v | with_reducible apply xa_o | with_reducible apply xa_p | with_reducible apply xa_sc | with_reducible apply x_tup | with_reducible apply x_lst | with_reducible apply x_bin | with_reducible apply x_cmp | with_reducible apply x_ix | with_reducible apply x_isi | with_reducible apply x_bf | with_reducible apply x_neg | with_reducible apply x_nt | with_reducible apply x_chain | with_reducible apply x_cut | with_reducible exact xb_n | with_reducible apply xb_s | with_reducible apply x_sc | with_reducible apply x_call | rfl)
theorem linkS23 (h20 : WholeS (Φ 20)) (h22 : CountsS (Φ 22)) : LinkS (runDef Φ W f23) := fun n d h => by
  rcases four_or d with hd | ⟨x, y, c, o, rfl⟩
  · rw [link_no hd]
    exact ⟨_, run_rt (f := f23) (args := [.sh (.int n), .sh d]) (s0 := [.sh (.int n), .sh d]) (s := [.sh (.int n), .sh d]) rfl rfl (s_ifT (not_tuple1 (n := 4) h hd) rfl ret_false)⟩
  · simp only [okD, okAll, Bool.and_eq_true] at h
    obtain ⟨ox, oy, oc, oo, _⟩ := h
    refine ⟨_, run_rt (f := f23) (args := [.sh (.int n), .sh (.tuple [x, y, c, o])]) (s0 := [.sh (.int n), .sh (.tuple [x, y, c, o])]) (s := [.sh (.int n), .sh (.tuple [x, y, c, o])]) rfl rfl (s_ifF (is_tuple1 (n := 4) rfl) rfl ?_)⟩
    have w1 : ev Φ (.nt (.call 20 false (.v (.ix (.pk 1) (.c (.int 0))) (.v (.c (.int 0)) (.v (.bin .Sub (.pk 0) (.c (.int 1))) .nil))))) [.sh (.int n), .sh (.tuple [x, y, c, o])] = .ok (.bool (!whole x 0 (n - 1))) [.sh (.int n), .sh (.tuple [x, y, c, o])] := by
      (repeat' first | exact do_ok rfl rfl (h20 x 0 (n - 1) ox) rfl rfl | with_reducible apply x_c | with_reducible apply x_v | with_reducible apply o_pk | with_reducible apply o_e | with_reducible exact xs_nil | with_reducible exact xo_nil | with_reducible exact xa_nil | with_reducible apply xs_cons | with_reducible apply xo_cons | with_reducible apply xa_v | with_reducible apply xa_o | with_reducible apply xa_p | with_reducible apply xa_sc | with_reducible apply x_tup | with_reducible apply x_lst | with_reducible apply x_bin | with_reducible apply x_cmp | with_reducible apply x_ix | with_reducible apply x_isi | with_reducible apply x_bf | with_reducible apply x_neg | with_reducible apply x_nt | with_reducible apply x_chain | with_reducible apply x_cut | with_reducible exact xb_n | with_reducible apply xb_s | with_reducible apply x_sc | with_reducible apply x_call | rfl)
    have w2 : ev Φ (.nt (.call 20 false (.v (.ix (.pk 1) (.c (.int 1))) (.v (.c (.int 0)) (.v (.bin .Sub (.pk 0) (.c (.int 1))) .nil))))) [.sh (.int n), .sh (.tuple [x, y, c, o])] = .ok (.bool (!whole y 0 (n - 1))) [.sh (.int n), .sh (.tuple [x, y, c, o])] := by
      (repeat' first | exact do_ok rfl rfl (h20 y 0 (n - 1) oy) rfl rfl | with_reducible apply x_c | with_reducible apply x_v | with_reducible apply o_pk | with_reducible apply o_e | with_reducible exact xs_nil | with_reducible exact xo_nil | with_reducible exact xa_nil | with_reducible apply xs_cons | with_reducible apply xo_cons | with_reducible apply xa_v | with_reducible apply xa_o | with_reducible apply xa_p | with_reducible apply xa_sc | with_reducible apply x_tup | with_reducible apply x_lst | with_reducible apply x_bin | with_reducible apply x_cmp | with_reducible apply x_ix | with_reducible apply x_isi | with_reducible apply x_bf | with_reducible apply x_neg | with_reducible apply x_nt | with_reducible apply x_chain | with_reducible apply x_cut | with_reducible exact xb_n | with_reducible apply xb_s | with_reducible apply x_sc | with_reducible apply x_call | rfl)
    show _ = Fl.rt (PyData.bool (whole x 0 (n - 1) && whole y 0 (n - 1) && !PyData.eqv x y && counts c && counts o)) _
    cases e1 : whole x 0 (n - 1) with
    | false =>
      rw [e1] at w1
      exact s_ifT (x_orT w1 rfl) rfl ret_false
    | true =>
      rw [e1] at w1
      cases e2 : whole y 0 (n - 1) with
      | false =>
        rw [e2] at w2
        exact s_ifT (x_orF w1 rfl w2) rfl ret_false
      | true =>
        rw [e2] at w2
        obtain ⟨i, rfl⟩ := whole_int e1
        obtain ⟨j, rfl⟩ := whole_int e2
        refine s_ifF (x_orF w1 rfl w2) rfl (s_ret ?_)
        show ev Φ _ _ = .ok (.bool (!PyData.eqv (.int i) (.int j) && counts c && counts o)) _
        rw [Bool.and_assoc]
        refine x_and (by (repeat' first | with_reducible apply x_c | with_reducible apply x_v | with_reducible apply o_pk | with_reducible apply o_e | with_reducible exact xs_nil | with_reducible exact xo_nil | with_reducible exact xa_nil | with_reducible apply xs_cons | with_reducible apply xo_cons | with_reducible apply xa_v | with_reducible apply xa_o | with_reducible apply xa_p | with_reducible apply xa_sc | with_reducible apply x_tup | with_reducible apply x_lst | with_reducible apply x_bin | with_reducible apply x_cmp | with_reducible apply x_ix | with_reducible apply x_isi | with_reducible apply x_bf | with_reducible apply x_neg | with_reducible apply x_nt | with_reducible apply x_chain | with_reducible apply x_cut | with_reducible exact xb_n | with_reducible apply xb_s | with_reducible apply x_sc | with_reducible apply x_call | rfl)) (fun _ => x_and ?_ (fun _ => ?_))
        · (repeat' first | exact do_ok rfl rfl (h22 c oc) rfl rfl | with_reducible apply x_c | with_reducible apply x_v | with_reducible apply o_pk | with_reducible apply o_e | with_reducible exact xs_nil | with_reducible exact xo_nil | with_reducible exact xa_nil | with_reducible apply xs_cons | with_reducible apply xo_cons | with_reducible apply xa_v | with_reducible apply xa_o | with_reducible apply xa_p | with_reducible apply xa_sc | with_reducible apply x_tup | with_reducible apply x_lst | with_reducible apply x_bin | with_reducible apply x_cmp | with_reducible apply x_ix | with_reducible apply x_isi | with_reducible apply x_bf | with_reducible apply x_neg | with_reducible apply x_nt | with_reducible apply x_chain | with_reducible apply x_cut | with_reducible exact xb_n | with_reducible apply xb_s | with_reducible apply x_sc | with_reducible apply x_call | rfl)
        · (repeat' first | exact do_ok rfl rfl (h22 o oo) rfl rfl | with_reducible apply x_c | with_reducible apply x_v | with_reducible apply o_pk | with_reducible apply o_e | with_reducible exact xs_nil | with_reducible exact xo_nil | with_reducible exact xa_nil | with_reducible apply xs_cons | with_reducible apply xo_cons | with_reducible apply xa_v | with_reducible apply xa_o | with_reducible apply xa_p | with_reducible apply xa_sc | with_reducible apply x_tup | with_reducible apply x_lst | with_reducible apply x_bin | with_reducible apply x_cmp | with_reducible apply x_ix | with_reducible apply x_isi | with_reducible apply x_bf | with_reducible apply x_neg | with_reducible apply x_nt | with_reducible apply x_chain | with_reducible apply x_cut | with_reducible exact xb_n | with_reducible apply xb_s | with_reducible apply x_sc | with_reducible apply x_call | rfl)
end K10

set_option Elab.async false
set_option linter.all false
set_option maxRecDepth 100000
set_option maxHeartbeats 4000000
/-! k10: schemes; right -/
namespace K10
open PySem PySem.Spec L2 L3
variable {Φ : Nat → Sem1} {W : Nat}
def intOf : D → Int
  | .int i => i
  | _ => 0
def scheme : D → Bool
  | .tuple [x, .tuple ls] => whole x 1 4 && decide (ls.length ≤ 6) && ls.all (link (intOf x))
  | _ => false
def SchemeS (φ : Sem1) : Prop := ∀ (n : Nat) (d : D), Gd n 60 d → φ [.sh d] = some (.bool (scheme d), [.sh d])
theorem bools_map {f : D → Bool} : ∀ {l : List D}, boolsOf (l.map fun d => .bool (f d)) = some (l.map f)
  | [] => rfl
  | d :: r => by simp only [List.map_cons, boolsOf, bools_map, Option.map_some]
theorem two_or (d : D) : (∀ xs, d = .tuple xs → xs.length ≠ 2) ∨ ∃ x y, d = .tuple [x, y] := by
  by_cases hd : ∀ xs, d = .tuple xs → xs.length ≠ 2
  · exact Or.inl hd
  · refine Or.inr ?_
    apply Classical.byContradiction
    intro hn
    refine hd fun xs e hl => hn ?_
    obtain ⟨x, y, rfl⟩ := two_of hl
    exact ⟨x, y, e⟩
theorem scheme_no {d : D} (h : ∀ xs, d = .tuple xs → xs.length ≠ 2) : scheme d = false := by
  unfold scheme
  split
  · exact absurd rfl (h _ rfl)
  · rfl
theorem scheme_w {x y : D} (h : whole x 1 4 = false) : scheme (.tuple [x, y]) = false := by
  unfold scheme
  split
  · rename_i x' ls e
    cases e
    rw [h]
    rfl
  · rfl
theorem scheme_t {x y : D} (h : ∀ ls, y ≠ .tuple ls) : scheme (.tuple [x, y]) = false := by
  unfold scheme
  split
  · rename_i x' ls e
    cases e
    exact absurd rfl (h _)
  · rfl
theorem gt_no {a b : Nat} : cop .Gt (.int (a : Int)) (.int (b : Int)) = some (decide (b < a)) := by
  show some (decide ((b : Int) < a)) = _
  congr 1
  rw [Bool.eq_iff_iff]
  simp
theorem bad2 {y : D} {x g : D} {ge : E} {t : List Sl} (oy : okD y = true) (hy : ∀ ls, y ≠ .tuple ls) : ev Φ (.or (.nt (.isi (.ix (.pk 0) (.c (.int 1))) .tuple)) (.cmp .Gt (.bf .len (es [.ix (.pk 0) (.c (.int 1))])) ge)) (.sh (.tuple [x, y]) :: t) = .ok (.bool true) (.sh (.tuple [x, y]) :: t) := by
  cases y with
  | tuple ls => exact absurd rfl (hy ls)
  | dict k => simp [okD] at oy
  | _ => exact x_orT (d := .bool true) (by (repeat' first | with_reducible apply x_c | with_reducible apply x_v | with_reducible apply o_pk | with_reducible apply o_e | with_reducible exact xs_nil | with_reducible exact xo_nil | with_reducible exact xa_nil | with_reducible apply xs_cons | with_reducible apply xo_cons | with_reducible apply xa_v | with_reducible apply xa_o | with_reducible apply xa_p | with_reducible apply xa_sc | with_reducible apply x_tup | with_reducible apply x_lst | with_reducible apply x_bin | with_reducible apply x_cmp | with_reducible apply x_ix | with_reducible apply x_isi | with_reducible apply x_bf | with_reducible apply x_neg | with_reducible apply x_nt | with_reducible apply x_chain | with_reducible apply x_cut | with_reducible exact xb_n | with_reducible apply xb_s | with_reducible apply x_sc | with_reducible apply x_call | rfl)) rfl
theorem big2 {ls : List D} {x : D} {ge : E} {n : Nat} {t : List Sl} (hg : ∀ s, ev Φ ge s = .ok (.int (n : Int)) s) (hp : ∀ i, ge ≠ .pk i) :
    ev Φ (.or (.nt (.isi (.ix (.pk 0) (.c (.int 1))) .tuple)) (.cmp .Gt (.bf .len (es [.ix (.pk 0) (.c (.int 1))])) ge)) (.sh (.tuple [x, .tuple ls]) :: t) = .ok (.bool (decide (n < ls.length))) (.sh (.tuple [x, .tuple ls]) :: t) := by
  refine x_orF (d := .bool false) (s1 := .sh (.tuple [x, .tuple ls]) :: t) (by (repeat' first | with_reducible apply x_c | with_reducible apply x_v | with_reducible apply o_pk | with_reducible apply o_e | with_reducible exact xs_nil | with_reducible exact xo_nil | with_reducible exact xa_nil | with_reducible apply xs_cons | with_reducible apply xo_cons | with_reducible apply xa_v | with_reducible apply xa_o | with_reducible apply xa_p | with_reducible apply xa_sc | with_reducible apply x_tup | with_reducible apply x_lst | with_reducible apply x_bin | with_reducible apply x_cmp | with_reducible apply x_ix | with_reducible apply x_isi | with_reducible apply x_bf | with_reducible apply x_neg | with_reducible apply x_nt | with_reducible apply x_chain | with_reducible apply x_cut | with_reducible exact xb_n | with_reducible apply xb_s | with_reducible apply x_sc | with_reducible apply x_call | rfl)) rfl ?_
  have hpk : isPk ge = false := by cases ge <;> first | rfl | exact absurd rfl (hp _)
  (repeat' first | exact o_e hpk (hg _) | exact gt_no | with_reducible apply x_c | with_reducible apply x_v | with_reducible apply o_pk | with_reducible apply o_e | with_reducible exact xs_nil | with_reducible exact xo_nil | with_reducible exact xa_nil | with_reducible apply xs_cons | with_reducible apply xo_cons | with_reducible apply xa_v | with_reducible apply xa_o | with_reducible apply xa_p | with_reducible apply xa_sc | with_reducible apply x_tup | with_reducible apply x_lst | with_reducible apply x_bin | with_reducible apply x_cmp | with_reducible apply x_ix | with_reducible apply x_isi | with_reducible apply x_bf | with_reducible apply x_neg | with_reducible apply x_nt | with_reducible apply x_chain | with_reducible apply x_cut | with_reducible exact xb_n | with_reducible apply xb_s | with_reducible apply x_sc | with_reducible apply x_call | rfl)
theorem schemeS4 (h1 : WholeS (Φ 1)) (h3 : LinkS (Φ 3)) (g29 : Φ 29 [] = some (.int 4, [])) (g30 : Φ 30 [] = some (.int 6, [])) : SchemeS (runDef Φ W f4) := fun n d gd => by
  have h := gd.1
  rcases two_or d with hd | ⟨x, y, rfl⟩
  · rw [scheme_no hd]
    exact run_rt (f := f4) (args := [.sh d]) (s0 := [.sh d, .un]) (s := [.sh d, .un]) rfl rfl (s_ifT (not_tuple (n := 2) h hd) rfl ret_false)
  · simp only [okD, okAll, Bool.and_eq_true] at h
    have hw : ev Φ (.nt (.call 1 false (.v (.ix (.pk 0) (.c (.int 0))) (.v (.c (.int 1)) (.v (.g 29) .nil))))) [.sh (.tuple [x, y]), .un] = .ok (.bool (!whole x 1 4)) [.sh (.tuple [x, y]), .un] := by
      (repeat' first | exact x_g g29 | exact do_ok rfl rfl (h1 x 1 4 h.1) rfl rfl | with_reducible apply x_c | with_reducible apply x_v | with_reducible apply o_pk | with_reducible apply o_e | with_reducible exact xs_nil | with_reducible exact xo_nil | with_reducible exact xa_nil | with_reducible apply xs_cons | with_reducible apply xo_cons | with_reducible apply xa_v | with_reducible apply xa_o | with_reducible apply xa_p | with_reducible apply xa_sc | with_reducible apply x_tup | with_reducible apply x_lst | with_reducible apply x_bin | with_reducible apply x_cmp | with_reducible apply x_ix | with_reducible apply x_isi | with_reducible apply x_bf | with_reducible apply x_neg | with_reducible apply x_nt | with_reducible apply x_chain | with_reducible apply x_cut | with_reducible exact xb_n | with_reducible apply xb_s | with_reducible apply x_sc | with_reducible apply x_call | rfl)
    have hc := is_tuple (Φ := Φ) (t := [.un]) (xs := [x, y]) (n := 2) rfl hw
    cases e : whole x 1 4 with
    | false =>
      rw [scheme_w e]
      rw [e] at hc
      exact run_rt (f := f4) (args := [.sh (.tuple [x, y])]) (s0 := [.sh (.tuple [x, y]), .un]) (s := [.sh (.tuple [x, y]), .un]) rfl rfl (s_ifT hc rfl ret_false)
    | true =>
      rw [e] at hc
      obtain ⟨i, rfl⟩ := whole_int e
      by_cases hy : ∀ ls, y ≠ .tuple ls
      · rw [scheme_t hy]
        exact run_rt (f := f4) (args := [.sh (.tuple [.int i, y])]) (s0 := [.sh (.tuple [.int i, y]), .un]) (s := [.sh (.tuple [.int i, y]), .un]) rfl rfl (s_ifF hc rfl (s_ifT (bad2 (g := .none) h.2.1 hy) rfl ret_false))
      · obtain ⟨ls, rfl⟩ : ∃ ls, y = .tuple ls := Classical.byContradiction fun hn => hy fun ls z => hn ⟨ls, z⟩
        have hb := big2 (Φ := Φ) (ls := ls) (x := .int i) (ge := .g 30) (n := 6) (t := [.un]) (fun s => x_g g30) (by intro i z; cases z)
        by_cases hl : 6 < ls.length
        · have es0 : scheme (.tuple [.int i, .tuple ls]) = false := by
            simp only [scheme, decide_eq_false (show ¬ ls.length ≤ 6 by omega), Bool.and_false, Bool.false_and]
          rw [es0]
          rw [decide_eq_true hl] at hb
          exact run_rt (f := f4) (args := [.sh (.tuple [.int i, .tuple ls])]) (s0 := [.sh (.tuple [.int i, .tuple ls]), .un]) (s := [.sh (.tuple [.int i, .tuple ls]), .un]) rfl rfl (s_ifF hc rfl (s_ifT hb rfl ret_false))
        · have es1 : scheme (.tuple [.int i, .tuple ls]) = ls.all (link i) := by
            simp only [scheme, e, decide_eq_true (show ls.length ≤ 6 by omega), Bool.true_and, intOf]
          rw [es1]
          rw [decide_eq_false hl] at hb
          refine run_rt (f := f4) (args := [.sh (.tuple [.int i, .tuple ls])]) (s0 := [.sh (.tuple [.int i, .tuple ls]), .un]) (s := [.sh (.tuple [.int i, .tuple ls]), .un]) rfl rfl (s_ifF hc rfl (s_ifF hb rfl (s_ret ?_)))
          have okl : okAll ls = true := by simpa [okD] using h.2.1
          have hcomp : ev Φ (.lc [("one", 1)] (.nm 1) (.e (.ix (.pk 0) (.c (.int 1)))) .n (.call 3 false (.v (.ix (.pk 0) (.c (.int 0))) (.v (.v 1) .nil)))) [.sh (.tuple [.int i, .tuple ls]), .un] = .ok (.list ((ls.filter fun _ => true).map fun d => .bool (link i d))) [.sh (.tuple [.int i, .tuple ls]), .un] := by
            refine x_lc (y := .un) rfl rfl rfl (fun d hd => ⟨rfl, fun _ => ?_⟩) (by omega)
            obtain ⟨z, hz⟩ := h3 i d (okAll_iff.mp okl d hd)
            show ev Φ _ [.sh (.tuple [.int i, .tuple ls]), .sh d] = .ok _ [.sh (.tuple [.int i, .tuple ls]), .sh d]
            (repeat' first | exact do_ok rfl rfl hz rfl rfl | with_reducible apply x_c | with_reducible apply x_v | with_reducible apply o_pk | with_reducible apply o_e | with_reducible exact xs_nil | with_reducible exact xo_nil | with_reducible exact xa_nil | with_reducible apply xs_cons | with_reducible apply xo_cons | with_reducible apply xa_v | with_reducible apply xa_o | with_reducible apply xa_p | with_reducible apply xa_sc | with_reducible apply x_tup | with_reducible apply x_lst | with_reducible apply x_bin | with_reducible apply x_cmp | with_reducible apply x_ix | with_reducible apply x_isi | with_reducible apply x_bf | with_reducible apply x_neg | with_reducible apply x_nt | with_reducible apply x_chain | with_reducible apply x_cut | with_reducible exact xb_n | with_reducible apply xb_s | with_reducible apply x_sc | with_reducible apply x_call | rfl)
          have hall : bfn .all [.list ((ls.filter fun _ => true).map fun d => .bool (link i d))] = some (.bool (ls.all (link i))) := by
            rw [List.filter_eq_self.mpr (fun _ _ => rfl)]
            simp only [bfn, bools_map, Option.map_some]
            rw [List.all_map]
            rfl
          (repeat' first | exact hcomp | exact hall | with_reducible apply x_c | with_reducible apply x_v | with_reducible apply o_pk | with_reducible apply o_e | with_reducible exact xs_nil | with_reducible exact xo_nil | with_reducible exact xa_nil | with_reducible apply xs_cons | with_reducible apply xo_cons | with_reducible apply xa_v | with_reducible apply xa_o | with_reducible apply xa_p | with_reducible apply xa_sc | with_reducible apply x_tup | with_reducible apply x_lst | with_reducible apply x_bin | with_reducible apply x_cmp | with_reducible apply x_ix | with_reducible apply x_isi | with_reducible apply x_bf | with_reducible apply x_neg | with_reducible apply x_nt | with_reducible apply x_chain | with_reducible apply x_cut | with_reducible exact xb_n | with_reducible apply xb_s | with_reducible apply x_sc | with_reducible apply x_call | rfl)
theorem filter_nil {f : D → Bool} : ∀ {l : List D}, PyData.eqv (.list ((l.filter fun d => !f d).map fun d => d)) (.list []) = l.all f := by
  intro l
  rw [List.map_id']
  induction l with
  | nil => rfl
  | cons d r ih =>
    cases hf : f d with
    | true =>
      simp only [List.filter_cons, hf, Bool.not_true, Bool.false_eq_true, if_false, List.all_cons, Bool.true_and]
      exact ih
    | false =>
      simp only [List.filter_cons, hf, Bool.not_false, if_true, List.all_cons, Bool.false_and]
      rfl
theorem GdL_filter {n c : Nat} {p : D → Bool} : ∀ {l : List D}, GdL n c l → GdL n c (l.filter p)
  | [], h => h
  | d :: r, h => by
    obtain ⟨h1, h2, h3⟩ := h
    simp only [okAll, Bool.and_eq_true] at h1
    simp only [PyData.bulkAll] at h2
    simp only [PyData.depthAll, Nat.max_le] at h3
    have ih := GdL_filter (p := p) (l := r) (n := PyData.bulkAll r) (c := c) ⟨h1.2, Nat.le_refl _, h3.2⟩
    rw [List.filter_cons]
    split
    · exact (GdL.cons ⟨h1.1, Nat.le_refl _, h3.1⟩ ih).mono (by omega) (Nat.le_refl _)
    · exact ih.mono (by omega) (Nat.le_refl _)
theorem eq_sh {a b : D} (ha : SeqAt.shaped a = true) (hb : SeqAt.shaped b = true) : cop .Eq a b = some (PyData.eqv a b) := by
  show (if SeqAt.shaped a && SeqAt.shaped b then some (PyData.eqv a b) else strEq a b) = _
  rw [ha, hb]
  rfl
theorem schemeS24 (h20 : WholeS (Φ 20)) (h23 : LinkS (Φ 23)) : SchemeS (runDef Φ W f24) := fun n d gd => by
  have h := gd.1
  rcases two_or d with hd | ⟨x, y, rfl⟩
  · rw [scheme_no hd]
    exact run_rt (f := f24) (args := [.sh d]) (s0 := [.sh d, .un]) (s := [.sh d, .un]) rfl rfl (s_ifT (not_tuple (n := 2) h hd) rfl ret_false)
  · simp only [okD, okAll, Bool.and_eq_true] at h
    have hw : ev Φ (.nt (.call 20 false (.v (.ix (.pk 0) (.c (.int 0))) (.v (.c (.int 1)) (.v (.c (.int 4)) .nil))))) [.sh (.tuple [x, y]), .un] = .ok (.bool (!whole x 1 4)) [.sh (.tuple [x, y]), .un] := by
      (repeat' first | exact do_ok rfl rfl (h20 x 1 4 h.1) rfl rfl | with_reducible apply x_c | with_reducible apply x_v | with_reducible apply o_pk | with_reducible apply o_e | with_reducible exact xs_nil | with_reducible exact xo_nil | with_reducible exact xa_nil | with_reducible apply xs_cons | with_reducible apply xo_cons | with_reducible apply xa_v | with_reducible apply xa_o | with_reducible apply xa_p | with_reducible apply xa_sc | with_reducible apply x_tup | with_reducible apply x_lst | with_reducible apply x_bin | with_reducible apply x_cmp | with_reducible apply x_ix | with_reducible apply x_isi | with_reducible apply x_bf | with_reducible apply x_neg | with_reducible apply x_nt | with_reducible apply x_chain | with_reducible apply x_cut | with_reducible exact xb_n | with_reducible apply xb_s | with_reducible apply x_sc | with_reducible apply x_call | rfl)
    have hc := is_tuple (Φ := Φ) (t := [.un]) (xs := [x, y]) (n := 2) rfl hw
    cases e : whole x 1 4 with
    | false =>
      rw [scheme_w e]
      rw [e] at hc
      exact run_rt (f := f24) (args := [.sh (.tuple [x, y])]) (s0 := [.sh (.tuple [x, y]), .un]) (s := [.sh (.tuple [x, y]), .un]) rfl rfl (s_ifT hc rfl ret_false)
    | true =>
      rw [e] at hc
      obtain ⟨i, rfl⟩ := whole_int e
      by_cases hy : ∀ ls, y ≠ .tuple ls
      · rw [scheme_t hy]
        exact run_rt (f := f24) (args := [.sh (.tuple [.int i, y])]) (s0 := [.sh (.tuple [.int i, y]), .un]) (s := [.sh (.tuple [.int i, y]), .un]) rfl rfl (s_ifF hc rfl (s_ifT (bad2 (g := .none) h.2.1 hy) rfl ret_false))
      · obtain ⟨ls, rfl⟩ : ∃ ls, y = .tuple ls := Classical.byContradiction fun hn => hy fun ls z => hn ⟨ls, z⟩
        have hb := big2 (Φ := Φ) (ls := ls) (x := .int i) (ge := .c (.int 6)) (n := 6) (t := [.un]) (fun s => x_c rfl) (by intro i z; cases z)
        by_cases hl : 6 < ls.length
        · have es0 : scheme (.tuple [.int i, .tuple ls]) = false := by
            simp only [scheme, decide_eq_false (show ¬ ls.length ≤ 6 by omega), Bool.and_false, Bool.false_and]
          rw [es0]
          rw [decide_eq_true hl] at hb
          exact run_rt (f := f24) (args := [.sh (.tuple [.int i, .tuple ls])]) (s0 := [.sh (.tuple [.int i, .tuple ls]), .un]) (s := [.sh (.tuple [.int i, .tuple ls]), .un]) rfl rfl (s_ifF hc rfl (s_ifT hb rfl ret_false))
        · have es1 : scheme (.tuple [.int i, .tuple ls]) = ls.all (link i) := by
            simp only [scheme, e, decide_eq_true (show ls.length ≤ 6 by omega), Bool.true_and, intOf]
          rw [es1]
          rw [decide_eq_false hl] at hb
          refine run_rt (f := f24) (args := [.sh (.tuple [.int i, .tuple ls])]) (s0 := [.sh (.tuple [.int i, .tuple ls]), .un]) (s := [.sh (.tuple [.int i, .tuple ls]), .un]) rfl rfl (s_ifF hc rfl (s_ifF hb rfl (s_ret ?_)))
          have okl : okAll ls = true := by simpa [okD] using h.2.1
          have gl : GdL n 58 ls := Gd.untup (c := 58) (GdL.mem (Gd.untup (c := 59) gd) (List.mem_cons_of_mem _ List.mem_cons_self))
          have hcomp : ev Φ (.lc [("_law_link_here", 1)] (.nm 1) (.e (.ix (.pk 0) (.c (.int 1)))) (.s (.nt (.call 23 false (.v (.ix (.pk 0) (.c (.int 0))) (.v (.v 1) .nil))))) (.v 1)) [.sh (.tuple [.int i, .tuple ls]), .un] = .ok (.list ((ls.filter fun d => !link i d).map fun d => d)) [.sh (.tuple [.int i, .tuple ls]), .un] := by
            refine x_lc (y := .un) rfl rfl rfl (fun d hd => ⟨?_, fun _ => x_v rfl⟩) (by omega)
            obtain ⟨z, hz⟩ := h23 i d (okAll_iff.mp okl d hd)
            have hn : ev Φ (.nt (.call 23 false (.v (.ix (.pk 0) (.c (.int 0))) (.v (.v 1) .nil)))) [.sh (.tuple [.int i, .tuple ls]), .sh d] = .ok (.bool (!link i d)) [.sh (.tuple [.int i, .tuple ls]), .sh d] := by
              (repeat' first | exact do_ok rfl rfl hz rfl rfl | with_reducible apply x_c | with_reducible apply x_v | with_reducible apply o_pk | with_reducible apply o_e | with_reducible exact xs_nil | with_reducible exact xo_nil | with_reducible exact xa_nil | with_reducible apply xs_cons | with_reducible apply xo_cons | with_reducible apply xa_v | with_reducible apply xa_o | with_reducible apply xa_p | with_reducible apply xa_sc | with_reducible apply x_tup | with_reducible apply x_lst | with_reducible apply x_bin | with_reducible apply x_cmp | with_reducible apply x_ix | with_reducible apply x_isi | with_reducible apply x_bf | with_reducible apply x_neg | with_reducible apply x_nt | with_reducible apply x_chain | with_reducible apply x_cut | with_reducible exact xb_n | with_reducible apply xb_s | with_reducible apply x_sc | with_reducible apply x_call | rfl)
            show tru (ev Φ _ _) = _
            refine (congrArg tru hn).trans rfl
          have heq : cop .Eq (.list ((ls.filter fun d => !link i d).map fun d => d)) (.list []) = some (ls.all (link i)) := by
            rw [← filter_nil]
            refine eq_sh ?_ rfl
            rw [List.map_id']
            exact Gd.shaped (GdL.lst (GdL_filter gl)) (by decide)
          (repeat' first | exact hcomp | exact heq | with_reducible apply x_c | with_reducible apply x_v | with_reducible apply o_pk | with_reducible apply o_e | with_reducible exact xs_nil | with_reducible exact xo_nil | with_reducible exact xa_nil | with_reducible apply xs_cons | with_reducible apply xo_cons | with_reducible apply xa_v | with_reducible apply xa_o | with_reducible apply xa_p | with_reducible apply xa_sc | with_reducible apply x_tup | with_reducible apply x_lst | with_reducible apply x_bin | with_reducible apply x_cmp | with_reducible apply x_ix | with_reducible apply x_isi | with_reducible apply x_bf | with_reducible apply x_neg | with_reducible apply x_nt | with_reducible apply x_chain | with_reducible apply x_cut | with_reducible exact xb_n | with_reducible apply xb_s | with_reducible apply x_sc | with_reducible apply x_call | rfl)
theorem schemeS9 (h4 : SchemeS (Φ 4)) : SchemeS (runDef Φ W f9) := fun n d gd => by
  refine run_rt (f := f9) (args := [.sh d]) (s0 := [.sh d]) (s := [.sh d]) rfl rfl (s_ret ?_)
  (repeat' first | exact do_ok rfl rfl (h4 n d gd) rfl rfl | with_reducible apply x_c | with_reducible apply x_v | with_reducible apply o_pk | with_reducible apply o_e | with_reducible exact xs_nil | with_reducible exact xo_nil | with_reducible exact xa_nil | with_reducible apply xs_cons | with_reducible apply xo_cons | with_reducible apply xa_v | with_reducible apply xa_o | with_reducible apply xa_p | with_reducible apply xa_sc | with_reducible apply x_tup | with_reducible apply x_lst | with_reducible apply x_bin | with_reducible apply x_cmp | with_reducible apply x_ix | with_reducible apply x_isi | with_reducible apply x_bf | with_reducible apply x_neg | with_reducible apply x_nt | with_reducible apply x_chain | with_reducible apply x_cut | with_reducible exact xb_n | with_reducible apply xb_s | with_reducible apply x_sc | with_reducible apply x_call | rfl)
theorem eq_str {a b : Str} : cop .Eq (.str a) (.str b) = some (a == b) := by
  show (if SeqAt.shaped (.str a) && SeqAt.shaped (.str b) then some (PyData.eqv (.str a) (.str b)) else strEq (.str a) (.str b)) = _
  split <;> rfl
theorem repr_of {d : D} (h : reprOk d = true) : bfn .repr [d] = some (.str d.shown) := by
  show (if reprOk d then some (PyData.str d.shown) else none) = _
  rw [if_pos h]
theorem repr_b (b : Bool) : reprOk (.bool b) = true := by cases b <;> decide +kernel
def RightS (φ : Sem1) : Prop := ∀ (n : Nat) (d : D), Gd n 60 d → n ≤ 2 ^ 20 → φ [.sh d] = some (.bool true, [.sh d])
theorem rightS (h9 : SchemeS (Φ 9)) (h24 : SchemeS (Φ 24)) : RightS (runDef Φ W f25) := fun n d gd hn => by
  have hr := gd.repr hn (by decide)
  refine run_rt (f := f25) (args := [.sh d]) (s0 := [.sh d, .un]) (s := [.sh d, .sh (.str d.shown)]) rfl rfl (s_asg (d := .str d.shown) (s1 := [.sh d, .un]) ?_ (s_ret ?_))
  · (repeat' first | exact repr_of hr | with_reducible apply x_c | with_reducible apply x_v | with_reducible apply o_pk | with_reducible apply o_e | with_reducible exact xs_nil | with_reducible exact xo_nil | with_reducible exact xa_nil | with_reducible apply xs_cons | with_reducible apply xo_cons | with_reducible apply xa_v | with_reducible apply xa_o | with_reducible apply xa_p | with_reducible apply xa_sc | with_reducible apply x_tup | with_reducible apply x_lst | with_reducible apply x_bin | with_reducible apply x_cmp | with_reducible apply x_ix | with_reducible apply x_isi | with_reducible apply x_bf | with_reducible apply x_neg | with_reducible apply x_nt | with_reducible apply x_chain | with_reducible apply x_cut | with_reducible exact xb_n | with_reducible apply xb_s | with_reducible apply x_sc | with_reducible apply x_call | rfl)
  · refine x_andT (d := .bool true) (s1 := [.sh d, .sh (.str d.shown)]) ?_ rfl ?_
    · have e : cop .Eq (.str (PyData.shown (.bool (scheme d)))) (.str (PyData.shown (.bool (scheme d)))) = some true := by
        rw [eq_str, beq_self_eq_true]
      show ev Φ _ [.sh d, .sh (.str d.shown)] = .ok _ [.sh d, .sh (.str d.shown)]
      (repeat' first | exact do_ok rfl rfl (h9 n d gd) rfl rfl | exact do_ok rfl rfl (h24 n d gd) rfl rfl | exact repr_of (repr_b _) | exact e | with_reducible apply x_c | with_reducible apply x_v | with_reducible apply o_pk | with_reducible apply o_e | with_reducible exact xs_nil | with_reducible exact xo_nil | with_reducible exact xa_nil | with_reducible apply xs_cons | with_reducible apply xo_cons | with_reducible apply xa_v | with_reducible apply xa_o | with_reducible apply xa_p | with_reducible apply xa_sc | with_reducible apply x_tup | with_reducible apply x_lst | with_reducible apply x_bin | with_reducible apply x_cmp | with_reducible apply x_ix | with_reducible apply x_isi | with_reducible apply x_bf | with_reducible apply x_neg | with_reducible apply x_nt | with_reducible apply x_chain | with_reducible apply x_cut | with_reducible exact xb_n | with_reducible apply xb_s | with_reducible apply x_sc | with_reducible apply x_call | rfl)
    · have e : cop .Eq (.str d.shown) (.str d.shown) = some true := by
        rw [eq_str, beq_self_eq_true]
      show ev Φ _ [.sh d, .sh (.str d.shown)] = .ok _ [.sh d, .sh (.str d.shown)]
      (repeat' first | exact repr_of hr | exact e | with_reducible apply x_c | with_reducible apply x_v | with_reducible apply o_pk | with_reducible apply o_e | with_reducible exact xs_nil | with_reducible exact xo_nil | with_reducible exact xa_nil | with_reducible apply xs_cons | with_reducible apply xo_cons | with_reducible apply xa_v | with_reducible apply xa_o | with_reducible apply xa_p | with_reducible apply xa_sc | with_reducible apply x_tup | with_reducible apply x_lst | with_reducible apply x_bin | with_reducible apply x_cmp | with_reducible apply x_ix | with_reducible apply x_isi | with_reducible apply x_bf | with_reducible apply x_neg | with_reducible apply x_nt | with_reducible apply x_chain | with_reducible apply x_cut | with_reducible exact xb_n | with_reducible apply xb_s | with_reducible apply x_sc | with_reducible apply x_call | rfl)
end K10

set_option Elab.async false
set_option linter.all false
set_option maxRecDepth 100000
set_option maxHeartbeats 4000000
/-! k10: steps -/
namespace K10
open PySem PySem.Spec L2 L3
variable {Φ : Nat → Sem1} {W : Nat}
/-- the shape of a link -/
structure Lk (m : Int) (l : D) (x y a c : Int) (b e : D) : Prop where
  eq : l = .tuple [.int x, .int y, .tuple [.int a, b], .tuple [.int c, e]]
  gb : Gd 0 0 b
  ge : Gd 0 0 e
theorem cnt2_flat {i y : D} (h : cnt2 i y = true) (ok : okD y = true) : Gd 0 0 y := by
  cases y with
  | none => exact ⟨rfl, Nat.le_refl _, Nat.le_refl _⟩
  | int j => exact ⟨ok, Nat.le_refl _, Nat.le_refl _⟩
  | _ => simp [cnt2] at h
theorem counts_shape {d : D} (h : counts d = true) (ok : okD d = true) : ∃ (i : Int) (y : D), d = .tuple [.int i, y] ∧ Gd 0 0 y ∧ okD (.int i) = true := by
  unfold counts at h
  split at h
  · rename_i x y
    simp only [Bool.and_eq_true] at h
    obtain ⟨i, rfl⟩ := whole_int h.1
    simp only [okD, okAll, Bool.and_eq_true] at ok
    exact ⟨i, y, rfl, cnt2_flat h.2 ok.2.1, by simpa [okD] using ok.1⟩
  · cases h
theorem link_shape {m : Int} {l : D} (h : link m l = true) (ok : okD l = true) : ∃ x y a c b e, Lk m l x y a c b e := by
  unfold link at h
  split at h
  · rename_i x y c o
    simp only [Bool.and_eq_true] at h
    obtain ⟨⟨⟨⟨h1, h2⟩, h3⟩, h4⟩, h5⟩ := h
    simp only [okD, okAll, Bool.and_eq_true] at ok
    obtain ⟨x', rfl⟩ := whole_int h1
    obtain ⟨y', rfl⟩ := whole_int h2
    obtain ⟨a, b, rfl, gb, _⟩ := counts_shape h4 ok.2.2.1
    obtain ⟨c', e, rfl, ge, _⟩ := counts_shape h5 ok.2.2.2.1
    exact ⟨x', y', a, c', b, e, rfl, gb, ge⟩
  · cases h
def stepD : D → Int → D
  | .tuple [x, y, .tuple [a, b], .tuple [c, e]], s => if s = 0 then .tuple [x, y, a, e] else .tuple [y, x, c, b]
  | _, _ => .none
/-- a scheme, said -/
structure Sc (n : Nat) (d : D) (m : Int) (ls : List D) : Prop where
  eq : d = .tuple [.int m, .tuple ls]
  gd : Gd n 60 d
  ok : scheme d = true
theorem Sc.lks {n : Nat} {d : D} {m : Int} {ls : List D} (h : Sc n d m ls) : ls.length ≤ 6 ∧ ∀ l ∈ ls, link m l = true ∧ okD l = true := by
  obtain ⟨rfl, gd, ok⟩ := h
  simp only [scheme, Bool.and_eq_true, decide_eq_true_eq, List.all_eq_true, intOf] at ok
  have o := gd.1
  simp only [okD, okAll, Bool.and_eq_true] at o
  exact ⟨ok.1.2, fun l hl => ⟨ok.2 l hl, okAll_iff.mp (by simpa [okD] using o.2.1) l hl⟩⟩
theorem req5 (h4 : SchemeS (Φ 4)) {n : Nat} {d : D} (gd : Gd n 60 d) (ok : scheme d = true) : runDef Φ W f5 [.sh d] = some (.none, [.sh d]) := by
  have e : ev Φ (.nt (.call 4 false (.v (.v 0) .nil))) [.sh d] = .ok (.bool false) [.sh d] := by
    have e2 : ev Φ (.nt (.call 4 false (.v (.v 0) .nil))) [.sh d] = .ok (.bool (!scheme d)) [.sh d] := by
      (repeat' first | exact do_ok rfl rfl (h4 n d gd) rfl rfl | with_reducible apply x_c | with_reducible apply x_v | with_reducible apply o_pk | with_reducible apply o_e | with_reducible exact xs_nil | with_reducible exact xo_nil | with_reducible exact xa_nil | with_reducible apply xs_cons | with_reducible apply xo_cons | with_reducible apply xa_v | with_reducible apply xa_o | with_reducible apply xa_p | with_reducible apply xa_sc | with_reducible apply x_tup | with_reducible apply x_lst | with_reducible apply x_bin | with_reducible apply x_cmp | with_reducible apply x_ix | with_reducible apply x_isi | with_reducible apply x_bf | with_reducible apply x_neg | with_reducible apply x_nt | with_reducible apply x_chain | with_reducible apply x_cut | with_reducible exact xb_n | with_reducible apply xb_s | with_reducible apply x_sc | with_reducible apply x_call | rfl)
    rw [e2, ok]
    rfl
  exact run_nx (f := f5) (args := [.sh d]) (s0 := [.sh d]) (s := [.sh d]) rfl rfl rfl (s_ifF e rfl rfl)
theorem req6 (h1 : WholeS (Φ 1)) {i c : Int} (h0 : 0 ≤ i) (hc : i < c) (ok : okD (.int i) = true) : runDef Φ W f6 [.sh (.int i), .sh (.int c)] = some (.none, [.sh (.int i), .sh (.int c)]) := by
  have e : ev Φ (.nt (.call 1 false (.v (.v 0) (.v (.c (.int 0)) (.v (.bin .Sub (.pk 1) (.c (.int 1))) .nil))))) [.sh (.int i), .sh (.int c)] = .ok (.bool false) [.sh (.int i), .sh (.int c)] := by
    have e2 : ev Φ (.nt (.call 1 false (.v (.v 0) (.v (.c (.int 0)) (.v (.bin .Sub (.pk 1) (.c (.int 1))) .nil))))) [.sh (.int i), .sh (.int c)] = .ok (.bool (!whole (.int i) 0 (c - 1))) [.sh (.int i), .sh (.int c)] := by
      (repeat' first | exact do_ok rfl rfl (h1 (.int i) 0 (c - 1) ok) rfl rfl | with_reducible apply x_c | with_reducible apply x_v | with_reducible apply o_pk | with_reducible apply o_e | with_reducible exact xs_nil | with_reducible exact xo_nil | with_reducible exact xa_nil | with_reducible apply xs_cons | with_reducible apply xo_cons | with_reducible apply xa_v | with_reducible apply xa_o | with_reducible apply xa_p | with_reducible apply xa_sc | with_reducible apply x_tup | with_reducible apply x_lst | with_reducible apply x_bin | with_reducible apply x_cmp | with_reducible apply x_ix | with_reducible apply x_isi | with_reducible apply x_bf | with_reducible apply x_neg | with_reducible apply x_nt | with_reducible apply x_chain | with_reducible apply x_cut | with_reducible exact xb_n | with_reducible apply xb_s | with_reducible apply x_sc | with_reducible apply x_call | rfl)
    have : whole (.int i) 0 (c - 1) = true := by
      simp only [whole, Bool.and_eq_true, decide_eq_true_eq]
      omega
    rw [e2, this]
    rfl
  exact run_nx (f := f6) (args := [.sh (.int i), .sh (.int c)]) (s0 := [.sh (.int i), .sh (.int c)]) (s := [.sh (.int i), .sh (.int c)]) rfl rfl rfl (s_ifF e rfl rfl)
def Req6S (φ : Sem1) : Prop := ∀ i c : Int, 0 ≤ i → i < c → okD (.int i) = true → φ [.sh (.int i), .sh (.int c)] = some (.none, [.sh (.int i), .sh (.int c)])
theorem req7 (h6 : Req6S (Φ 6)) {m : D} {ls : List D} {k s : Int} (k0 : 0 ≤ k) (k1 : k < ls.length) (s0 : 0 ≤ s) (s1 : s < 2) (kk : okD (.int k) = true) (ks : okD (.int s) = true) :
    runDef Φ W f7 [.sh (.tuple [m, .tuple ls]), .sh (.int k), .sh (.int s)] = some (.none, [.sh (.tuple [m, .tuple ls]), .sh (.int k), .sh (.int s)]) := by
  refine run_nx (f := f7) (args := [.sh (.tuple [m, .tuple ls]), .sh (.int k), .sh (.int s)]) (s0 := [.sh (.tuple [m, .tuple ls]), .sh (.int k), .sh (.int s)]) (s := [.sh (.tuple [m, .tuple ls]), .sh (.int k), .sh (.int s)]) rfl rfl rfl ?_
  refine s_ex (d := .none) (s1 := [.sh (.tuple [m, .tuple ls]), .sh (.int k), .sh (.int s)]) ?_ (s_ex (d := .none) (s1 := [.sh (.tuple [m, .tuple ls]), .sh (.int k), .sh (.int s)]) ?_ rfl)
  · (repeat' first | exact do_ok rfl rfl (h6 k ls.length k0 k1 kk) rfl rfl | with_reducible apply x_c | with_reducible apply x_v | with_reducible apply o_pk | with_reducible apply o_e | with_reducible exact xs_nil | with_reducible exact xo_nil | with_reducible exact xa_nil | with_reducible apply xs_cons | with_reducible apply xo_cons | with_reducible apply xa_v | with_reducible apply xa_o | with_reducible apply xa_p | with_reducible apply xa_sc | with_reducible apply x_tup | with_reducible apply x_lst | with_reducible apply x_bin | with_reducible apply x_cmp | with_reducible apply x_ix | with_reducible apply x_isi | with_reducible apply x_bf | with_reducible apply x_neg | with_reducible apply x_nt | with_reducible apply x_chain | with_reducible apply x_cut | with_reducible exact xb_n | with_reducible apply xb_s | with_reducible apply x_sc | with_reducible apply x_call | rfl)
  · (repeat' first | exact do_ok rfl rfl (h6 s 2 s0 s1 ks) rfl rfl | with_reducible apply x_c | with_reducible apply x_v | with_reducible apply o_pk | with_reducible apply o_e | with_reducible exact xs_nil | with_reducible exact xo_nil | with_reducible exact xa_nil | with_reducible apply xs_cons | with_reducible apply xo_cons | with_reducible apply xa_v | with_reducible apply xa_o | with_reducible apply xa_p | with_reducible apply xa_sc | with_reducible apply x_tup | with_reducible apply x_lst | with_reducible apply x_bin | with_reducible apply x_cmp | with_reducible apply x_ix | with_reducible apply x_isi | with_reducible apply x_bf | with_reducible apply x_neg | with_reducible apply x_nt | with_reducible apply x_chain | with_reducible apply x_cut | with_reducible exact xb_n | with_reducible apply xb_s | with_reducible apply x_sc | with_reducible apply x_call | rfl)
theorem at_nat {xs : List D} {k : Nat} {l : D} (h : xs[k]? = some l) : ixD (.tuple xs) (.int (k : Int)) = some l := L2.atI_nat h
theorem find8 {m : D} {ls : List D} {k : Nat} {x y a c : D} {b e : D} (hl : ls[k]? = some (.tuple [x, y, .tuple [a, b], .tuple [c, e]])) {s : Int} (hs : s = 0 ∨ s = 1) :
    ∃ z, runDef Φ W f8 [.sh (.tuple [m, .tuple ls]), .sh (.int k), .sh (.int s)] = some (stepD (.tuple [x, y, .tuple [a, b], .tuple [c, e]]) s, z) ∧ z.length = 3 := by
  rcases hs with rfl | rfl
  · refine ⟨_, run_rt (f := f8) (args := [.sh (.tuple [m, .tuple ls]), .sh (.int k), .sh (.int 0)]) (s0 := [.sh (.tuple [m, .tuple ls]), .sh (.int k), .sh (.int 0), .un]) (s := [.sh (.tuple [m, .tuple ls]), .sh (.int k), .sh (.int 0), .sh (.tuple [x, y, .tuple [a, b], .tuple [c, e]])]) rfl rfl
      (s_asg (d := .tuple [x, y, .tuple [a, b], .tuple [c, e]]) (s1 := [.sh (.tuple [m, .tuple ls]), .sh (.int k), .sh (.int 0), .un]) ?_ (s_ret ?_)), rfl⟩
    · (repeat' first | exact at_nat hl | with_reducible apply x_c | with_reducible apply x_v | with_reducible apply o_pk | with_reducible apply o_e | with_reducible exact xs_nil | with_reducible exact xo_nil | with_reducible exact xa_nil | with_reducible apply xs_cons | with_reducible apply xo_cons | with_reducible apply xa_v | with_reducible apply xa_o | with_reducible apply xa_p | with_reducible apply xa_sc | with_reducible apply x_tup | with_reducible apply x_lst | with_reducible apply x_bin | with_reducible apply x_cmp | with_reducible apply x_ix | with_reducible apply x_isi | with_reducible apply x_bf | with_reducible apply x_neg | with_reducible apply x_nt | with_reducible apply x_chain | with_reducible apply x_cut | with_reducible exact xb_n | with_reducible apply xb_s | with_reducible apply x_sc | with_reducible apply x_call | rfl)
    · show ev Φ _ _ = .ok (.tuple [x, y, a, e]) _
      show ev Φ _ [.sh (.tuple [m, .tuple ls]), .sh (.int k), .sh (.int 0), .sh (.tuple [x, y, .tuple [a, b], .tuple [c, e]])] = .ok _ [.sh (.tuple [m, .tuple ls]), .sh (.int k), .sh (.int 0), .sh (.tuple [x, y, .tuple [a, b], .tuple [c, e]])]
      (repeat' first | with_reducible apply x_c | with_reducible apply x_v | with_reducible apply o_pk | with_reducible apply o_e | with_reducible exact xs_nil | with_reducible exact xo_nil | with_reducible exact xa_nil | with_reducible apply xs_cons | with_reducible apply xo_cons | with_reducible apply xa_v | with_reducible apply xa_o | with_reducible apply xa_p | with_reducible apply xa_sc | with_reducible apply x_tup | with_reducible apply x_lst | with_reducible apply x_bin | with_reducible apply x_cmp | with_reducible apply x_ix | with_reducible apply x_isi | with_reducible apply x_bf | with_reducible apply x_neg | with_reducible apply x_nt | with_reducible apply x_chain | with_reducible apply x_cut | with_reducible exact xb_n | with_reducible apply xb_s | with_reducible apply x_sc | with_reducible apply x_call | rfl)
  · refine ⟨_, run_rt (f := f8) (args := [.sh (.tuple [m, .tuple ls]), .sh (.int k), .sh (.int 1)]) (s0 := [.sh (.tuple [m, .tuple ls]), .sh (.int k), .sh (.int 1), .un]) (s := [.sh (.tuple [m, .tuple ls]), .sh (.int k), .sh (.int 1), .sh (.tuple [x, y, .tuple [a, b], .tuple [c, e]])]) rfl rfl
      (s_asg (d := .tuple [x, y, .tuple [a, b], .tuple [c, e]]) (s1 := [.sh (.tuple [m, .tuple ls]), .sh (.int k), .sh (.int 1), .un]) ?_ (s_ret ?_)), rfl⟩
    · (repeat' first | exact at_nat hl | with_reducible apply x_c | with_reducible apply x_v | with_reducible apply o_pk | with_reducible apply o_e | with_reducible exact xs_nil | with_reducible exact xo_nil | with_reducible exact xa_nil | with_reducible apply xs_cons | with_reducible apply xo_cons | with_reducible apply xa_v | with_reducible apply xa_o | with_reducible apply xa_p | with_reducible apply xa_sc | with_reducible apply x_tup | with_reducible apply x_lst | with_reducible apply x_bin | with_reducible apply x_cmp | with_reducible apply x_ix | with_reducible apply x_isi | with_reducible apply x_bf | with_reducible apply x_neg | with_reducible apply x_nt | with_reducible apply x_chain | with_reducible apply x_cut | with_reducible exact xb_n | with_reducible apply xb_s | with_reducible apply x_sc | with_reducible apply x_call | rfl)
    · show ev Φ _ _ = .ok (.tuple [y, x, c, b]) _
      show ev Φ _ [.sh (.tuple [m, .tuple ls]), .sh (.int k), .sh (.int 1), .sh (.tuple [x, y, .tuple [a, b], .tuple [c, e]])] = .ok _ [.sh (.tuple [m, .tuple ls]), .sh (.int k), .sh (.int 1), .sh (.tuple [x, y, .tuple [a, b], .tuple [c, e]])]
      (repeat' first | with_reducible apply x_c | with_reducible apply x_v | with_reducible apply o_pk | with_reducible apply o_e | with_reducible exact xs_nil | with_reducible exact xo_nil | with_reducible exact xa_nil | with_reducible apply xs_cons | with_reducible apply xo_cons | with_reducible apply xa_v | with_reducible apply xa_o | with_reducible apply xa_p | with_reducible apply xa_sc | with_reducible apply x_tup | with_reducible apply x_lst | with_reducible apply x_bin | with_reducible apply x_cmp | with_reducible apply x_ix | with_reducible apply x_isi | with_reducible apply x_bf | with_reducible apply x_neg | with_reducible apply x_nt | with_reducible apply x_chain | with_reducible apply x_cut | with_reducible exact xb_n | with_reducible apply xb_s | with_reducible apply x_sc | with_reducible apply x_call | rfl)
def Req5S (φ : Sem1) : Prop := ∀ (n : Nat) (d : D), Gd n 60 d → scheme d = true → φ [.sh d] = some (.none, [.sh d])
def Req7S (φ : Sem1) : Prop := ∀ (m : D) (ls : List D) (k s : Int), 0 ≤ k → k < ls.length → 0 ≤ s → s < 2 → okD (.int k) = true → okD (.int s) = true →
  φ [.sh (.tuple [m, .tuple ls]), .sh (.int k), .sh (.int s)] = some (.none, [.sh (.tuple [m, .tuple ls]), .sh (.int k), .sh (.int s)])
def Find8S (φ : Sem1) : Prop := ∀ (m : D) (ls : List D) (k : Nat) (x y a c b e : D), ls[k]? = some (.tuple [x, y, .tuple [a, b], .tuple [c, e]]) → ∀ s : Int, s = 0 ∨ s = 1 →
  ∃ z, φ [.sh (.tuple [m, .tuple ls]), .sh (.int k), .sh (.int s)] = some (stepD (.tuple [x, y, .tuple [a, b], .tuple [c, e]]) s, z) ∧ z.length = 3
def StepS (φ : Sem1) : Prop := ∀ (n : Nat) (m : Int) (ls : List D) (k : Nat) (x y a c b e : D), Gd n 60 (.tuple [.int m, .tuple ls]) → scheme (.tuple [.int m, .tuple ls]) = true → ls.length ≤ 6 → ls[k]? = some (.tuple [x, y, .tuple [a, b], .tuple [c, e]]) → ∀ s : Int, s = 0 ∨ s = 1 →
  φ [.sh (.tuple [.int m, .tuple ls]), .sh (.int k), .sh (.int s)] = some (stepD (.tuple [x, y, .tuple [a, b], .tuple [c, e]]) s, [.sh (.tuple [.int m, .tuple ls]), .sh (.int k), .sh (.int s)])
theorem back3 {a b c : D} {z : List Sl} {s : Sls} (h : z.length = 3) : backSl [.v a, .v b, .v c] z s = some s := by
  match z, h with
  | [x, y, w], _ => rfl
theorem stepS (h5 : Req5S (Φ 5)) (h7 : Req7S (Φ 7)) (h8 : Find8S (Φ 8)) : StepS (runDef Φ W f10) := fun n m ls k x y a c b e gd ok hl6 hk s hs => by
  have hkl : k < ls.length := (List.getElem?_eq_some_iff.mp hk).1
  have okk : okD (.int (k : Int)) = true := by
    simp only [okD, decide_eq_true_eq]
    omega
  have oks : okD (.int s) = true := by
    rcases hs with rfl | rfl <;> decide
  obtain ⟨z, hz, hzl⟩ := h8 (.int m) ls k x y a c b e hk s hs
  refine run_rt (f := f10) (args := [.sh (.tuple [.int m, .tuple ls]), .sh (.int k), .sh (.int s)]) (s0 := [.sh (.tuple [.int m, .tuple ls]), .sh (.int k), .sh (.int s)]) (s := [.sh (.tuple [.int m, .tuple ls]), .sh (.int k), .sh (.int s)]) rfl rfl
    (s_ex (d := .none) (s1 := [.sh (.tuple [.int m, .tuple ls]), .sh (.int k), .sh (.int s)]) ?_ (s_ex (d := .none) (s1 := [.sh (.tuple [.int m, .tuple ls]), .sh (.int k), .sh (.int s)]) ?_ (s_ret ?_)))
  · (repeat' first | exact do_ok rfl rfl (h5 n _ gd ok) rfl rfl | with_reducible apply x_c | with_reducible apply x_v | with_reducible apply o_pk | with_reducible apply o_e | with_reducible exact xs_nil | with_reducible exact xo_nil | with_reducible exact xa_nil | with_reducible apply xs_cons | with_reducible apply xo_cons | with_reducible apply xa_v | with_reducible apply xa_o | with_reducible apply xa_p | with_reducible apply xa_sc | with_reducible apply x_tup | with_reducible apply x_lst | with_reducible apply x_bin | with_reducible apply x_cmp | with_reducible apply x_ix | with_reducible apply x_isi | with_reducible apply x_bf | with_reducible apply x_neg | with_reducible apply x_nt | with_reducible apply x_chain | with_reducible apply x_cut | with_reducible exact xb_n | with_reducible apply xb_s | with_reducible apply x_sc | with_reducible apply x_call | rfl)
  · (repeat' first | exact do_ok rfl rfl (h7 (.int m) ls k s (by omega) (by omega) (by omega) (by omega) okk oks) rfl rfl | with_reducible apply x_c | with_reducible apply x_v | with_reducible apply o_pk | with_reducible apply o_e | with_reducible exact xs_nil | with_reducible exact xo_nil | with_reducible exact xa_nil | with_reducible apply xs_cons | with_reducible apply xo_cons | with_reducible apply xa_v | with_reducible apply xa_o | with_reducible apply xa_p | with_reducible apply xa_sc | with_reducible apply x_tup | with_reducible apply x_lst | with_reducible apply x_bin | with_reducible apply x_cmp | with_reducible apply x_ix | with_reducible apply x_isi | with_reducible apply x_bf | with_reducible apply x_neg | with_reducible apply x_nt | with_reducible apply x_chain | with_reducible apply x_cut | with_reducible exact xb_n | with_reducible apply xb_s | with_reducible apply x_sc | with_reducible apply x_call | rfl)
  · (repeat' first | exact do_ok rfl rfl hz rfl (back3 hzl) | with_reducible apply x_c | with_reducible apply x_v | with_reducible apply o_pk | with_reducible apply o_e | with_reducible exact xs_nil | with_reducible exact xo_nil | with_reducible exact xa_nil | with_reducible apply xs_cons | with_reducible apply xo_cons | with_reducible apply xa_v | with_reducible apply xa_o | with_reducible apply xa_p | with_reducible apply xa_sc | with_reducible apply x_tup | with_reducible apply x_lst | with_reducible apply x_bin | with_reducible apply x_cmp | with_reducible apply x_ix | with_reducible apply x_isi | with_reducible apply x_bf | with_reducible apply x_neg | with_reducible apply x_nt | with_reducible apply x_chain | with_reducible apply x_cut | with_reducible exact xb_n | with_reducible apply xb_s | with_reducible apply x_sc | with_reducible apply x_call | rfl)
theorem ne_str {a : Str} : cop .NotEq (.str a) (.str a) = some false := by
  show (if SeqAt.shaped (.str a) && SeqAt.shaped (.str a) then some (!PyData.eqv (.str a) (.str a)) else (strEq (.str a) (.str a)).map (!·)) = _
  have e : PyData.eqv (.str a) (.str a) = true := by
    show (a == a) = true
    exact beq_self_eq_true a
  have e2 : strEq (.str a) (.str a) = some true := by
    show some (a == a) = _
    rw [beq_self_eq_true]
  rw [e, e2]
  split <;> rfl
def StepsS (φ : Sem1) : Prop := ∀ (n : Nat) (m : Int) (ls : List D), Sc n (.tuple [.int m, .tuple ls]) m ls → φ [.sh (.tuple [.int m, .tuple ls])] = some (.bool true, [.sh (.tuple [.int m, .tuple ls])])
theorem stepsS (h10 : StepS (Φ 10)) : StepsS (runDef Φ W f26) := fun n m ls sc => by
  obtain ⟨hl6, hlk⟩ := sc.lks
  have turn : ∀ (l : D) (k : Nat) (z1 z2 z3 : Sl), ls[k]? = some l → ∃ z2' z3', turnF Φ W (.tp (.cons (.nm 1) (.cons (.nm 2) .nil))) (ss [.asgO 3 (.lst (es [.tup (es [.ix (.pk 2) (.c (.int 0)), .ix (.pk 2) (.c (.int 1)), .ix (.ix (.pk 2) (.c (.int 2))) (.c (.int 0)), .ix (.ix (.pk 2) (.c (.int 3))) (.c (.int 1))])])), .app 3 (.tup (es [.ix (.pk 2) (.c (.int 1)), .ix (.pk 2) (.c (.int 0)), .ix (.ix (.pk 2) (.c (.int 3))) (.c (.int 0)), .ix (.ix (.pk 2) (.c (.int 2))) (.c (.int 1))])), .ite (.cmp .NotEq (.bf .repr (es [.lc [("_law_side", 4)] (.nm 4) (.e (.tup (es [.c (.int 0), .c (.int 1)]))) .n (.call 10 false (.v (.v 0) (.v (.v 1) (.v (.v 4) .nil))))])) (.bf .repr (es [.pk 3]))) (ss [.ret (.c (.bool false))]) (ss [])]) (.tuple [.int k, l]) [.sh (.tuple [.int m, .tuple ls]), z1, z2, z3, .un] = .nx [.sh (.tuple [.int m, .tuple ls]), .sh (.int k), z2', z3', .un] := by
    intro l k z1 z2 z3 hk
    obtain ⟨h1, h2⟩ := hlk l (List.mem_of_getElem? hk)
    obtain ⟨x, y, a, c, b, e, rfl, gb, ge⟩ := link_shape h1 h2
    have gi : ∀ i : Int, okD (.int i) = true → Gd 0 0 (.int i) := fun i hi => ⟨hi, Nat.le_refl _, Nat.le_refl _⟩
    simp only [okD, okAll, Bool.and_eq_true] at h2
    have gx := gi x (by simpa [okD] using h2.1)
    have gy := gi y (by simpa [okD] using h2.2.1)
    have ga := gi a (by simpa [okD] using h2.2.2.1.1)
    have gc := gi c (by simpa [okD] using h2.2.2.2.1.1)
    have gs : Gd 10 2 (.list [.tuple [.int x, .int y, .int a, e], .tuple [.int y, .int x, .int c, b]]) :=
      (GdL.lst (GdL.cons (GdL.tup (GdL.cons gx (GdL.cons gy (GdL.cons ga (GdL.cons ge (GdL.nil (n := 0))))))) (GdL.cons (GdL.tup (GdL.cons gy (GdL.cons gx (GdL.cons gc (GdL.cons gb (GdL.nil (n := 0))))))) (GdL.nil (n := 0))))).mono (by decide) (by decide)
    have hr := gs.repr (by decide) (by decide)
    refine ⟨.sh (.tuple [.int x, .int y, .tuple [.int a, b], .tuple [.int c, e]]), .ow (.l [.tuple [.int x, .int y, .int a, e], .tuple [.int y, .int x, .int c, b]]), turn_nx (s1 := [.sh (.tuple [.int m, .tuple ls]), .sh (.int k), .sh (.tuple [.int x, .int y, .tuple [.int a, b], .tuple [.int c, e]]), z3, .un]) rfl ?_⟩
    refine s_asgO (xs := [.tuple [.int x, .int y, .int a, e]]) (s1 := [.sh (.tuple [.int m, .tuple ls]), .sh (.int k), .sh (.tuple [.int x, .int y, .tuple [.int a, b], .tuple [.int c, e]]), z3, .un]) (by (repeat' first | with_reducible apply x_c | with_reducible apply x_v | with_reducible apply o_pk | with_reducible apply o_e | with_reducible exact xs_nil | with_reducible exact xo_nil | with_reducible exact xa_nil | with_reducible apply xs_cons | with_reducible apply xo_cons | with_reducible apply xa_v | with_reducible apply xa_o | with_reducible apply xa_p | with_reducible apply xa_sc | with_reducible apply x_tup | with_reducible apply x_lst | with_reducible apply x_bin | with_reducible apply x_cmp | with_reducible apply x_ix | with_reducible apply x_isi | with_reducible apply x_bf | with_reducible apply x_neg | with_reducible apply x_nt | with_reducible apply x_chain | with_reducible apply x_cut | with_reducible exact xb_n | with_reducible apply xb_s | with_reducible apply x_sc | with_reducible apply x_call | rfl)) ?_
    refine s_app (xs := [.tuple [.int x, .int y, .int a, e]]) (d := .tuple [.int y, .int x, .int c, b]) (s1 := [.sh (.tuple [.int m, .tuple ls]), .sh (.int k), .sh (.tuple [.int x, .int y, .tuple [.int a, b], .tuple [.int c, e]]), .ow (.l [.tuple [.int x, .int y, .int a, e]]), .un]) rfl ?_ rfl rfl ?_
    · show ev Φ _ [.sh (.tuple [.int m, .tuple ls]), .sh (.int k), .sh (.tuple [.int x, .int y, .tuple [.int a, b], .tuple [.int c, e]]), .ow (.l [.tuple [.int x, .int y, .int a, e]]), .un] = _
      (repeat' first | with_reducible apply x_c | with_reducible apply x_v | with_reducible apply o_pk | with_reducible apply o_e | with_reducible exact xs_nil | with_reducible exact xo_nil | with_reducible exact xa_nil | with_reducible apply xs_cons | with_reducible apply xo_cons | with_reducible apply xa_v | with_reducible apply xa_o | with_reducible apply xa_p | with_reducible apply xa_sc | with_reducible apply x_tup | with_reducible apply x_lst | with_reducible apply x_bin | with_reducible apply x_cmp | with_reducible apply x_ix | with_reducible apply x_isi | with_reducible apply x_bf | with_reducible apply x_neg | with_reducible apply x_nt | with_reducible apply x_chain | with_reducible apply x_cut | with_reducible exact xb_n | with_reducible apply xb_s | with_reducible apply x_sc | with_reducible apply x_call | rfl)
    refine s_ifF (d := .bool false) (s1 := [.sh (.tuple [.int m, .tuple ls]), .sh (.int k), .sh (.tuple [.int x, .int y, .tuple [.int a, b], .tuple [.int c, e]]), .ow (.l [.tuple [.int x, .int y, .int a, e], .tuple [.int y, .int x, .int c, b]]), .un]) ?_ rfl rfl
    show ev Φ _ [.sh (.tuple [.int m, .tuple ls]), .sh (.int k), .sh (.tuple [.int x, .int y, .tuple [.int a, b], .tuple [.int c, e]]), .ow (.l [.tuple [.int x, .int y, .int a, e], .tuple [.int y, .int x, .int c, b]]), .un] = _
    have hcomp : ev Φ (.lc [("_law_side", 4)] (.nm 4) (.e (.tup (es [.c (.int 0), .c (.int 1)]))) .n (.call 10 false (.v (.v 0) (.v (.v 1) (.v (.v 4) .nil))))) [.sh (.tuple [.int m, .tuple ls]), .sh (.int k), .sh (.tuple [.int x, .int y, .tuple [.int a, b], .tuple [.int c, e]]), .ow (.l [.tuple [.int x, .int y, .int a, e], .tuple [.int y, .int x, .int c, b]]), .un] = .ok (.list [.tuple [.int x, .int y, .int a, e], .tuple [.int y, .int x, .int c, b]]) [.sh (.tuple [.int m, .tuple ls]), .sh (.int k), .sh (.tuple [.int x, .int y, .tuple [.int a, b], .tuple [.int c, e]]), .ow (.l [.tuple [.int x, .int y, .int a, e], .tuple [.int y, .int x, .int c, b]]), .un] := by
      refine (x_lc (items := [.int 0, .int 1]) (p := fun _ => true) (F := fun d => stepD (.tuple [.int x, .int y, .tuple [.int a, b], .tuple [.int c, e]]) (intOf d)) (y := .un) rfl rfl rfl (fun d hd => ⟨rfl, fun _ => ?_⟩) (by decide)).trans rfl
      obtain ⟨s, rfl, hs⟩ : ∃ s : Int, d = .int s ∧ (s = 0 ∨ s = 1) := by
        simp only [List.mem_cons, List.mem_nil_iff, or_false] at hd
        rcases hd with rfl | rfl
        · exact ⟨0, rfl, Or.inl rfl⟩
        · exact ⟨1, rfl, Or.inr rfl⟩
      have hst := h10 n m ls k (.int x) (.int y) (.int a) (.int c) b e sc.gd sc.ok hl6 hk s hs
      show ev Φ _ [.sh (.tuple [.int m, .tuple ls]), .sh (.int k), .sh (.tuple [.int x, .int y, .tuple [.int a, b], .tuple [.int c, e]]), .ow (.l [.tuple [.int x, .int y, .int a, e], .tuple [.int y, .int x, .int c, b]]), .sh (.int s)] = .ok _ [.sh (.tuple [.int m, .tuple ls]), .sh (.int k), .sh (.tuple [.int x, .int y, .tuple [.int a, b], .tuple [.int c, e]]), .ow (.l [.tuple [.int x, .int y, .int a, e], .tuple [.int y, .int x, .int c, b]]), .sh (.int s)]
      (repeat' first | exact do_ok rfl rfl hst rfl rfl | with_reducible apply x_c | with_reducible apply x_v | with_reducible apply o_pk | with_reducible apply o_e | with_reducible exact xs_nil | with_reducible exact xo_nil | with_reducible exact xa_nil | with_reducible apply xs_cons | with_reducible apply xo_cons | with_reducible apply xa_v | with_reducible apply xa_o | with_reducible apply xa_p | with_reducible apply xa_sc | with_reducible apply x_tup | with_reducible apply x_lst | with_reducible apply x_bin | with_reducible apply x_cmp | with_reducible apply x_ix | with_reducible apply x_isi | with_reducible apply x_bf | with_reducible apply x_neg | with_reducible apply x_nt | with_reducible apply x_chain | with_reducible apply x_cut | with_reducible exact xb_n | with_reducible apply xb_s | with_reducible apply x_sc | with_reducible apply x_call | rfl)
    have r1 := repr_of hr
    have r2 : bfn .repr [Ob.data (.l [.tuple [.int x, .int y, .int a, e], .tuple [.int y, .int x, .int c, b]])] = some (.str (PyData.shown (.list [.tuple [.int x, .int y, .int a, e], .tuple [.int y, .int x, .int c, b]]))) := r1
    (repeat' first | with_reducible exact hcomp | with_reducible exact r1 | with_reducible exact r2 | with_reducible exact ne_str | with_reducible apply x_c | with_reducible apply x_v | with_reducible apply o_pk | with_reducible apply o_e | with_reducible exact xs_nil | with_reducible exact xo_nil | with_reducible exact xa_nil | with_reducible apply xs_cons | with_reducible apply xo_cons | with_reducible apply xa_v | with_reducible apply xa_o | with_reducible apply xa_p | with_reducible apply xa_sc | with_reducible apply x_tup | with_reducible apply x_lst | with_reducible apply x_bin | with_reducible apply x_cmp | with_reducible apply x_ix | with_reducible apply x_isi | with_reducible apply x_bf | with_reducible apply x_neg | with_reducible apply x_nt | with_reducible apply x_chain | with_reducible apply x_cut | with_reducible exact xb_n | with_reducible apply xb_s | with_reducible apply x_sc | with_reducible apply x_call | rfl)
  have loop : ∀ (rest : List D) (k : Nat) (z1 z2 z3 : Sl), ls.drop k = rest → ∃ y1 y2 y3, forL (turnF Φ W (.tp (.cons (.nm 1) (.cons (.nm 2) .nil))) (ss [.asgO 3 (.lst (es [.tup (es [.ix (.pk 2) (.c (.int 0)), .ix (.pk 2) (.c (.int 1)), .ix (.ix (.pk 2) (.c (.int 2))) (.c (.int 0)), .ix (.ix (.pk 2) (.c (.int 3))) (.c (.int 1))])])), .app 3 (.tup (es [.ix (.pk 2) (.c (.int 1)), .ix (.pk 2) (.c (.int 0)), .ix (.ix (.pk 2) (.c (.int 3))) (.c (.int 0)), .ix (.ix (.pk 2) (.c (.int 2))) (.c (.int 1))])), .ite (.cmp .NotEq (.bf .repr (es [.lc [("_law_side", 4)] (.nm 4) (.e (.tup (es [.c (.int 0), .c (.int 1)]))) .n (.call 10 false (.v (.v 0) (.v (.v 1) (.v (.v 4) .nil))))])) (.bf .repr (es [.pk 3]))) (ss [.ret (.c (.bool false))]) (ss [])])) (enumL k rest) [.sh (.tuple [.int m, .tuple ls]), z1, z2, z3, .un] = .nx [.sh (.tuple [.int m, .tuple ls]), y1, y2, y3, .un] := by
    intro rest
    induction rest with
    | nil => exact fun k z1 z2 z3 _ => ⟨z1, z2, z3, rfl⟩
    | cons l rest ih =>
      intro k z1 z2 z3 hd
      have hk : ls[k]? = some l := by
        have := congrArg (fun l => l[0]?) hd
        simpa [List.getElem?_drop] using this
      have hd' : ls.drop (k + 1) = rest := by
        rw [← List.drop_drop, hd]
        rfl
      obtain ⟨w2, w3, ht⟩ := turn l k z1 z2 z3 hk
      obtain ⟨y1, y2, y3, hr⟩ := ih (k + 1) (.sh (.int k)) w2 w3 hd'
      exact ⟨y1, y2, y3, (forL_cons ht).trans hr⟩
  obtain ⟨z1, z2, z3, hz⟩ := loop ls 0 .un .un .un rfl
  refine run_rt (f := f26) (args := [.sh (.tuple [.int m, .tuple ls])]) (s0 := [.sh (.tuple [.int m, .tuple ls]), .un, .un, .un, .un]) (s := [.sh (.tuple [.int m, .tuple ls]), z1, z2, z3, .un]) rfl rfl ?_
  refine s_for (items := enumL 0 ls) (s1 := [.sh (.tuple [.int m, .tuple ls]), .un, .un, .un, .un]) ?_ ?_
  · rfl
  · rw [hz, thenF_nx]
    exact s_ret (x_c rfl)
end K10

set_option Elab.async false
set_option linter.all false
set_option maxRecDepth 100000
set_option maxHeartbeats 4000000
/-! k10: what is drawn -/
namespace K10
open PySem PySem.Spec L2 L3
variable {Φ : Nat → Sem1} {W : Nat}
theorem PenOk.mono {n m : Nat} {o : Ob} (h : PenOk n o) (hm : n ≤ m) : PenOk m o := by
  obtain ⟨cs, a, r, rfl, h1, h2, h3⟩ := h
  exact ⟨cs, a, r, rfl, h1, by omega, h3⟩
theorem gd_int {i : Int} (h : i.natAbs < 10 ^ 12) : Gd 0 0 (.int i) := ⟨by simp only [okD, decide_eq_true_eq]; exact h, Nat.le_refl _, Nat.le_refl _⟩
theorem gd_none : Gd 0 0 .none := ⟨rfl, Nat.le_refl _, Nat.le_refl _⟩
theorem pick_call (h15 : OneS (Φ 15)) {e : E} {xs : List D} {t : List Sl} {n : Nat} {o : Ob} (he : ∀ o, ev Φ e (.ow o :: t) = .ok (.list xs) (.ow o :: t)) (hp : PenOk n o) (hn : n < 2 ^ 20) (h1 : xs ≠ []) (h2 : xs.length < 2 ^ 60) :
    ∃ (d : D) (o1 : Ob), ev Φ (.call 15 false (.o 0 (.v e .nil))) (.ow o :: t) = .ok d (.ow o1 :: t) ∧ d ∈ xs ∧ PenOk (n + 1) o1 := by
  obtain ⟨d, o1, x, hx, hm, hp1⟩ := h15 n o xs hp hn h1 h2
  exact ⟨d, o1, x_call (avs := [.o 0, .v (.list xs)]) (s1 := .ow o :: t) (xa_o rfl (xa_v (he o) xa_nil)) (do_ok rfl rfl hx rfl rfl), hm, hp1⟩
theorem take_call (h13 : TakeS (Φ 13)) {e : E} {m : Int} {t : List Sl} {n : Nat} {o : Ob} (he : ∀ o, ev Φ e (.ow o :: t) = .ok (.int m) (.ow o :: t)) (hp : PenOk n o) (hn : n < 2 ^ 20) (h1 : 1 ≤ m) (h2 : m < 2 ^ 60) :
    ∃ (r : Int) (o1 : Ob), ev Φ (.call 13 false (.o 0 (.v e .nil))) (.ow o :: t) = .ok (.int r) (.ow o1 :: t) ∧ 0 ≤ r ∧ r < m ∧ PenOk (n + 1) o1 := by
  obtain ⟨r, o1, x, hx, h3, h4, hp1⟩ := h13 n o m hp hn h1 h2
  exact ⟨r, o1, x_call (avs := [.o 0, .v (.int m)]) (s1 := .ow o :: t) (xa_o rfl (xa_v (he o) xa_nil)) (do_ok rfl rfl hx rfl rfl), h3, h4, hp1⟩
/-- a drawn pair of counts -/
def CountsG (φ : Sem1) : Prop := ∀ (n : Nat) (o : Ob), PenOk n o → n + 3 < 2 ^ 20 → ∃ (d : D) (o1 : Ob), φ [.ow o] = some (d, [.ow o1]) ∧ counts d = true ∧ Gd 2 1 d ∧ PenOk (n + 3) o1
theorem countsG (h15 : OneS (Φ 15)) : CountsG (runDef Φ W f16) := fun n o hp hn => by
  obtain ⟨d1, o1, e1, m1, p1⟩ := pick_call (Φ := Φ) h15 (e := .lst (es [.c (.int 0), .c (.int 0), .c (.int 0), .c (.int 1), .c (.int 1), .c (.int 1), .c (.int 2), .c (.int 2), .c (.int 3), .c (.int 4)])) (xs := [.int 0, .int 0, .int 0, .int 1, .int 1, .int 1, .int 2, .int 2, .int 3, .int 4]) (t := [.un, .un, .un]) (fun o => by (repeat' first | with_reducible apply x_c | with_reducible apply x_v | with_reducible apply o_pk | with_reducible apply o_e | with_reducible exact xs_nil | with_reducible exact xo_nil | with_reducible exact xa_nil | with_reducible apply xs_cons | with_reducible apply xo_cons | with_reducible apply xa_v | with_reducible apply xa_o | with_reducible apply xa_p | with_reducible apply xa_sc | with_reducible apply x_tup | with_reducible apply x_lst | with_reducible apply x_bin | with_reducible apply x_cmp | with_reducible apply x_ix | with_reducible apply x_isi | with_reducible apply x_bf | with_reducible apply x_neg | with_reducible apply x_nt | with_reducible apply x_chain | with_reducible apply x_cut | with_reducible exact xb_n | with_reducible apply xb_s | with_reducible apply x_sc | with_reducible apply x_call | rfl)) hp (by omega) (by simp) (by decide)
  obtain ⟨i, rfl, i0, i1⟩ : ∃ i : Int, d1 = .int i ∧ 0 ≤ i ∧ i ≤ 4 := by
    simp only [List.mem_cons, List.mem_nil_iff, or_false] at m1
    rcases m1 with rfl | rfl | rfl | rfl | rfl | rfl | rfl | rfl | rfl | rfl <;> exact ⟨_, rfl, by decide, by decide⟩
  obtain ⟨d2, o2, e2, m2, p2⟩ := pick_call (Φ := Φ) h15 (e := .lst (es [.c (.int 3), .c (.int 9), .c (.int 10), .bin .Sub (.bin .Pow (.c (.int 10)) (.c (.int 6))) (.c (.int 1))])) (xs := [.int 3, .int 9, .int 10, .int 999999]) (t := [.sh (.int i), .un, .un]) (fun o => by (repeat' first | with_reducible apply x_c | with_reducible apply x_v | with_reducible apply o_pk | with_reducible apply o_e | with_reducible exact xs_nil | with_reducible exact xo_nil | with_reducible exact xa_nil | with_reducible apply xs_cons | with_reducible apply xo_cons | with_reducible apply xa_v | with_reducible apply xa_o | with_reducible apply xa_p | with_reducible apply xa_sc | with_reducible apply x_tup | with_reducible apply x_lst | with_reducible apply x_bin | with_reducible apply x_cmp | with_reducible apply x_ix | with_reducible apply x_isi | with_reducible apply x_bf | with_reducible apply x_neg | with_reducible apply x_nt | with_reducible apply x_chain | with_reducible apply x_cut | with_reducible exact xb_n | with_reducible apply xb_s | with_reducible apply x_sc | with_reducible apply x_call | rfl)) p1 (by omega) (by simp) (by decide)
  obtain ⟨j, rfl, j0, j1⟩ : ∃ i : Int, d2 = .int i ∧ 0 ≤ i ∧ i ≤ 1000000 := by
    simp only [List.mem_cons, List.mem_nil_iff, or_false] at m2
    rcases m2 with rfl | rfl | rfl | rfl <;> exact ⟨_, rfl, by decide, by decide⟩
  obtain ⟨d3, o3, e3, m3, p3⟩ := pick_call (Φ := Φ) h15 (e := .lst (es [.c (.none), .v 1, .v 1, .bin .Add (.pk 1) (.c (.int 1)), .bin .Add (.pk 1) (.c (.int 2)), .v 2])) (xs := [.none, .int i, .int i, .int (i + 1), .int (i + 2), .int j]) (t := [.sh (.int i), .sh (.int j), .un]) (fun o => by (repeat' first | with_reducible apply x_c | with_reducible apply x_v | with_reducible apply o_pk | with_reducible apply o_e | with_reducible exact xs_nil | with_reducible exact xo_nil | with_reducible exact xa_nil | with_reducible apply xs_cons | with_reducible apply xo_cons | with_reducible apply xa_v | with_reducible apply xa_o | with_reducible apply xa_p | with_reducible apply xa_sc | with_reducible apply x_tup | with_reducible apply x_lst | with_reducible apply x_bin | with_reducible apply x_cmp | with_reducible apply x_ix | with_reducible apply x_isi | with_reducible apply x_bf | with_reducible apply x_neg | with_reducible apply x_nt | with_reducible apply x_chain | with_reducible apply x_cut | with_reducible exact xb_n | with_reducible apply xb_s | with_reducible apply x_sc | with_reducible apply x_call | rfl)) p2 (by omega) (by simp) (by simp)
  have head : ∀ F, sts Φ W (.cons (.ite (.cmp .IsNot (.pk 3) (.c (.none))) (ss [.asg 3 (.bf .max (es [.c (.int 1), .pk 1, .pk 3]))]) (ss [])) (ss [.ret (.tup (es [.v 1, .v 3]))])) [.ow o3, .sh (.int i), .sh (.int j), .sh d3] = F → sts Φ W f16.body [.ow o, .un, .un, .un] = F := fun F hF =>
    s_asg (s1 := [.ow o1, .un, .un, .un]) e1 (s_asg (s1 := [.ow o2, .sh (.int i), .un, .un]) e2 (s_asg (s1 := [.ow o3, .sh (.int i), .sh (.int j), .un]) e3 hF))
  by_cases hd : d3 = .none
  · subst hd
    refine ⟨.tuple [.int i, .none], o3, run_rt (f := f16) (args := [.ow o]) (s0 := [.ow o, .un, .un, .un]) (s := [.ow o3, .sh (.int i), .sh (.int j), .sh .none]) rfl rfl (head _ ?_), ?_, (GdL.tup (GdL.cons (gd_int (by omega)) (GdL.cons gd_none (GdL.nil (n := 0))))).mono (by decide) (by decide), p3⟩
    · refine s_ifF (d := .bool false) (s1 := [.ow o3, .sh (.int i), .sh (.int j), .sh .none]) (by (repeat' first | with_reducible apply x_c | with_reducible apply x_v | with_reducible apply o_pk | with_reducible apply o_e | with_reducible exact xs_nil | with_reducible exact xo_nil | with_reducible exact xa_nil | with_reducible apply xs_cons | with_reducible apply xo_cons | with_reducible apply xa_v | with_reducible apply xa_o | with_reducible apply xa_p | with_reducible apply xa_sc | with_reducible apply x_tup | with_reducible apply x_lst | with_reducible apply x_bin | with_reducible apply x_cmp | with_reducible apply x_ix | with_reducible apply x_isi | with_reducible apply x_bf | with_reducible apply x_neg | with_reducible apply x_nt | with_reducible apply x_chain | with_reducible apply x_cut | with_reducible exact xb_n | with_reducible apply xb_s | with_reducible apply x_sc | with_reducible apply x_call | rfl)) rfl (s_ret (by (repeat' first | with_reducible apply x_c | with_reducible apply x_v | with_reducible apply o_pk | with_reducible apply o_e | with_reducible exact xs_nil | with_reducible exact xo_nil | with_reducible exact xa_nil | with_reducible apply xs_cons | with_reducible apply xo_cons | with_reducible apply xa_v | with_reducible apply xa_o | with_reducible apply xa_p | with_reducible apply xa_sc | with_reducible apply x_tup | with_reducible apply x_lst | with_reducible apply x_bin | with_reducible apply x_cmp | with_reducible apply x_ix | with_reducible apply x_isi | with_reducible apply x_bf | with_reducible apply x_neg | with_reducible apply x_nt | with_reducible apply x_chain | with_reducible apply x_cut | with_reducible exact xb_n | with_reducible apply xb_s | with_reducible apply x_sc | with_reducible apply x_call | rfl)))
    · simp only [counts, whole, cnt2, decide_eq_true i0, decide_eq_true i1, Bool.and_self]
  · obtain ⟨g, rfl, g0, g1⟩ : ∃ g : Int, d3 = .int g ∧ 0 ≤ g ∧ g ≤ 1000000 := by
      simp only [List.mem_cons, List.mem_nil_iff, or_false] at m3
      rcases m3 with rfl | rfl | rfl | rfl | rfl | rfl
      · exact absurd rfl hd
      · exact ⟨_, rfl, by omega, by omega⟩
      · exact ⟨_, rfl, by omega, by omega⟩
      · exact ⟨_, rfl, by omega, by omega⟩
      · exact ⟨_, rfl, by omega, by omega⟩
      · exact ⟨_, rfl, by omega, by omega⟩
    have hM : 1 ≤ max3 1 i g ∧ i ≤ max3 1 i g ∧ max3 1 i g ≤ 1000000 := by
      unfold max3
      split
      · split <;> omega
      · split <;> omega
    refine ⟨.tuple [.int i, .int (max3 1 i g)], o3, run_rt (f := f16) (args := [.ow o]) (s0 := [.ow o, .un, .un, .un]) (s := [.ow o3, .sh (.int i), .sh (.int j), .sh (.int (max3 1 i g))]) rfl rfl (head _ ?_), ?_, (GdL.tup (GdL.cons (gd_int (by omega)) (GdL.cons (gd_int (by omega)) (GdL.nil (n := 0))))).mono (by decide) (by decide), p3⟩
    · refine s_ifT (d := .bool true) (s1 := [.ow o3, .sh (.int i), .sh (.int j), .sh (.int g)]) (by (repeat' first | with_reducible apply x_c | with_reducible apply x_v | with_reducible apply o_pk | with_reducible apply o_e | with_reducible exact xs_nil | with_reducible exact xo_nil | with_reducible exact xa_nil | with_reducible apply xs_cons | with_reducible apply xo_cons | with_reducible apply xa_v | with_reducible apply xa_o | with_reducible apply xa_p | with_reducible apply xa_sc | with_reducible apply x_tup | with_reducible apply x_lst | with_reducible apply x_bin | with_reducible apply x_cmp | with_reducible apply x_ix | with_reducible apply x_isi | with_reducible apply x_bf | with_reducible apply x_neg | with_reducible apply x_nt | with_reducible apply x_chain | with_reducible apply x_cut | with_reducible exact xb_n | with_reducible apply xb_s | with_reducible apply x_sc | with_reducible apply x_call | rfl)) rfl ?_
      have hx : sts Φ W (ss [.asg 3 (.bf .max (es [.c (.int 1), .pk 1, .pk 3]))]) [.ow o3, .sh (.int i), .sh (.int j), .sh (.int g)] = .nx [.ow o3, .sh (.int i), .sh (.int j), .sh (.int (max3 1 i g))] :=
        s_asg (s1 := [.ow o3, .sh (.int i), .sh (.int j), .sh (.int g)]) (d := .int (max3 1 i g)) (by (repeat' first | with_reducible apply x_c | with_reducible apply x_v | with_reducible apply o_pk | with_reducible apply o_e | with_reducible exact xs_nil | with_reducible exact xo_nil | with_reducible exact xa_nil | with_reducible apply xs_cons | with_reducible apply xo_cons | with_reducible apply xa_v | with_reducible apply xa_o | with_reducible apply xa_p | with_reducible apply xa_sc | with_reducible apply x_tup | with_reducible apply x_lst | with_reducible apply x_bin | with_reducible apply x_cmp | with_reducible apply x_ix | with_reducible apply x_isi | with_reducible apply x_bf | with_reducible apply x_neg | with_reducible apply x_nt | with_reducible apply x_chain | with_reducible apply x_cut | with_reducible exact xb_n | with_reducible apply xb_s | with_reducible apply x_sc | with_reducible apply x_call | rfl)) rfl
      rw [hx, thenF_nx]
      exact s_ret (by (repeat' first | with_reducible apply x_c | with_reducible apply x_v | with_reducible apply o_pk | with_reducible apply o_e | with_reducible exact xs_nil | with_reducible exact xo_nil | with_reducible exact xa_nil | with_reducible apply xs_cons | with_reducible apply xo_cons | with_reducible apply xa_v | with_reducible apply xa_o | with_reducible apply xa_p | with_reducible apply xa_sc | with_reducible apply x_tup | with_reducible apply x_lst | with_reducible apply x_bin | with_reducible apply x_cmp | with_reducible apply x_ix | with_reducible apply x_isi | with_reducible apply x_bf | with_reducible apply x_neg | with_reducible apply x_nt | with_reducible apply x_chain | with_reducible apply x_cut | with_reducible exact xb_n | with_reducible apply xb_s | with_reducible apply x_sc | with_reducible apply x_call | rfl))
    · simp only [counts, whole, cnt2, decide_eq_true i0, decide_eq_true i1, decide_eq_true hM.1, decide_eq_true hM.2.1, Bool.and_self]
/-- a drawn link -/
def LinkG (φ : Sem1) : Prop := ∀ (n : Nat) (o : Ob) (m : Int), PenOk n o → n + 8 < 2 ^ 20 → 2 ≤ m → m ≤ 4 → ∃ (d : D) (o1 : Ob) (x : Sl), φ [.ow o, .sh (.int m)] = some (d, [.ow o1, x]) ∧ link m d = true ∧ Gd 8 2 d ∧ PenOk (n + 8) o1
theorem mod_apart {m a b : Int} (hm : 2 ≤ m) (hm4 : m ≤ 4) (a0 : 0 ≤ a) (a1 : a < m) (b0 : 0 ≤ b) (b1 : b < m - 1) : (a + 1 + b) % m ≠ a ∧ 0 ≤ (a + 1 + b) % m ∧ (a + 1 + b) % m < m := by
  have : m = 2 ∨ m = 3 ∨ m = 4 := by omega
  rcases this with rfl | rfl | rfl <;> omega
theorem linkG (h13 : TakeS (Φ 13)) (h16 : CountsG (Φ 16)) : LinkG (runDef Φ W f17) := fun n o m hp hn h2 h4 => by
  obtain ⟨a, o1, e1, a0, a1, p1⟩ := take_call (Φ := Φ) h13 (e := .v 1) (m := m) (t := [.sh (.int m), .un, .un]) (fun o => by (repeat' first | with_reducible apply x_c | with_reducible apply x_v | with_reducible apply o_pk | with_reducible apply o_e | with_reducible exact xs_nil | with_reducible exact xo_nil | with_reducible exact xa_nil | with_reducible apply xs_cons | with_reducible apply xo_cons | with_reducible apply xa_v | with_reducible apply xa_o | with_reducible apply xa_p | with_reducible apply xa_sc | with_reducible apply x_tup | with_reducible apply x_lst | with_reducible apply x_bin | with_reducible apply x_cmp | with_reducible apply x_ix | with_reducible apply x_isi | with_reducible apply x_bf | with_reducible apply x_neg | with_reducible apply x_nt | with_reducible apply x_chain | with_reducible apply x_cut | with_reducible exact xb_n | with_reducible apply xb_s | with_reducible apply x_sc | with_reducible apply x_call | rfl)) hp (by omega) (by omega) (by omega)
  obtain ⟨b, o2, e2, b0, b1, p2⟩ := take_call (Φ := Φ) h13 (e := .bin .Sub (.pk 1) (.c (.int 1))) (m := m - 1) (t := [.sh (.int m), .sh (.int a), .un]) (fun o => by (repeat' first | with_reducible apply x_c | with_reducible apply x_v | with_reducible apply o_pk | with_reducible apply o_e | with_reducible exact xs_nil | with_reducible exact xo_nil | with_reducible exact xa_nil | with_reducible apply xs_cons | with_reducible apply xo_cons | with_reducible apply xa_v | with_reducible apply xa_o | with_reducible apply xa_p | with_reducible apply xa_sc | with_reducible apply x_tup | with_reducible apply x_lst | with_reducible apply x_bin | with_reducible apply x_cmp | with_reducible apply x_ix | with_reducible apply x_isi | with_reducible apply x_bf | with_reducible apply x_neg | with_reducible apply x_nt | with_reducible apply x_chain | with_reducible apply x_cut | with_reducible exact xb_n | with_reducible apply xb_s | with_reducible apply x_sc | with_reducible apply x_call | rfl)) p1 (by omega) (by omega) (by omega)
  obtain ⟨c, o3, e3, c1, gc, p3⟩ := h16 (n + 2) o2 p2 (by omega)
  obtain ⟨d, o4, e4, d1, gd, p4⟩ := h16 (n + 5) o3 p3 (by omega)
  obtain ⟨q1, q2, q3⟩ := mod_apart h2 h4 a0 a1 b0 b1
  refine ⟨.tuple [.int a, .int ((a + 1 + b) % m), c, d], o4, _, run_rt (f := f17) (args := [.ow o, .sh (.int m)]) (s0 := [.ow o, .sh (.int m), .un, .un]) (s := [.ow o4, .sh (.int m), .sh (.int a), .sh (.int ((a + 1 + b) % m))]) rfl rfl ?_, ?_, ?_, p4⟩
  · refine s_asg (s1 := [.ow o1, .sh (.int m), .un, .un]) e1 (s_asg (d := .int ((a + 1 + b) % m)) (s1 := [.ow o2, .sh (.int m), .sh (.int a), .un]) ?_ (s_ret ?_))
    · show ev Φ _ [.ow o1, .sh (.int m), .sh (.int a), .un] = _
      (repeat' first | with_reducible exact e2 | exact modI (by omega) | with_reducible apply x_c | with_reducible apply x_v | with_reducible apply o_pk | with_reducible apply o_e | with_reducible exact xs_nil | with_reducible exact xo_nil | with_reducible exact xa_nil | with_reducible apply xs_cons | with_reducible apply xo_cons | with_reducible apply xa_v | with_reducible apply xa_o | with_reducible apply xa_p | with_reducible apply xa_sc | with_reducible apply x_tup | with_reducible apply x_lst | with_reducible apply x_bin | with_reducible apply x_cmp | with_reducible apply x_ix | with_reducible apply x_isi | with_reducible apply x_bf | with_reducible apply x_neg | with_reducible apply x_nt | with_reducible apply x_chain | with_reducible apply x_cut | with_reducible exact xb_n | with_reducible apply xb_s | with_reducible apply x_sc | with_reducible apply x_call | rfl)
    · show ev Φ _ [.ow o2, .sh (.int m), .sh (.int a), .sh (.int ((a + 1 + b) % m))] = _
      have k1 : ev Φ (.call 16 false (.o 0 .nil)) [.ow o2, .sh (.int m), .sh (.int a), .sh (.int ((a + 1 + b) % m))] = .ok c [.ow o3, .sh (.int m), .sh (.int a), .sh (.int ((a + 1 + b) % m))] := x_call (avs := [.o 0]) (xa_o rfl xa_nil) (do_ok rfl rfl e3 rfl rfl)
      have k2 : ev Φ (.call 16 false (.o 0 .nil)) [.ow o3, .sh (.int m), .sh (.int a), .sh (.int ((a + 1 + b) % m))] = .ok d [.ow o4, .sh (.int m), .sh (.int a), .sh (.int ((a + 1 + b) % m))] := x_call (avs := [.o 0]) (xa_o rfl xa_nil) (do_ok rfl rfl e4 rfl rfl)
      exact x_tup (xs_cons (x_v rfl) (xs_cons (x_v rfl) (xs_cons k1 (xs_cons k2 xs_nil))))
  · have ne : PyData.eqv (.int a) (.int ((a + 1 + b) % m)) = false := by
      show (a == (a + 1 + b) % m) = false
      rw [beq_eq_false_iff_ne]
      exact fun z => q1 z.symm
    simp only [link, whole, c1, d1, ne, decide_eq_true a0, decide_eq_true (show a ≤ m - 1 by omega), decide_eq_true q2, decide_eq_true (show (a + 1 + b) % m ≤ m - 1 by omega), Bool.and_self, Bool.not_false]
  · exact (GdL.tup (GdL.cons ((gd_int (by omega)).mono (Nat.le_refl _) (by decide : 0 ≤ 1)) (GdL.cons ((gd_int (by omega)).mono (Nat.le_refl _) (by decide : 0 ≤ 1)) (GdL.cons gc (GdL.cons gd (GdL.nil (n := 0))))))).mono (by decide) (by decide)
end K10

set_option Elab.async false
set_option linter.all false
set_option maxRecDepth 100000
set_option maxHeartbeats 4000000
/-! k10: rings -/
namespace K10
open PySem PySem.Spec L2 L3
variable {Φ : Nat → Sem1} {W : Nat}
/-- a comprehension over one name whose parts draw from the pen -/
theorem lcP_turns {S : Ob → Sls} {i : Nat} {elt : E} {P : D → Prop} {N : Nat} (h : ∀ (n : Nat) (o : Ob) (d : D), PenOk n o → n < N → ∃ (v : D) (o1 : Ob), ev Φ elt ((S o).set i (.sh d)) = .ok v ((S o1).set i (.sh d)) ∧ P v ∧ PenOk (n + 1) o1) :
    ∀ (items acc : List D) (n : Nat) (o : Ob) (z : Sl), PenOk n o → n + items.length ≤ N → ∃ (vs : List D) (o1 : Ob) (z1 : Sl), lcL (fun d s => match asgTg (.nm i) d (wipeS s [i]) with
        | none => .bad
        | some s1 => (evc Φ .n s1).bnd fun b s2 => if b then (ev Φ elt s2).bnd fun y s3 => .ok (some y) s3 else .ok none s2) items acc ((S o).set i z) = .ok (acc ++ vs) ((S o1).set i z1) ∧ vs.length = items.length ∧ (∀ v ∈ vs, P v) ∧ PenOk (n + items.length) o1
  | [], acc, n, o, z, hp, _ => ⟨[], o, z, by simp [lcL], rfl, (by intro v hv; cases hv), hp⟩
  | d :: r, acc, n, o, z, hp, hN => by
    simp only [List.length_cons] at hN
    obtain ⟨v, o1, e1, pv, p1⟩ := h n o d hp (by omega)
    obtain ⟨vs, o2, z2, e2, l2, pvs, p2⟩ := lcP_turns h r (acc ++ [v]) (n + 1) o1 (.sh d) p1 (by omega)
    have ea : asgTg (.nm i) d (wipeS ((S o).set i z) [i]) = some ((S o).set i (.sh d)) := by
      simp only [asgTg, wipeS, List.set_set]
    refine ⟨v :: vs, o2, z2, ?_, by simp [l2], fun w hw => ?_, by simp only [List.length_cons]; rw [show n + (r.length + 1) = n + 1 + r.length by omega]; exact p2⟩
    · have hcd : evc Φ .n ((S o).set i (.sh d)) = .ok true ((S o).set i (.sh d)) := rfl
      simp only [lcL, ea, hcd, bnd_ok, if_true, e1]
      rw [e2, List.append_assoc]
      rfl
    · rcases List.mem_cons.mp hw with rfl | hw
      · exact pv
      · exact pvs w hw
theorem x_lcP {S : Ob → Sls} {x : Str} {i : Nat} {it : L3.It} {elt : E} {P : D → Prop} {N n : Nat} {items : List D} {y : Sl} {o : Ob} (hi : ∀ o, evIt Φ it (S o) = .ok items (S o)) (hy : ∀ o, (S o)[i]? = some y) (hw : ∀ o, isOw (S o) i = false)
    (h : ∀ (n : Nat) (o : Ob) (d : D), PenOk n o → n < N → ∃ (v : D) (o1 : Ob), ev Φ elt ((S o).set i (.sh d)) = .ok v ((S o1).set i (.sh d)) ∧ P v ∧ PenOk (n + 1) o1) (hp : PenOk n o) (hN : n + items.length ≤ N) (hf : items.length ≤ 10000) :
    ∃ (vs : List D) (o1 : Ob), ev Φ (.lc [(x, i)] (.nm i) it .n elt) (S o) = .ok (.list vs) (S o1) ∧ vs.length = items.length ∧ (∀ v ∈ vs, P v) ∧ PenOk (n + items.length) o1 := by
  have hs : S o = (S o).set i y := by
    have := set_back (x := y) (hy o)
    rw [List.set_set] at this
    exact this.symm
  obtain ⟨vs, o1, z1, e1, l1, pv, p1⟩ := lcP_turns h items [] n o y hp hN
  rw [← hs] at e1
  have hl : fitN vs.length = true := by
    simp only [fitN, decide_eq_true_eq, Line]
    omega
  refine ⟨vs, o1, ?_, l1, pv, p1⟩
  simp only [ev, hi, bnd_ok, List.map_cons, List.map_nil, List.any_cons, List.any_nil, hw, Bool.or_false, Bool.false_eq_true, if_false]
  rw [List.nil_append] at e1
  refine (congrArg (fun z => R.bnd z _) e1).trans ?_
  simp only [bnd_ok, hl, if_true, backS, hy, Option.getD_some]
  rw [set_back (hy o1)]
theorem ints_of {P : Int → Prop} : ∀ {vs : List D}, (∀ v ∈ vs, ∃ i : Int, v = .int i ∧ P i) → ∃ as : List Int, vs = as.map .int ∧ ∀ a ∈ as, P a
  | [], _ => ⟨[], rfl, by intro a ha; cases ha⟩
  | v :: vs, h => by
    obtain ⟨i, rfl, pi⟩ := h v List.mem_cons_self
    obtain ⟨as, rfl, pa⟩ := ints_of (vs := vs) fun w hw => h w (List.mem_cons_of_mem _ hw)
    refine ⟨i :: as, rfl, fun a ha => ?_⟩
    rcases List.mem_cons.mp ha with rfl | ha
    · exact pi
    · exact pa a ha
theorem ix_ints {as : List Int} {k : Int} {P : Int → Prop} (h0 : 0 ≤ k) (h1 : k < as.length) (hP : ∀ a ∈ as, P a) : ∃ a : Int, ixD (.list (as.map .int)) (.int k) = some (.int a) ∧ P a := by
  obtain ⟨x, h2, h3⟩ := atI_in (l := as.map PyData.int) h0 (by simpa using h1)
  obtain ⟨c, hc, rfl⟩ := List.mem_map.mp h3
  exact ⟨c, h2, hP c hc⟩
theorem ixN_0 {n : Nat} (h : 0 < n) : ixN n 0 = some 0 := by
  unfold ixN
  rw [if_pos (by decide), if_pos (by omega)]
  rfl
theorem rng_len' {m : Int} (h : 0 ≤ m) : (rngL 0 m).length = m.toNat := by
  unfold rngL
  simp
theorem mem_rng {m : Int} {d : D} (h : d ∈ rngL 0 m) : ∃ k : Nat, d = .int k ∧ (k : Int) < m := by
  unfold rngL at h
  obtain ⟨k, hk, rfl⟩ := List.mem_map.mp h
  have := List.mem_range.mp hk
  exact ⟨k, by simp, by omega⟩
theorem set_P {as : List Int} {P : Int → Prop} (h : ∀ a ∈ as, P a) {b : Int} (hb : P b) : ∀ a ∈ as.set 0 b, P a := by
  intro a ha
  rcases List.mem_or_eq_of_mem_set ha with h1 | rfl
  · exact h a h1
  · exact hb
def ringB : Ss := ss [.asg 7 (.call 15 false (.o 0 (.v (.lst (es [.ix (.pk 2) (.pk 6), .ix (.pk 2) (.pk 6), .bin .Add (.ix (.pk 2) (.pk 6)) (.c (.int 1)), .c (.none)])) .nil))), .par [8, 9] (es [.tup (es [.ix (.pk 2) (.pk 6), .v 7]), .bin .Mod (.bf .int (es [.bin .Add (.pk 6) (.c (.int 1))])) (.pk 1)]), .asg 10 (.tup (es [.call 15 false (.o 0 (.v (.lst (es [.c (.int 0), .c (.int 0), .c (.int 1), .ix (.pk 3) (.pk 6)])) .nil)), .ix (.pk 3) (.pk 6)])), .asg 11 (.tup (es [.v 6, .v 9, .v 8, .v 10])), .ite (.cmp .Eq (.call 13 false (.o 0 (.v (.c (.int 2)) .nil))) (.c (.int 0))) (ss [.asg 11 (.tup (es [.v 9, .v 6, .v 10, .v 8]))]) (ss []), .asg 5 (.bin .Add (.pk 5) (.tup (es [.v 11])))]
/-- one turn of the ring -/
theorem ring_turn (h13 : TakeS (Φ 13)) (h15 : OneS (Φ 15)) {n : Nat} {o : Ob} {m : Int} {as ls : List Int} {bend : D} {fs : List D} {z7 z8 z9 z10 z11 : Sl} {k : Int} (hp : PenOk n o) (hn : n + 3 < 2 ^ 20) (hm : 2 ≤ m) (hm4 : m ≤ 4)
    (ha : as.length = m.toNat) (hl : ls.length = m.toNat) (pa : ∀ a ∈ as, 1 ≤ a ∧ a ≤ 4) (pl : ∀ a ∈ ls, 1 ≤ a ∧ a ≤ 4) (k0 : 0 ≤ k) (k1 : k < m) (hf : fs.length ≤ 100) :
    ∃ (l : D) (o1 : Ob) (y7 y8 y9 y10 y11 : Sl), sts Φ W ringB [.ow o, .sh (.int m), .ow (.l (as.map .int)), .ow (.l (ls.map .int)), .sh bend, .sh (.tuple fs), .sh (.int k), z7, z8, z9, z10, z11] =
      .nx [.ow o1, .sh (.int m), .ow (.l (as.map .int)), .ow (.l (ls.map .int)), .sh bend, .sh (.tuple (fs ++ [l])), .sh (.int k), y7, y8, y9, y10, y11] ∧ link m l = true ∧ Gd 8 2 l ∧ PenOk (n + 3) o1 := by
  obtain ⟨a, ea, a1, a4⟩ := ix_ints (k := k) k0 (by omega) pa
  obtain ⟨b, eb, b1, b4⟩ := ix_ints (k := k) k0 (by omega) pl
  obtain ⟨d7, o1, e1, m1, p1⟩ := pick_call (Φ := Φ) h15 (e := .lst (es [.ix (.pk 2) (.pk 6), .ix (.pk 2) (.pk 6), .bin .Add (.ix (.pk 2) (.pk 6)) (.c (.int 1)), .c (.none)])) (xs := [.int a, .int a, .int (a + 1), .none])
    (t := [.sh (.int m), .ow (.l (as.map .int)), .ow (.l (ls.map .int)), .sh bend, .sh (.tuple fs), .sh (.int k), z7, z8, z9, z10, z11]) (fun o => by (repeat' first | exact ea | with_reducible apply x_c | with_reducible apply x_v | with_reducible apply o_pk | with_reducible apply o_e | with_reducible exact xs_nil | with_reducible exact xo_nil | with_reducible exact xa_nil | with_reducible apply xs_cons | with_reducible apply xo_cons | with_reducible apply xa_v | with_reducible apply xa_o | with_reducible apply xa_p | with_reducible apply xa_sc | with_reducible apply x_tup | with_reducible apply x_lst | with_reducible apply x_bin | with_reducible apply x_cmp | with_reducible apply x_ix | with_reducible apply x_isi | with_reducible apply x_bf | with_reducible apply x_neg | with_reducible apply x_nt | with_reducible apply x_chain | with_reducible apply x_cut | with_reducible exact xb_n | with_reducible apply xb_s | with_reducible apply x_sc | with_reducible apply x_call | rfl)) hp (by omega) (by simp) (by simp)
  have w7 : cnt2 (.int a) d7 = true ∧ Gd 0 0 d7 := by
    simp only [List.mem_cons, List.mem_nil_iff, or_false] at m1
    rcases m1 with rfl | rfl | rfl | rfl
    · exact ⟨by simp only [cnt2, decide_eq_true a1, Bool.true_and, decide_eq_true_eq]; omega, gd_int (by omega)⟩
    · exact ⟨by simp only [cnt2, decide_eq_true a1, Bool.true_and, decide_eq_true_eq]; omega, gd_int (by omega)⟩
    · exact ⟨by simp only [cnt2, decide_eq_true (show 1 ≤ a + 1 by omega), Bool.true_and, decide_eq_true_eq]; omega, gd_int (by omega)⟩
    · exact ⟨rfl, gd_none⟩
  obtain ⟨d10, o2, e2, m2, p2⟩ := pick_call (Φ := Φ) h15 (e := .lst (es [.c (.int 0), .c (.int 0), .c (.int 1), .ix (.pk 3) (.pk 6)])) (xs := [.int 0, .int 0, .int 1, .int b])
    (t := [.sh (.int m), .ow (.l (as.map .int)), .ow (.l (ls.map .int)), .sh bend, .sh (.tuple fs), .sh (.int k), .sh d7, .sh (.tuple [.int a, d7]), .sh (.int ((k + 1) % m)), z10, z11]) (fun o => by (repeat' first | exact eb | with_reducible apply x_c | with_reducible apply x_v | with_reducible apply o_pk | with_reducible apply o_e | with_reducible exact xs_nil | with_reducible exact xo_nil | with_reducible exact xa_nil | with_reducible apply xs_cons | with_reducible apply xo_cons | with_reducible apply xa_v | with_reducible apply xa_o | with_reducible apply xa_p | with_reducible apply xa_sc | with_reducible apply x_tup | with_reducible apply x_lst | with_reducible apply x_bin | with_reducible apply x_cmp | with_reducible apply x_ix | with_reducible apply x_isi | with_reducible apply x_bf | with_reducible apply x_neg | with_reducible apply x_nt | with_reducible apply x_chain | with_reducible apply x_cut | with_reducible exact xb_n | with_reducible apply xb_s | with_reducible apply x_sc | with_reducible apply x_call | rfl)) p1 (by omega) (by simp) (by simp)
  obtain ⟨c, rfl, c0, c1⟩ : ∃ c : Int, d10 = .int c ∧ 0 ≤ c ∧ c ≤ b := by
    simp only [List.mem_cons, List.mem_nil_iff, or_false] at m2
    rcases m2 with rfl | rfl | rfl | rfl
    · exact ⟨_, rfl, by omega, by omega⟩
    · exact ⟨_, rfl, by omega, by omega⟩
    · exact ⟨_, rfl, by omega, by omega⟩
    · exact ⟨_, rfl, by omega, by omega⟩
  obtain ⟨r, o3, e3, r0, r1, p3⟩ := take_call (Φ := Φ) h13 (e := .c (.int 2)) (m := 2)
    (t := [.sh (.int m), .ow (.l (as.map .int)), .ow (.l (ls.map .int)), .sh bend, .sh (.tuple fs), .sh (.int k), .sh d7, .sh (.tuple [.int a, d7]), .sh (.int ((k + 1) % m)), .sh (.tuple [.int c, .int b]), .sh (.tuple [.int k, .int ((k + 1) % m), .tuple [.int a, d7], .tuple [.int c, .int b]])]) (fun o => by (repeat' first | with_reducible apply x_c | with_reducible apply x_v | with_reducible apply o_pk | with_reducible apply o_e | with_reducible exact xs_nil | with_reducible exact xo_nil | with_reducible exact xa_nil | with_reducible apply xs_cons | with_reducible apply xo_cons | with_reducible apply xa_v | with_reducible apply xa_o | with_reducible apply xa_p | with_reducible apply xa_sc | with_reducible apply x_tup | with_reducible apply x_lst | with_reducible apply x_bin | with_reducible apply x_cmp | with_reducible apply x_ix | with_reducible apply x_isi | with_reducible apply x_bf | with_reducible apply x_neg | with_reducible apply x_nt | with_reducible apply x_chain | with_reducible apply x_cut | with_reducible exact xb_n | with_reducible apply xb_s | with_reducible apply x_sc | with_reducible apply x_call | rfl)) p2 (by omega) (by decide) (by decide)
  obtain ⟨q1, q2, q3⟩ := mod_apart hm hm4 k0 k1 (b := 0) (by omega) (by omega)
  rw [Int.add_zero] at q1 q2 q3
  have ne1 : PyData.eqv (.int k) (.int ((k + 1) % m)) = false := by
    show (k == (k + 1) % m) = false
    rw [beq_eq_false_iff_ne]
    exact fun z => q1 z.symm
  have ne2 : PyData.eqv (.int ((k + 1) % m)) (.int k) = false := by
    show ((k + 1) % m == k) = false
    rw [beq_eq_false_iff_ne]
    exact q1
  have ca : counts (.tuple [.int a, d7]) = true := by
    simp only [counts, whole, w7.1, decide_eq_true (show 0 ≤ a by omega), decide_eq_true a4, Bool.and_self]
  have cb : counts (.tuple [.int c, .int b]) = true := by
    simp only [counts, whole, cnt2, decide_eq_true c0, decide_eq_true (show c ≤ 4 by omega), decide_eq_true b1, decide_eq_true c1, Bool.and_self]
  have ga : Gd 2 1 (.tuple [.int a, d7]) := (GdL.tup (GdL.cons (gd_int (by omega)) (GdL.cons w7.2 (GdL.nil (n := 0))))).mono (by decide) (by decide)
  have gb : Gd 2 1 (.tuple [.int c, .int b]) := (GdL.tup (GdL.cons (gd_int (by omega)) (GdL.cons (gd_int (by omega)) (GdL.nil (n := 0))))).mono (by decide) (by decide)
  have gi : ∀ i : Int, i.natAbs < 10 ^ 12 → Gd 0 1 (.int i) := fun i hi => (gd_int hi).mono (Nat.le_refl _) (by decide)
  have fin : ∀ (l : D) (y : Sl), sts Φ W (ss [.asg 5 (.bin .Add (.pk 5) (.tup (es [.v 11])))]) [.ow o3, .sh (.int m), .ow (.l (as.map .int)), .ow (.l (ls.map .int)), .sh bend, .sh (.tuple fs), .sh (.int k), .sh d7, .sh (.tuple [.int a, d7]), .sh (.int ((k + 1) % m)), .sh (.tuple [.int c, .int b]), .sh l] =
      .nx [.ow o3, .sh (.int m), .ow (.l (as.map .int)), .ow (.l (ls.map .int)), .sh bend, .sh (.tuple (fs ++ [l])), .sh (.int k), .sh d7, .sh (.tuple [.int a, d7]), .sh (.int ((k + 1) % m)), .sh (.tuple [.int c, .int b]), .sh l] := fun l y => by
    have hb : bop .Add (.tuple fs) (.tuple [l]) = some (.tuple (fs ++ [l])) := by
      show (if fitN (fs.length + [l].length) then some (PyData.tuple (fs ++ [l])) else none) = _
      rw [if_pos]
      simp only [fitN, decide_eq_true_eq, Line, List.length_singleton]
      omega
    refine s_asg (d := .tuple (fs ++ [l])) (s1 := [.ow o3, .sh (.int m), .ow (.l (as.map .int)), .ow (.l (ls.map .int)), .sh bend, .sh (.tuple fs), .sh (.int k), .sh d7, .sh (.tuple [.int a, d7]), .sh (.int ((k + 1) % m)), .sh (.tuple [.int c, .int b]), .sh l]) ?_ rfl
    (repeat' first | exact hb | with_reducible apply x_c | with_reducible apply x_v | with_reducible apply o_pk | with_reducible apply o_e | with_reducible exact xs_nil | with_reducible exact xo_nil | with_reducible exact xa_nil | with_reducible apply xs_cons | with_reducible apply xo_cons | with_reducible apply xa_v | with_reducible apply xa_o | with_reducible apply xa_p | with_reducible apply xa_sc | with_reducible apply x_tup | with_reducible apply x_lst | with_reducible apply x_bin | with_reducible apply x_cmp | with_reducible apply x_ix | with_reducible apply x_isi | with_reducible apply x_bf | with_reducible apply x_neg | with_reducible apply x_nt | with_reducible apply x_chain | with_reducible apply x_cut | with_reducible exact xb_n | with_reducible apply xb_s | with_reducible apply x_sc | with_reducible apply x_call | rfl)
  have head : ∀ F, thenF (if decide (r = 0) then sts Φ W (ss [.asg 11 (.tup (es [.v 9, .v 6, .v 10, .v 8]))]) [.ow o3, .sh (.int m), .ow (.l (as.map .int)), .ow (.l (ls.map .int)), .sh bend, .sh (.tuple fs), .sh (.int k), .sh d7, .sh (.tuple [.int a, d7]), .sh (.int ((k + 1) % m)), .sh (.tuple [.int c, .int b]), .sh (.tuple [.int k, .int ((k + 1) % m), .tuple [.int a, d7], .tuple [.int c, .int b]])]
      else sts Φ W (ss []) [.ow o3, .sh (.int m), .ow (.l (as.map .int)), .ow (.l (ls.map .int)), .sh bend, .sh (.tuple fs), .sh (.int k), .sh d7, .sh (.tuple [.int a, d7]), .sh (.int ((k + 1) % m)), .sh (.tuple [.int c, .int b]), .sh (.tuple [.int k, .int ((k + 1) % m), .tuple [.int a, d7], .tuple [.int c, .int b]])]) (sts Φ W (ss [.asg 5 (.bin .Add (.pk 5) (.tup (es [.v 11])))])) = F →
      sts Φ W ringB [.ow o, .sh (.int m), .ow (.l (as.map .int)), .ow (.l (ls.map .int)), .sh bend, .sh (.tuple fs), .sh (.int k), z7, z8, z9, z10, z11] = F := fun F hF => by
    refine s_asg (s1 := [.ow o1, .sh (.int m), .ow (.l (as.map .int)), .ow (.l (ls.map .int)), .sh bend, .sh (.tuple fs), .sh (.int k), z7, z8, z9, z10, z11]) e1 ?_
    refine s_par (ds := [.tuple [.int a, d7], .int ((k + 1) % m)]) (s1 := [.ow o1, .sh (.int m), .ow (.l (as.map .int)), .ow (.l (ls.map .int)), .sh bend, .sh (.tuple fs), .sh (.int k), .sh d7, z8, z9, z10, z11]) (s2 := [.ow o1, .sh (.int m), .ow (.l (as.map .int)), .ow (.l (ls.map .int)), .sh bend, .sh (.tuple fs), .sh (.int k), .sh d7, .sh (.tuple [.int a, d7]), .sh (.int ((k + 1) % m)), z10, z11]) ?_ rfl ?_
    · show evs Φ _ [.ow o1, .sh (.int m), .ow (.l (as.map .int)), .ow (.l (ls.map .int)), .sh bend, .sh (.tuple fs), .sh (.int k), .sh d7, z8, z9, z10, z11] = _
      (repeat' first | exact ea | exact modI (by omega) | with_reducible apply x_c | with_reducible apply x_v | with_reducible apply o_pk | with_reducible apply o_e | with_reducible exact xs_nil | with_reducible exact xo_nil | with_reducible exact xa_nil | with_reducible apply xs_cons | with_reducible apply xo_cons | with_reducible apply xa_v | with_reducible apply xa_o | with_reducible apply xa_p | with_reducible apply xa_sc | with_reducible apply x_tup | with_reducible apply x_lst | with_reducible apply x_bin | with_reducible apply x_cmp | with_reducible apply x_ix | with_reducible apply x_isi | with_reducible apply x_bf | with_reducible apply x_neg | with_reducible apply x_nt | with_reducible apply x_chain | with_reducible apply x_cut | with_reducible exact xb_n | with_reducible apply xb_s | with_reducible apply x_sc | with_reducible apply x_call | rfl)
    refine s_asg (d := .tuple [.int c, .int b]) (s1 := [.ow o2, .sh (.int m), .ow (.l (as.map .int)), .ow (.l (ls.map .int)), .sh bend, .sh (.tuple fs), .sh (.int k), .sh d7, .sh (.tuple [.int a, d7]), .sh (.int ((k + 1) % m)), z10, z11]) ?_ ?_
    · (repeat' first | with_reducible exact e2 | exact eb | with_reducible apply x_c | with_reducible apply x_v | with_reducible apply o_pk | with_reducible apply o_e | with_reducible exact xs_nil | with_reducible exact xo_nil | with_reducible exact xa_nil | with_reducible apply xs_cons | with_reducible apply xo_cons | with_reducible apply xa_v | with_reducible apply xa_o | with_reducible apply xa_p | with_reducible apply xa_sc | with_reducible apply x_tup | with_reducible apply x_lst | with_reducible apply x_bin | with_reducible apply x_cmp | with_reducible apply x_ix | with_reducible apply x_isi | with_reducible apply x_bf | with_reducible apply x_neg | with_reducible apply x_nt | with_reducible apply x_chain | with_reducible apply x_cut | with_reducible exact xb_n | with_reducible apply xb_s | with_reducible apply x_sc | with_reducible apply x_call | rfl)
    refine s_asg (d := .tuple [.int k, .int ((k + 1) % m), .tuple [.int a, d7], .tuple [.int c, .int b]]) (s1 := [.ow o2, .sh (.int m), .ow (.l (as.map .int)), .ow (.l (ls.map .int)), .sh bend, .sh (.tuple fs), .sh (.int k), .sh d7, .sh (.tuple [.int a, d7]), .sh (.int ((k + 1) % m)), .sh (.tuple [.int c, .int b]), z11]) ?_ ?_
    · show ev Φ _ [.ow o2, .sh (.int m), .ow (.l (as.map .int)), .ow (.l (ls.map .int)), .sh bend, .sh (.tuple fs), .sh (.int k), .sh d7, .sh (.tuple [.int a, d7]), .sh (.int ((k + 1) % m)), .sh (.tuple [.int c, .int b]), z11] = _
      (repeat' first | with_reducible apply x_c | with_reducible apply x_v | with_reducible apply o_pk | with_reducible apply o_e | with_reducible exact xs_nil | with_reducible exact xo_nil | with_reducible exact xa_nil | with_reducible apply xs_cons | with_reducible apply xo_cons | with_reducible apply xa_v | with_reducible apply xa_o | with_reducible apply xa_p | with_reducible apply xa_sc | with_reducible apply x_tup | with_reducible apply x_lst | with_reducible apply x_bin | with_reducible apply x_cmp | with_reducible apply x_ix | with_reducible apply x_isi | with_reducible apply x_bf | with_reducible apply x_neg | with_reducible apply x_nt | with_reducible apply x_chain | with_reducible apply x_cut | with_reducible exact xb_n | with_reducible apply xb_s | with_reducible apply x_sc | with_reducible apply x_call | rfl)
    refine s_ite (d := .bool (decide (r = 0))) (s1 := [.ow o3, .sh (.int m), .ow (.l (as.map .int)), .ow (.l (ls.map .int)), .sh bend, .sh (.tuple fs), .sh (.int k), .sh d7, .sh (.tuple [.int a, d7]), .sh (.int ((k + 1) % m)), .sh (.tuple [.int c, .int b]), .sh (.tuple [.int k, .int ((k + 1) % m), .tuple [.int a, d7], .tuple [.int c, .int b]])]) (p := decide (r = 0)) ?_ rfl hF
    have eqr : cop .Eq (.int r) (.int 0) = some (decide (r = 0)) := by
      show some (r == 0) = _
      rw [Bool.beq_eq_decide_eq]
    show ev Φ _ [.ow o2, .sh (.int m), .ow (.l (as.map .int)), .ow (.l (ls.map .int)), .sh bend, .sh (.tuple fs), .sh (.int k), .sh d7, .sh (.tuple [.int a, d7]), .sh (.int ((k + 1) % m)), .sh (.tuple [.int c, .int b]), .sh (.tuple [.int k, .int ((k + 1) % m), .tuple [.int a, d7], .tuple [.int c, .int b]])] = _
    (repeat' first | with_reducible exact e3 | exact eqr | with_reducible apply x_c | with_reducible apply x_v | with_reducible apply o_pk | with_reducible apply o_e | with_reducible exact xs_nil | with_reducible exact xo_nil | with_reducible exact xa_nil | with_reducible apply xs_cons | with_reducible apply xo_cons | with_reducible apply xa_v | with_reducible apply xa_o | with_reducible apply xa_p | with_reducible apply xa_sc | with_reducible apply x_tup | with_reducible apply x_lst | with_reducible apply x_bin | with_reducible apply x_cmp | with_reducible apply x_ix | with_reducible apply x_isi | with_reducible apply x_bf | with_reducible apply x_neg | with_reducible apply x_nt | with_reducible apply x_chain | with_reducible apply x_cut | with_reducible exact xb_n | with_reducible apply xb_s | with_reducible apply x_sc | with_reducible apply x_call | rfl)
  by_cases hr : r = 0
  · refine ⟨.tuple [.int ((k + 1) % m), .int k, .tuple [.int c, .int b], .tuple [.int a, d7]], o3, .sh d7, .sh (.tuple [.int a, d7]), .sh (.int ((k + 1) % m)), .sh (.tuple [.int c, .int b]), .sh (.tuple [.int ((k + 1) % m), .int k, .tuple [.int c, .int b], .tuple [.int a, d7]]), head _ ?_, ?_, ?_, p3⟩
    · rw [decide_eq_true hr, if_pos rfl]
      have hx : sts Φ W (ss [.asg 11 (.tup (es [.v 9, .v 6, .v 10, .v 8]))]) [.ow o3, .sh (.int m), .ow (.l (as.map .int)), .ow (.l (ls.map .int)), .sh bend, .sh (.tuple fs), .sh (.int k), .sh d7, .sh (.tuple [.int a, d7]), .sh (.int ((k + 1) % m)), .sh (.tuple [.int c, .int b]), .sh (.tuple [.int k, .int ((k + 1) % m), .tuple [.int a, d7], .tuple [.int c, .int b]])] = .nx [.ow o3, .sh (.int m), .ow (.l (as.map .int)), .ow (.l (ls.map .int)), .sh bend, .sh (.tuple fs), .sh (.int k), .sh d7, .sh (.tuple [.int a, d7]), .sh (.int ((k + 1) % m)), .sh (.tuple [.int c, .int b]), .sh (.tuple [.int ((k + 1) % m), .int k, .tuple [.int c, .int b], .tuple [.int a, d7]])] := by
        refine s_asg (d := .tuple [.int ((k + 1) % m), .int k, .tuple [.int c, .int b], .tuple [.int a, d7]]) (s1 := [.ow o3, .sh (.int m), .ow (.l (as.map .int)), .ow (.l (ls.map .int)), .sh bend, .sh (.tuple fs), .sh (.int k), .sh d7, .sh (.tuple [.int a, d7]), .sh (.int ((k + 1) % m)), .sh (.tuple [.int c, .int b]), .sh (.tuple [.int k, .int ((k + 1) % m), .tuple [.int a, d7], .tuple [.int c, .int b]])]) ?_ rfl
        (repeat' first | with_reducible apply x_c | with_reducible apply x_v | with_reducible apply o_pk | with_reducible apply o_e | with_reducible exact xs_nil | with_reducible exact xo_nil | with_reducible exact xa_nil | with_reducible apply xs_cons | with_reducible apply xo_cons | with_reducible apply xa_v | with_reducible apply xa_o | with_reducible apply xa_p | with_reducible apply xa_sc | with_reducible apply x_tup | with_reducible apply x_lst | with_reducible apply x_bin | with_reducible apply x_cmp | with_reducible apply x_ix | with_reducible apply x_isi | with_reducible apply x_bf | with_reducible apply x_neg | with_reducible apply x_nt | with_reducible apply x_chain | with_reducible apply x_cut | with_reducible exact xb_n | with_reducible apply xb_s | with_reducible apply x_sc | with_reducible apply x_call | rfl)
      rw [hx, thenF_nx]
      exact fin _ .un
    · simp only [link, whole, ca, cb, ne2, decide_eq_true k0, decide_eq_true (show k ≤ m - 1 by omega), decide_eq_true q2, decide_eq_true (show (k + 1) % m ≤ m - 1 by omega), Bool.and_self, Bool.not_false]
    · exact (GdL.tup (GdL.cons (gi _ (by omega)) (GdL.cons (gi _ (by omega)) (GdL.cons gb (GdL.cons ga (GdL.nil (n := 0))))))).mono (by decide) (by decide)
  · refine ⟨.tuple [.int k, .int ((k + 1) % m), .tuple [.int a, d7], .tuple [.int c, .int b]], o3, .sh d7, .sh (.tuple [.int a, d7]), .sh (.int ((k + 1) % m)), .sh (.tuple [.int c, .int b]), .sh (.tuple [.int k, .int ((k + 1) % m), .tuple [.int a, d7], .tuple [.int c, .int b]]), head _ ?_, ?_, ?_, p3⟩
    · rw [decide_eq_false hr, if_neg (by decide)]
      exact fin _ .un
    · simp only [link, whole, ca, cb, ne1, decide_eq_true k0, decide_eq_true (show k ≤ m - 1 by omega), decide_eq_true q2, decide_eq_true (show (k + 1) % m ≤ m - 1 by omega), Bool.and_self, Bool.not_false]
    · exact (GdL.tup (GdL.cons (gi _ (by omega)) (GdL.cons (gi _ (by omega)) (GdL.cons ga (GdL.cons gb (GdL.nil (n := 0))))))).mono (by decide) (by decide)
end K10

set_option Elab.async false
set_option linter.all false
set_option maxRecDepth 100000
set_option maxHeartbeats 4000000
/-! k10: rings and schemes drawn -/
namespace K10
open PySem PySem.Spec L2 L3
variable {Φ : Nat → Sem1} {W : Nat}
theorem rng_it {e : E} {m : Int} {s s1 : Sls} (he : ev Φ e s = .ok (.int m) s1) (h : okR m = true) : evIt Φ (.rng (es [e])) s = .ok (rngL 0 m) s1 := by
  have h1 : evs Φ (es [e]) s = .ok [.int m] s1 := xs_cons he xs_nil
  simp only [evIt, h1, bnd_ok, rngD, h, if_true, opt_some]
theorem ring_loop (h13 : TakeS (Φ 13)) (h15 : OneS (Φ 15)) {m : Int} {as ls : List Int} {bend : D} (hm : 2 ≤ m) (hm4 : m ≤ 4)
    (ha : as.length = m.toNat) (hl : ls.length = m.toNat) (pa : ∀ a ∈ as, 1 ≤ a ∧ a ≤ 4) (pl : ∀ a ∈ ls, 1 ≤ a ∧ a ≤ 4) :
    ∀ (rest : List D) (n : Nat) (o : Ob) (fs : List D) (z6 z7 z8 z9 z10 z11 : Sl), (∀ d ∈ rest, ∃ k : Nat, d = .int k ∧ (k : Int) < m) → PenOk n o → n + 3 * rest.length < 2 ^ 20 → fs.length + rest.length ≤ 4 → (∀ l ∈ fs, link m l = true ∧ Gd 8 2 l) →
      ∃ (fs1 : List D) (o1 : Ob) (y6 y7 y8 y9 y10 y11 : Sl), forL (turnF Φ W (.nm 6) ringB) rest [.ow o, .sh (.int m), .ow (.l (as.map .int)), .ow (.l (ls.map .int)), .sh bend, .sh (.tuple fs), z6, z7, z8, z9, z10, z11] =
        .nx [.ow o1, .sh (.int m), .ow (.l (as.map .int)), .ow (.l (ls.map .int)), .sh bend, .sh (.tuple fs1), y6, y7, y8, y9, y10, y11] ∧ fs1.length ≤ 4 ∧ (∀ l ∈ fs1, link m l = true ∧ Gd 8 2 l) ∧ PenOk (n + 3 * rest.length) o1
  | [], n, o, fs, z6, z7, z8, z9, z10, z11, _, hp, _, hf, pf => ⟨fs, o, z6, z7, z8, z9, z10, z11, rfl, by simpa using hf, pf, hp⟩
  | d :: rest, n, o, fs, z6, z7, z8, z9, z10, z11, hr, hp, hn, hf, pf => by
    simp only [List.length_cons] at hn hf
    obtain ⟨k, rfl, hk⟩ := hr d List.mem_cons_self
    obtain ⟨l, o1, y7, y8, y9, y10, y11, e1, lk, gl, p1⟩ := ring_turn (Φ := Φ) (W := W) (z7 := z7) (z8 := z8) (z9 := z9) (z10 := z10) (z11 := z11) (bend := bend) (fs := fs) (k := k) h13 h15 hp (by omega) hm hm4 ha hl pa pl (by omega) hk (by omega)
    obtain ⟨fs1, o2, x6, x7, x8, x9, x10, x11, e2, l2, pf2, p2⟩ := ring_loop h13 h15 hm hm4 ha hl pa pl rest (n + 3) o1 (fs ++ [l]) (.sh (.int k)) y7 y8 y9 y10 y11 (fun d hd => hr d (List.mem_cons_of_mem _ hd)) p1 (by omega) (by simp only [List.length_append, List.length_singleton]; omega)
      (fun x hx => by
        rcases List.mem_append.mp hx with h | h
        · exact pf x h
        · simp only [List.mem_singleton] at h
          subst h
          exact ⟨lk, gl⟩)
    refine ⟨fs1, o2, x6, x7, x8, x9, x10, x11, (forL_cons (turn_nx rfl e1)).trans e2, l2, pf2, ?_⟩
    simp only [List.length_cons]
    rw [show n + 3 * (rest.length + 1) = n + 3 + 3 * rest.length by omega]
    exact p2
def RingG (φ : Sem1) : Prop := ∀ (n : Nat) (o : Ob) (m : Int), PenOk n o → n + 17 < 2 ^ 20 → 2 ≤ m → m ≤ 4 → ∃ (fs : List D) (o1 : Ob) (x : Sl), φ [.ow o, .sh (.int m)] = some (.tuple fs, [.ow o1, x]) ∧ fs.length ≤ 4 ∧ (∀ l ∈ fs, link m l = true ∧ Gd 8 2 l) ∧ PenOk (n + 17) o1
theorem set0 {as : List Int} {c : Int} (h : 0 < as.length) : L3.putAt (.l (as.map .int)) (.int 0) (.int c) = some (.l ((as.set 0 c).map .int)) := by
  have : ixN (as.map PyData.int).length 0 = some 0 := ixN_0 (by simpa using h)
  simp only [L3.putAt, this, Option.map_some]
  rw [List.map_set]
theorem ringG (h13 : TakeS (Φ 13)) (h15 : OneS (Φ 15)) : RingG (runDef Φ W f18) := fun n o m hp hn hm hm4 => by
  have hR : okR m = true := decide_eq_true (by omega)
  have hrl : (rngL 0 m).length = m.toNat := rng_len' (by omega)
  obtain ⟨vs, o1, e1, l1, pv, p1⟩ := x_lcP (Φ := Φ) (S := fun o => [.ow o, .sh (.int m), .un, .un, .un, .un, .un, .un, .un, .un, .un, .un]) (x := "_law_k") (i := 6) (it := .rng (es [.v 1]))
    (elt := .call 15 false (.o 0 (.v (.lst (es [.c (.int 1), .c (.int 1), .c (.int 2), .c (.int 2), .c (.int 3)])) .nil))) (P := fun v => ∃ i : Int, v = .int i ∧ 1 ≤ i ∧ i ≤ 3) (N := n + 4) (n := n) (items := rngL 0 m) (y := .un) (o := o)
    (fun o => rng_it (x_v rfl) hR) (fun o => rfl) (fun o => rfl) (fun n' o d hp hn' => by
      obtain ⟨d1, o1, e1, m1, p1⟩ := pick_call (Φ := Φ) h15 (e := .lst (es [.c (.int 1), .c (.int 1), .c (.int 2), .c (.int 2), .c (.int 3)])) (xs := [.int 1, .int 1, .int 2, .int 2, .int 3]) (t := [.sh (.int m), .un, .un, .un, .un, .sh d, .un, .un, .un, .un, .un]) (fun o => by (repeat' first | with_reducible apply x_c | with_reducible apply x_v | with_reducible apply o_pk | with_reducible apply o_e | with_reducible exact xs_nil | with_reducible exact xo_nil | with_reducible exact xa_nil | with_reducible apply xs_cons | with_reducible apply xo_cons | with_reducible apply xa_v | with_reducible apply xa_o | with_reducible apply xa_p | with_reducible apply xa_sc | with_reducible apply x_tup | with_reducible apply x_lst | with_reducible apply x_bin | with_reducible apply x_cmp | with_reducible apply x_ix | with_reducible apply x_isi | with_reducible apply x_bf | with_reducible apply x_neg | with_reducible apply x_nt | with_reducible apply x_chain | with_reducible apply x_cut | with_reducible exact xb_n | with_reducible apply xb_s | with_reducible apply x_sc | with_reducible apply x_call | rfl)) hp (by omega) (by simp) (by decide)
      refine ⟨d1, o1, e1, ?_, p1⟩
      simp only [List.mem_cons, List.mem_nil_iff, or_false] at m1
      rcases m1 with rfl | rfl | rfl | rfl | rfl <;> exact ⟨_, rfl, by decide, by decide⟩) hp (by omega) (by omega)
  obtain ⟨as, rfl, pa⟩ := ints_of pv
  have la : as.length = m.toNat := by
    rw [← hrl, ← l1, List.length_map]
  have e2 : ∃ ls : List Int, ls.length = m.toNat ∧ (∀ a ∈ ls, 1 ≤ a ∧ a ≤ 3) ∧ ev Φ (.lc [("_law_k", 6)] (.nm 6) (.rng (es [.v 1])) .n (.ix (.pk 2) (.bin .Mod (.bf .int (es [.bin .Add (.pk 6) (.c (.int 1))])) (.pk 1)))) [.ow o1, .sh (.int m), .ow (.l (as.map .int)), .un, .un, .un, .un, .un, .un, .un, .un, .un] = .ok (.list (ls.map .int)) [.ow o1, .sh (.int m), .ow (.l (as.map .int)), .un, .un, .un, .un, .un, .un, .un, .un, .un] := by
    have hx : ∀ d ∈ rngL 0 m, ∃ a : Int, ixD (.list (as.map .int)) (.int ((intOf d + 1) % m)) = some (.int a) ∧ 1 ≤ a ∧ a ≤ 3 := fun d hd => by
      have q1 : 0 ≤ (intOf d + 1) % m := Int.emod_nonneg _ (by omega)
      have q2 : (intOf d + 1) % m < m := Int.emod_lt_of_pos _ (by omega)
      exact ix_ints q1 (by omega) pa
    have hc := x_lc (Φ := Φ) (x := "_law_k") (i := 6) (it := .rng (es [.v 1])) (c := .n) (elt := .ix (.pk 2) (.bin .Mod (.bf .int (es [.bin .Add (.pk 6) (.c (.int 1))])) (.pk 1))) (s := [.ow o1, .sh (.int m), .ow (.l (as.map .int)), .un, .un, .un, .un, .un, .un, .un, .un, .un]) (items := rngL 0 m) (p := fun _ => true) (F := fun d => (ixD (.list (as.map .int)) (.int ((intOf d + 1) % m))).getD .none) (y := .un)
      (rng_it (x_v rfl) hR) rfl rfl (fun d hd => ⟨rfl, fun _ => by
        obtain ⟨k, rfl, _⟩ := mem_rng hd
        obtain ⟨a, ea, _⟩ := hx _ hd
        have ea' : ixD (.list (as.map .int)) (.int (((k : Int) + 1) % m)) = some (.int a) := ea
        have eg : ((ixD (.list (as.map .int)) (.int ((intOf (.int (k : Int)) + 1) % m))).getD .none) = .int a := by rw [ea]; rfl
        show ev Φ _ [.ow o1, .sh (.int m), .ow (.l (as.map .int)), .un, .un, .un, .sh (.int (k : Int)), .un, .un, .un, .un, .un] = .ok _ [.ow o1, .sh (.int m), .ow (.l (as.map .int)), .un, .un, .un, .sh (.int (k : Int)), .un, .un, .un, .un, .un]
        rw [eg]
        (repeat' first | exact modI (by omega) | exact ea' | with_reducible apply x_c | with_reducible apply x_v | with_reducible apply o_pk | with_reducible apply o_e | with_reducible exact xs_nil | with_reducible exact xo_nil | with_reducible exact xa_nil | with_reducible apply xs_cons | with_reducible apply xo_cons | with_reducible apply xa_v | with_reducible apply xa_o | with_reducible apply xa_p | with_reducible apply xa_sc | with_reducible apply x_tup | with_reducible apply x_lst | with_reducible apply x_bin | with_reducible apply x_cmp | with_reducible apply x_ix | with_reducible apply x_isi | with_reducible apply x_bf | with_reducible apply x_neg | with_reducible apply x_nt | with_reducible apply x_chain | with_reducible apply x_cut | with_reducible exact xb_n | with_reducible apply xb_s | with_reducible apply x_sc | with_reducible apply x_call | rfl)⟩) (by omega)
    rw [List.filter_eq_self.mpr (fun _ _ => rfl)] at hc
    obtain ⟨ls, els, pls⟩ := ints_of (P := fun i => 1 ≤ i ∧ i ≤ 3) (vs := (rngL 0 m).map fun d => (ixD (.list (as.map .int)) (.int ((intOf d + 1) % m))).getD .none) (fun v hv => by
      obtain ⟨d, hd, rfl⟩ := List.mem_map.mp hv
      obtain ⟨a, ea, q⟩ := hx d hd
      exact ⟨a, by rw [ea]; rfl, q⟩)
    refine ⟨ls, ?_, pls, ?_⟩
    · have := congrArg List.length els
      rw [List.length_map, List.length_map] at this
      omega
    · rw [hc, els]
  obtain ⟨ls, ll, pl, e2⟩ := e2
  obtain ⟨b, o2, e3, b0, b1, p2⟩ := take_call (Φ := Φ) h13 (e := .c (.int 3)) (m := 3) (t := [.sh (.int m), .ow (.l (as.map .int)), .ow (.l (ls.map .int)), .un, .un, .un, .un, .un, .un, .un, .un]) (fun o => by (repeat' first | with_reducible apply x_c | with_reducible apply x_v | with_reducible apply o_pk | with_reducible apply o_e | with_reducible exact xs_nil | with_reducible exact xo_nil | with_reducible exact xa_nil | with_reducible apply xs_cons | with_reducible apply xo_cons | with_reducible apply xa_v | with_reducible apply xa_o | with_reducible apply xa_p | with_reducible apply xa_sc | with_reducible apply x_tup | with_reducible apply x_lst | with_reducible apply x_bin | with_reducible apply x_cmp | with_reducible apply x_ix | with_reducible apply x_isi | with_reducible apply x_bf | with_reducible apply x_neg | with_reducible apply x_nt | with_reducible apply x_chain | with_reducible apply x_cut | with_reducible exact xb_n | with_reducible apply xb_s | with_reducible apply x_sc | with_reducible apply x_call | rfl)) p1 (by omega) (by decide) (by decide)
  obtain ⟨a0, ea0, a01, a03⟩ := ix_ints (k := 0) (by decide) (by omega) pa
  obtain ⟨l0, el0, l01, l03⟩ := ix_ints (k := 0) (by decide) (by omega) pl
  have eqb : ∀ j : Int, cop .Eq (.int b) (.int j) = some (decide (b = j)) := fun j => by
    show some (b == j) = _
    rw [Bool.beq_eq_decide_eq]
  obtain ⟨fs, o3, y6, y7, y8, y9, y10, y11, e4, lf, pf, p3⟩ := ring_loop (Φ := Φ) (W := W) h13 h15 (m := m) (as := as.set 0 (a0 + if decide (b = 1) = true then 1 else 0)) (ls := ls.set 0 (l0 + if decide (b = 2) = true then 1 else 0)) (bend := .int b) hm hm4 (by rw [List.length_set, la]) (by rw [List.length_set, ll])
    (set_P (fun a ha => ⟨(pa a ha).1, by have := (pa a ha).2; omega⟩) (by split <;> omega)) (set_P (fun a ha => ⟨(pl a ha).1, by have := (pl a ha).2; omega⟩) (by split <;> omega)) (rngL 0 m) (n + (rngL 0 m).length + 1) o2 [] .un .un .un .un .un .un (fun d hd => mem_rng hd) p2 (by omega) (by simp only [List.length_nil]; omega) (fun l hl => by cases hl)
  refine ⟨fs, o3, _, run_rt (f := f18) (args := [.ow o, .sh (.int m)]) (s0 := [.ow o, .sh (.int m), .un, .un, .un, .un, .un, .un, .un, .un, .un, .un])
    (s := [.ow o3, .sh (.int m), .ow (.l ((as.set 0 (a0 + if decide (b = 1) = true then 1 else 0)).map .int)), .ow (.l ((ls.set 0 (l0 + if decide (b = 2) = true then 1 else 0)).map .int)), .sh (.int b), .sh (.tuple fs), y6, y7, y8, y9, y10, y11]) rfl rfl ?_, lf, pf, PenOk.mono p3 (by omega)⟩
  refine s_asgO (xs := as.map .int) (s1 := [.ow o1, .sh (.int m), .un, .un, .un, .un, .un, .un, .un, .un, .un, .un]) e1 ?_
  refine s_asgO (xs := ls.map .int) (s1 := [.ow o1, .sh (.int m), .ow (.l (as.map .int)), .un, .un, .un, .un, .un, .un, .un, .un, .un]) e2 ?_
  refine s_asg (d := .int b) (s1 := [.ow o2, .sh (.int m), .ow (.l (as.map .int)), .ow (.l (ls.map .int)), .un, .un, .un, .un, .un, .un, .un, .un]) e3 ?_
  refine s_setI (d := .int (a0 + if decide (b = 1) = true then 1 else 0)) (kd := .int 0) (s1 := [.ow o2, .sh (.int m), .ow (.l (as.map .int)), .ow (.l (ls.map .int)), .sh (.int b), .un, .un, .un, .un, .un, .un, .un]) (s2 := [.ow o2, .sh (.int m), .ow (.l (as.map .int)), .ow (.l (ls.map .int)), .sh (.int b), .un, .un, .un, .un, .un, .un, .un]) (o := .l (as.map .int)) ?_ rfl ?_ rfl (set0 (by omega)) ?_
  · show ev Φ _ [.ow o2, .sh (.int m), .ow (.l (as.map .int)), .ow (.l (ls.map .int)), .sh (.int b), .un, .un, .un, .un, .un, .un, .un] = _
    (repeat' first | exact ea0 | exact eqb 1 | with_reducible apply x_c | with_reducible apply x_v | with_reducible apply o_pk | with_reducible apply o_e | with_reducible exact xs_nil | with_reducible exact xo_nil | with_reducible exact xa_nil | with_reducible apply xs_cons | with_reducible apply xo_cons | with_reducible apply xa_v | with_reducible apply xa_o | with_reducible apply xa_p | with_reducible apply xa_sc | with_reducible apply x_tup | with_reducible apply x_lst | with_reducible apply x_bin | with_reducible apply x_cmp | with_reducible apply x_ix | with_reducible apply x_isi | with_reducible apply x_bf | with_reducible apply x_neg | with_reducible apply x_nt | with_reducible apply x_chain | with_reducible apply x_cut | with_reducible exact xb_n | with_reducible apply xb_s | with_reducible apply x_sc | with_reducible apply x_call | rfl)
  · (repeat' first | with_reducible apply x_c | with_reducible apply x_v | with_reducible apply o_pk | with_reducible apply o_e | with_reducible exact xs_nil | with_reducible exact xo_nil | with_reducible exact xa_nil | with_reducible apply xs_cons | with_reducible apply xo_cons | with_reducible apply xa_v | with_reducible apply xa_o | with_reducible apply xa_p | with_reducible apply xa_sc | with_reducible apply x_tup | with_reducible apply x_lst | with_reducible apply x_bin | with_reducible apply x_cmp | with_reducible apply x_ix | with_reducible apply x_isi | with_reducible apply x_bf | with_reducible apply x_neg | with_reducible apply x_nt | with_reducible apply x_chain | with_reducible apply x_cut | with_reducible exact xb_n | with_reducible apply xb_s | with_reducible apply x_sc | with_reducible apply x_call | rfl)
  refine s_setI (d := .int (l0 + if decide (b = 2) = true then 1 else 0)) (kd := .int 0) (s1 := [.ow o2, .sh (.int m), .ow (.l ((as.set 0 (a0 + if decide (b = 1) = true then 1 else 0)).map .int)), .ow (.l (ls.map .int)), .sh (.int b), .un, .un, .un, .un, .un, .un, .un]) (s2 := [.ow o2, .sh (.int m), .ow (.l ((as.set 0 (a0 + if decide (b = 1) = true then 1 else 0)).map .int)), .ow (.l (ls.map .int)), .sh (.int b), .un, .un, .un, .un, .un, .un, .un]) (o := .l (ls.map .int)) ?_ rfl ?_ rfl (set0 (by omega)) ?_
  · show ev Φ _ [.ow o2, .sh (.int m), .ow (.l ((as.set 0 (a0 + if decide (b = 1) = true then 1 else 0)).map .int)), .ow (.l (ls.map .int)), .sh (.int b), .un, .un, .un, .un, .un, .un, .un] = _
    (repeat' first | exact el0 | exact eqb 2 | with_reducible apply x_c | with_reducible apply x_v | with_reducible apply o_pk | with_reducible apply o_e | with_reducible exact xs_nil | with_reducible exact xo_nil | with_reducible exact xa_nil | with_reducible apply xs_cons | with_reducible apply xo_cons | with_reducible apply xa_v | with_reducible apply xa_o | with_reducible apply xa_p | with_reducible apply xa_sc | with_reducible apply x_tup | with_reducible apply x_lst | with_reducible apply x_bin | with_reducible apply x_cmp | with_reducible apply x_ix | with_reducible apply x_isi | with_reducible apply x_bf | with_reducible apply x_neg | with_reducible apply x_nt | with_reducible apply x_chain | with_reducible apply x_cut | with_reducible exact xb_n | with_reducible apply xb_s | with_reducible apply x_sc | with_reducible apply x_call | rfl)
  · (repeat' first | with_reducible apply x_c | with_reducible apply x_v | with_reducible apply o_pk | with_reducible apply o_e | with_reducible exact xs_nil | with_reducible exact xo_nil | with_reducible exact xa_nil | with_reducible apply xs_cons | with_reducible apply xo_cons | with_reducible apply xa_v | with_reducible apply xa_o | with_reducible apply xa_p | with_reducible apply xa_sc | with_reducible apply x_tup | with_reducible apply x_lst | with_reducible apply x_bin | with_reducible apply x_cmp | with_reducible apply x_ix | with_reducible apply x_isi | with_reducible apply x_bf | with_reducible apply x_neg | with_reducible apply x_nt | with_reducible apply x_chain | with_reducible apply x_cut | with_reducible exact xb_n | with_reducible apply xb_s | with_reducible apply x_sc | with_reducible apply x_call | rfl)
  refine s_asg (d := .tuple []) (s1 := [.ow o2, .sh (.int m), .ow (.l ((as.set 0 (a0 + if decide (b = 1) = true then 1 else 0)).map .int)), .ow (.l ((ls.set 0 (l0 + if decide (b = 2) = true then 1 else 0)).map .int)), .sh (.int b), .un, .un, .un, .un, .un, .un, .un]) ?_ ?_
  · show ev Φ _ [.ow o2, .sh (.int m), .ow (.l ((as.set 0 (a0 + if decide (b = 1) = true then 1 else 0)).map .int)), .ow (.l ((ls.set 0 (l0 + if decide (b = 2) = true then 1 else 0)).map .int)), .sh (.int b), .un, .un, .un, .un, .un, .un, .un] = _
    (repeat' first | with_reducible apply x_c | with_reducible apply x_v | with_reducible apply o_pk | with_reducible apply o_e | with_reducible exact xs_nil | with_reducible exact xo_nil | with_reducible exact xa_nil | with_reducible apply xs_cons | with_reducible apply xo_cons | with_reducible apply xa_v | with_reducible apply xa_o | with_reducible apply xa_p | with_reducible apply xa_sc | with_reducible apply x_tup | with_reducible apply x_lst | with_reducible apply x_bin | with_reducible apply x_cmp | with_reducible apply x_ix | with_reducible apply x_isi | with_reducible apply x_bf | with_reducible apply x_neg | with_reducible apply x_nt | with_reducible apply x_chain | with_reducible apply x_cut | with_reducible exact xb_n | with_reducible apply xb_s | with_reducible apply x_sc | with_reducible apply x_call | rfl)
  refine s_for (items := rngL 0 m) (s1 := [.ow o2, .sh (.int m), .ow (.l ((as.set 0 (a0 + if decide (b = 1) = true then 1 else 0)).map .int)), .ow (.l ((ls.set 0 (l0 + if decide (b = 2) = true then 1 else 0)).map .int)), .sh (.int b), .sh (.tuple []), .un, .un, .un, .un, .un, .un]) (rng_it (x_v rfl) hR) ?_
  refine (congrArg (fun z => thenF z _) e4).trans ?_
  show thenF (.nx _) _ = _
  rw [thenF_nx]
  exact s_ret (x_v rfl)
theorem seq1 {a : L3.S} {q : Ss} {s : Sls} : sts Φ W (.cons a q) s = thenF (sts Φ W (ss [a]) s) (sts Φ W q) := by
  simp only [sts]
  cases st Φ W a s <;> rfl
/-! ### schemes drawn -/
def SchemeG (φ : Sem1) : Prop := ∀ (n : Nat) (o : Ob), PenOk n o → n + 68 < 2 ^ 20 → ∃ (m : Int) (ls : List D) (o1 : Ob), φ [.ow o] = some (.tuple [.int m, .tuple ls], [.ow o1]) ∧ Gd 60 5 (.tuple [.int m, .tuple ls]) ∧ scheme (.tuple [.int m, .tuple ls]) = true ∧ PenOk (n + 68) o1
def schB : Ss := ss [.ite (.and (.cmp .Gt (.pk 1) (.c (.int 1))) (.cmp .Lt (.bf .len (es [.pk 2])) (.c (.int 6)))) (ss [.asg 2 (.bin .Add (.pk 2) (.tup (es [.call 17 false (.o 0 (.v (.v 1) .nil))])))]) (ss [])]
theorem sch_loop (h17 : LinkG (Φ 17)) {m : Int} (m1 : 1 ≤ m) (m4 : m ≤ 4) : ∀ (rest : List D) (n : Nat) (o : Ob) (fs : List D) (z : Sl), PenOk n o → n + 8 * rest.length < 2 ^ 20 → fs.length ≤ 6 → (∀ l ∈ fs, link m l = true ∧ Gd 8 2 l) → (∀ d ∈ rest, ∃ k : Nat, d = .int k) →
    ∃ (fs1 : List D) (o1 : Ob) (y : Sl), forL (turnF Φ W (.nm 3) schB) rest [.ow o, .sh (.int m), .sh (.tuple fs), z] = .nx [.ow o1, .sh (.int m), .sh (.tuple fs1), y] ∧ fs1.length ≤ 6 ∧ (∀ l ∈ fs1, link m l = true ∧ Gd 8 2 l) ∧ PenOk (n + 8 * rest.length) o1
  | [], n, o, fs, z, hp, _, hf, pf, _ => ⟨fs, o, z, rfl, hf, pf, hp⟩
  | d :: rest, n, o, fs, z, hp, hn, hf, pf, hr => by
    simp only [List.length_cons] at hn
    have step : ∃ (fs1 : List D) (o1 : Ob), sts Φ W schB [.ow o, .sh (.int m), .sh (.tuple fs), .sh d] = .nx [.ow o1, .sh (.int m), .sh (.tuple fs1), .sh d] ∧ fs1.length ≤ 6 ∧ (∀ l ∈ fs1, link m l = true ∧ Gd 8 2 l) ∧ PenOk (n + 8) o1 := by
      have c1 : ev Φ (.cmp .Gt (.pk 1) (.c (.int 1))) [.ow o, .sh (.int m), .sh (.tuple fs), .sh d] = .ok (.bool (decide (1 < m))) [.ow o, .sh (.int m), .sh (.tuple fs), .sh d] := by
        (repeat' first | with_reducible apply x_c | with_reducible apply x_v | with_reducible apply o_pk | with_reducible apply o_e | with_reducible exact xs_nil | with_reducible exact xo_nil | with_reducible exact xa_nil | with_reducible apply xs_cons | with_reducible apply xo_cons | with_reducible apply xa_v | with_reducible apply xa_o | with_reducible apply xa_p | with_reducible apply xa_sc | with_reducible apply x_tup | with_reducible apply x_lst | with_reducible apply x_bin | with_reducible apply x_cmp | with_reducible apply x_ix | with_reducible apply x_isi | with_reducible apply x_bf | with_reducible apply x_neg | with_reducible apply x_nt | with_reducible apply x_chain | with_reducible apply x_cut | with_reducible exact xb_n | with_reducible apply xb_s | with_reducible apply x_sc | with_reducible apply x_call | rfl)
      have c2 : ev Φ (.cmp .Lt (.bf .len (es [.pk 2])) (.c (.int 6))) [.ow o, .sh (.int m), .sh (.tuple fs), .sh d] = .ok (.bool (decide ((fs.length : Int) < 6))) [.ow o, .sh (.int m), .sh (.tuple fs), .sh d] := by
        (repeat' first | with_reducible apply x_c | with_reducible apply x_v | with_reducible apply o_pk | with_reducible apply o_e | with_reducible exact xs_nil | with_reducible exact xo_nil | with_reducible exact xa_nil | with_reducible apply xs_cons | with_reducible apply xo_cons | with_reducible apply xa_v | with_reducible apply xa_o | with_reducible apply xa_p | with_reducible apply xa_sc | with_reducible apply x_tup | with_reducible apply x_lst | with_reducible apply x_bin | with_reducible apply x_cmp | with_reducible apply x_ix | with_reducible apply x_isi | with_reducible apply x_bf | with_reducible apply x_neg | with_reducible apply x_nt | with_reducible apply x_chain | with_reducible apply x_cut | with_reducible exact xb_n | with_reducible apply xb_s | with_reducible apply x_sc | with_reducible apply x_call | rfl)
      by_cases hm : 1 < m
      · rw [decide_eq_true hm] at c1
        by_cases hl : (fs.length : Int) < 6
        · rw [decide_eq_true hl] at c2
          obtain ⟨l, o1, x, e1, lk, gl, p1⟩ := h17 n o m hp (by omega) (by omega) m4
          refine ⟨fs ++ [l], o1, s_ifT (x_andT c1 rfl c2) rfl ?_, by simp only [List.length_append, List.length_singleton]; omega, fun y hy => ?_, p1⟩
          · have hb : bop .Add (.tuple fs) (.tuple [l]) = some (.tuple (fs ++ [l])) := by
              show (if fitN (fs.length + [l].length) then some (PyData.tuple (fs ++ [l])) else none) = _
              rw [if_pos]
              simp only [fitN, decide_eq_true_eq, Line, List.length_singleton]
              omega
            have hx : sts Φ W (ss [.asg 2 (.bin .Add (.pk 2) (.tup (es [.call 17 false (.o 0 (.v (.v 1) .nil))])))]) [.ow o, .sh (.int m), .sh (.tuple fs), .sh d] = .nx [.ow o1, .sh (.int m), .sh (.tuple (fs ++ [l])), .sh d] := by
              refine s_asg (d := .tuple (fs ++ [l])) (s1 := [.ow o1, .sh (.int m), .sh (.tuple fs), .sh d]) ?_ rfl
              (repeat' first | exact do_ok rfl rfl e1 rfl rfl | exact hb | with_reducible apply x_c | with_reducible apply x_v | with_reducible apply o_pk | with_reducible apply o_e | with_reducible exact xs_nil | with_reducible exact xo_nil | with_reducible exact xa_nil | with_reducible apply xs_cons | with_reducible apply xo_cons | with_reducible apply xa_v | with_reducible apply xa_o | with_reducible apply xa_p | with_reducible apply xa_sc | with_reducible apply x_tup | with_reducible apply x_lst | with_reducible apply x_bin | with_reducible apply x_cmp | with_reducible apply x_ix | with_reducible apply x_isi | with_reducible apply x_bf | with_reducible apply x_neg | with_reducible apply x_nt | with_reducible apply x_chain | with_reducible apply x_cut | with_reducible exact xb_n | with_reducible apply xb_s | with_reducible apply x_sc | with_reducible apply x_call | rfl)
            rw [hx, thenF_nx]
            rfl
          · rcases List.mem_append.mp hy with h | h
            · exact pf y h
            · simp only [List.mem_singleton] at h
              subst h
              exact ⟨lk, gl⟩
        · rw [decide_eq_false hl] at c2
          exact ⟨fs, o, s_ifF (x_andT c1 rfl c2) rfl rfl, hf, pf, PenOk.mono hp (by omega)⟩
      · rw [decide_eq_false hm] at c1
        exact ⟨fs, o, s_ifF (x_andF c1 rfl) rfl rfl, hf, pf, PenOk.mono hp (by omega)⟩
    obtain ⟨fs1, o1, e1, l1, pf1, p1⟩ := step
    obtain ⟨fs2, o2, y, e2, l2, pf2, p2⟩ := sch_loop h17 m1 m4 rest (n + 8) o1 fs1 (.sh d) p1 (by omega) l1 pf1 (fun d hd => hr d (List.mem_cons_of_mem _ hd))
    refine ⟨fs2, o2, y, (forL_cons (turn_nx rfl e1)).trans e2, l2, pf2, ?_⟩
    simp only [List.length_cons]
    rw [show n + 8 * (rest.length + 1) = n + 8 + 8 * rest.length by omega]
    exact p2
theorem gd_links {c : Nat} : ∀ {fs : List D}, (∀ l ∈ fs, Gd 8 2 l) → GdL (9 * fs.length) 2 fs
  | [], _ => GdL.nil
  | l :: r, h => (GdL.cons (h l List.mem_cons_self) (gd_links (c := c) fun x hx => h x (List.mem_cons_of_mem _ hx))).mono (by simp only [List.length_cons]; omega) (Nat.le_refl _)
theorem schemeG (h13 : TakeS (Φ 13)) (h15 : OneS (Φ 15)) (h17 : LinkG (Φ 17)) (h18 : RingG (Φ 18)) : SchemeG (runDef Φ W f19) := fun n o hp hn => by
  obtain ⟨d1, o1, e1, m1, p1⟩ := pick_call (Φ := Φ) h15 (e := .lst (es [.c (.int 1), .c (.int 2), .c (.int 2), .c (.int 2), .c (.int 3), .c (.int 3), .c (.int 3), .c (.int 4)])) (xs := [.int 1, .int 2, .int 2, .int 2, .int 3, .int 3, .int 3, .int 4]) (t := [.un, .un, .un]) (fun o => by (repeat' first | with_reducible apply x_c | with_reducible apply x_v | with_reducible apply o_pk | with_reducible apply o_e | with_reducible exact xs_nil | with_reducible exact xo_nil | with_reducible exact xa_nil | with_reducible apply xs_cons | with_reducible apply xo_cons | with_reducible apply xa_v | with_reducible apply xa_o | with_reducible apply xa_p | with_reducible apply xa_sc | with_reducible apply x_tup | with_reducible apply x_lst | with_reducible apply x_bin | with_reducible apply x_cmp | with_reducible apply x_ix | with_reducible apply x_isi | with_reducible apply x_bf | with_reducible apply x_neg | with_reducible apply x_nt | with_reducible apply x_chain | with_reducible apply x_cut | with_reducible exact xb_n | with_reducible apply xb_s | with_reducible apply x_sc | with_reducible apply x_call | rfl)) hp (by omega) (by simp) (by decide)
  obtain ⟨m, rfl, hm1, hm4⟩ : ∃ i : Int, d1 = .int i ∧ 1 ≤ i ∧ i ≤ 4 := by
    simp only [List.mem_cons, List.mem_nil_iff, or_false] at m1
    rcases m1 with rfl | rfl | rfl | rfl | rfl | rfl | rfl | rfl <;> exact ⟨_, rfl, by decide, by decide⟩
  have mid : ∃ (fs : List D) (o2 : Ob), (∀ q, thenF (sts Φ W (ss [.ite (.and (.cmp .Gt (.pk 1) (.c (.int 1))) (.cmp .Eq (.call 13 false (.o 0 (.v (.c (.int 2)) .nil))) (.c (.int 0)))) (ss [.asg 2 (.call 18 false (.o 0 (.v (.v 1) .nil)))]) (ss [])]) [.ow o1, .sh (.int m), .sh (.tuple []), .un]) (sts Φ W q) = sts Φ W q [.ow o2, .sh (.int m), .sh (.tuple fs), .un]) ∧ fs.length ≤ 6 ∧ (∀ l ∈ fs, link m l = true ∧ Gd 8 2 l) ∧ PenOk (n + 19) o2 := by
    have c1 : ev Φ (.cmp .Gt (.pk 1) (.c (.int 1))) [.ow o1, .sh (.int m), .sh (.tuple []), .un] = .ok (.bool (decide (1 < m))) [.ow o1, .sh (.int m), .sh (.tuple []), .un] := by
      (repeat' first | with_reducible apply x_c | with_reducible apply x_v | with_reducible apply o_pk | with_reducible apply o_e | with_reducible exact xs_nil | with_reducible exact xo_nil | with_reducible exact xa_nil | with_reducible apply xs_cons | with_reducible apply xo_cons | with_reducible apply xa_v | with_reducible apply xa_o | with_reducible apply xa_p | with_reducible apply xa_sc | with_reducible apply x_tup | with_reducible apply x_lst | with_reducible apply x_bin | with_reducible apply x_cmp | with_reducible apply x_ix | with_reducible apply x_isi | with_reducible apply x_bf | with_reducible apply x_neg | with_reducible apply x_nt | with_reducible apply x_chain | with_reducible apply x_cut | with_reducible exact xb_n | with_reducible apply xb_s | with_reducible apply x_sc | with_reducible apply x_call | rfl)
    by_cases hm : 1 < m
    · rw [decide_eq_true hm] at c1
      obtain ⟨r, o2, e2, r0, r1, p2⟩ := take_call (Φ := Φ) h13 (e := .c (.int 2)) (m := 2) (t := [.sh (.int m), .sh (.tuple []), .un]) (fun o => by (repeat' first | with_reducible apply x_c | with_reducible apply x_v | with_reducible apply o_pk | with_reducible apply o_e | with_reducible exact xs_nil | with_reducible exact xo_nil | with_reducible exact xa_nil | with_reducible apply xs_cons | with_reducible apply xo_cons | with_reducible apply xa_v | with_reducible apply xa_o | with_reducible apply xa_p | with_reducible apply xa_sc | with_reducible apply x_tup | with_reducible apply x_lst | with_reducible apply x_bin | with_reducible apply x_cmp | with_reducible apply x_ix | with_reducible apply x_isi | with_reducible apply x_bf | with_reducible apply x_neg | with_reducible apply x_nt | with_reducible apply x_chain | with_reducible apply x_cut | with_reducible exact xb_n | with_reducible apply xb_s | with_reducible apply x_sc | with_reducible apply x_call | rfl)) p1 (by omega) (by decide) (by decide)
      have eqr : cop .Eq (.int r) (.int 0) = some (decide (r = 0)) := by
        show some (r == 0) = _
        rw [Bool.beq_eq_decide_eq]
      have c2 : ev Φ (.cmp .Eq (.call 13 false (.o 0 (.v (.c (.int 2)) .nil))) (.c (.int 0))) [.ow o1, .sh (.int m), .sh (.tuple []), .un] = .ok (.bool (decide (r = 0))) [.ow o2, .sh (.int m), .sh (.tuple []), .un] := by
        (repeat' first | with_reducible exact e2 | exact eqr | with_reducible apply x_c | with_reducible apply x_v | with_reducible apply o_pk | with_reducible apply o_e | with_reducible exact xs_nil | with_reducible exact xo_nil | with_reducible exact xa_nil | with_reducible apply xs_cons | with_reducible apply xo_cons | with_reducible apply xa_v | with_reducible apply xa_o | with_reducible apply xa_p | with_reducible apply xa_sc | with_reducible apply x_tup | with_reducible apply x_lst | with_reducible apply x_bin | with_reducible apply x_cmp | with_reducible apply x_ix | with_reducible apply x_isi | with_reducible apply x_bf | with_reducible apply x_neg | with_reducible apply x_nt | with_reducible apply x_chain | with_reducible apply x_cut | with_reducible exact xb_n | with_reducible apply xb_s | with_reducible apply x_sc | with_reducible apply x_call | rfl)
      by_cases hr : r = 0
      · rw [decide_eq_true hr] at c2
        obtain ⟨fs, o3, x, e3, l3, pf, p3⟩ := h18 (n + 2) o2 m p2 (by omega) (by omega) hm4
        refine ⟨fs, o3, fun q => ?_, by omega, pf, p3⟩
        have hx : sts Φ W (ss [.asg 2 (.call 18 false (.o 0 (.v (.v 1) .nil)))]) [.ow o2, .sh (.int m), .sh (.tuple []), .un] = .nx [.ow o3, .sh (.int m), .sh (.tuple fs), .un] := by
          refine s_asg (d := .tuple fs) (s1 := [.ow o3, .sh (.int m), .sh (.tuple []), .un]) ?_ rfl
          (repeat' first | exact do_ok rfl rfl e3 rfl rfl | with_reducible apply x_c | with_reducible apply x_v | with_reducible apply o_pk | with_reducible apply o_e | with_reducible exact xs_nil | with_reducible exact xo_nil | with_reducible exact xa_nil | with_reducible apply xs_cons | with_reducible apply xo_cons | with_reducible apply xa_v | with_reducible apply xa_o | with_reducible apply xa_p | with_reducible apply xa_sc | with_reducible apply x_tup | with_reducible apply x_lst | with_reducible apply x_bin | with_reducible apply x_cmp | with_reducible apply x_ix | with_reducible apply x_isi | with_reducible apply x_bf | with_reducible apply x_neg | with_reducible apply x_nt | with_reducible apply x_chain | with_reducible apply x_cut | with_reducible exact xb_n | with_reducible apply xb_s | with_reducible apply x_sc | with_reducible apply x_call | rfl)
        have hy : sts Φ W (ss [.ite (.and (.cmp .Gt (.pk 1) (.c (.int 1))) (.cmp .Eq (.call 13 false (.o 0 (.v (.c (.int 2)) .nil))) (.c (.int 0)))) (ss [.asg 2 (.call 18 false (.o 0 (.v (.v 1) .nil)))]) (ss [])]) [.ow o1, .sh (.int m), .sh (.tuple []), .un] = .nx [.ow o3, .sh (.int m), .sh (.tuple fs), .un] := by
          refine s_ifT (x_andT c1 rfl c2) rfl ?_
          rw [hx, thenF_nx]
          rfl
        rw [hy, thenF_nx]
      · rw [decide_eq_false hr] at c2
        refine ⟨[], o2, fun q => ?_, by decide, (by intro l hl; cases hl), PenOk.mono p2 (by omega)⟩
        have hy : sts Φ W (ss [.ite (.and (.cmp .Gt (.pk 1) (.c (.int 1))) (.cmp .Eq (.call 13 false (.o 0 (.v (.c (.int 2)) .nil))) (.c (.int 0)))) (ss [.asg 2 (.call 18 false (.o 0 (.v (.v 1) .nil)))]) (ss [])]) [.ow o1, .sh (.int m), .sh (.tuple []), .un] = .nx [.ow o2, .sh (.int m), .sh (.tuple []), .un] := s_ifF (x_andT c1 rfl c2) rfl rfl
        rw [hy, thenF_nx]
    · rw [decide_eq_false hm] at c1
      refine ⟨[], o1, fun q => ?_, by decide, (by intro l hl; cases hl), PenOk.mono p1 (by omega)⟩
      have hy : sts Φ W (ss [.ite (.and (.cmp .Gt (.pk 1) (.c (.int 1))) (.cmp .Eq (.call 13 false (.o 0 (.v (.c (.int 2)) .nil))) (.c (.int 0)))) (ss [.asg 2 (.call 18 false (.o 0 (.v (.v 1) .nil)))]) (ss [])]) [.ow o1, .sh (.int m), .sh (.tuple []), .un] = .nx [.ow o1, .sh (.int m), .sh (.tuple []), .un] := s_ifF (x_andF c1 rfl) rfl rfl
      rw [hy, thenF_nx]
  obtain ⟨fs, o2, em, lf, pf, p2⟩ := mid
  obtain ⟨d3, o3, e3, m3, p3⟩ := pick_call (Φ := Φ) h15 (e := .lst (es [.c (.int 0), .c (.int 0), .c (.int 1), .c (.int 2), .c (.int 6)])) (xs := [.int 0, .int 0, .int 1, .int 2, .int 6]) (t := [.sh (.int m), .sh (.tuple fs), .un]) (fun o => by (repeat' first | with_reducible apply x_c | with_reducible apply x_v | with_reducible apply o_pk | with_reducible apply o_e | with_reducible exact xs_nil | with_reducible exact xo_nil | with_reducible exact xa_nil | with_reducible apply xs_cons | with_reducible apply xo_cons | with_reducible apply xa_v | with_reducible apply xa_o | with_reducible apply xa_p | with_reducible apply xa_sc | with_reducible apply x_tup | with_reducible apply x_lst | with_reducible apply x_bin | with_reducible apply x_cmp | with_reducible apply x_ix | with_reducible apply x_isi | with_reducible apply x_bf | with_reducible apply x_neg | with_reducible apply x_nt | with_reducible apply x_chain | with_reducible apply x_cut | with_reducible exact xb_n | with_reducible apply xb_s | with_reducible apply x_sc | with_reducible apply x_call | rfl)) p2 (by omega) (by simp) (by decide)
  obtain ⟨c, rfl, hc0, hc6⟩ : ∃ i : Int, d3 = .int i ∧ 0 ≤ i ∧ i ≤ 6 := by
    simp only [List.mem_cons, List.mem_nil_iff, or_false] at m3
    rcases m3 with rfl | rfl | rfl | rfl | rfl <;> exact ⟨_, rfl, by decide, by decide⟩
  have hcl : (rngL 0 c).length = c.toNat := rng_len' hc0
  obtain ⟨ls, o4, y, e4, l4, pl, p4⟩ := sch_loop (Φ := Φ) (W := W) h17 hm1 hm4 (rngL 0 c) (n + 20) o3 fs .un p3 (by omega) lf pf (fun d hd => (mem_rng hd).elim fun k hk => ⟨k, hk.1⟩)
  have g1 : GdL 54 2 ls := (gd_links (c := 0) fun l hl => (pl l hl).2).mono (by omega) (Nat.le_refl _)
  refine ⟨m, ls, o4, run_rt (f := f19) (args := [.ow o]) (s0 := [.ow o, .un, .un, .un]) (s := [.ow o4, .sh (.int m), .sh (.tuple ls), y]) rfl rfl ?_, ?_, ?_, PenOk.mono p4 (by omega)⟩
  · refine s_asg (s1 := [.ow o1, .un, .un, .un]) e1 (s_asg (d := .tuple []) (s1 := [.ow o1, .sh (.int m), .un, .un]) ?_ ?_)
    · show ev Φ _ [.ow o1, .sh (.int m), .un, .un] = _
      (repeat' first | with_reducible apply x_c | with_reducible apply x_v | with_reducible apply o_pk | with_reducible apply o_e | with_reducible exact xs_nil | with_reducible exact xo_nil | with_reducible exact xa_nil | with_reducible apply xs_cons | with_reducible apply xo_cons | with_reducible apply xa_v | with_reducible apply xa_o | with_reducible apply xa_p | with_reducible apply xa_sc | with_reducible apply x_tup | with_reducible apply x_lst | with_reducible apply x_bin | with_reducible apply x_cmp | with_reducible apply x_ix | with_reducible apply x_isi | with_reducible apply x_bf | with_reducible apply x_neg | with_reducible apply x_nt | with_reducible apply x_chain | with_reducible apply x_cut | with_reducible exact xb_n | with_reducible apply xb_s | with_reducible apply x_sc | with_reducible apply x_call | rfl)
    refine (seq1 (Φ := Φ) (W := W)).trans ((em _).trans ?_)
    refine s_for (items := rngL 0 c) (s1 := [.ow o3, .sh (.int m), .sh (.tuple fs), .un]) (rng_it e3 (decide_eq_true (by omega))) ?_
    refine (congrArg (fun z => thenF z _) e4).trans ?_
    show thenF (.nx _) _ = _
    rw [thenF_nx]
    refine s_ret ?_
    (repeat' first | with_reducible apply x_c | with_reducible apply x_v | with_reducible apply o_pk | with_reducible apply o_e | with_reducible exact xs_nil | with_reducible exact xo_nil | with_reducible exact xa_nil | with_reducible apply xs_cons | with_reducible apply xo_cons | with_reducible apply xa_v | with_reducible apply xa_o | with_reducible apply xa_p | with_reducible apply xa_sc | with_reducible apply x_tup | with_reducible apply x_lst | with_reducible apply x_bin | with_reducible apply x_cmp | with_reducible apply x_ix | with_reducible apply x_isi | with_reducible apply x_bf | with_reducible apply x_neg | with_reducible apply x_nt | with_reducible apply x_chain | with_reducible apply x_cut | with_reducible exact xb_n | with_reducible apply xb_s | with_reducible apply x_sc | with_reducible apply x_call | rfl)
  · exact (GdL.tup (GdL.cons ((gd_int (by omega)).mono (Nat.le_refl _) (by decide : 0 ≤ 4)) (GdL.cons ((GdL.tup g1).mono (Nat.le_refl _) (by decide : 3 ≤ 4)) (GdL.nil (n := 0))))).mono (by decide) (by decide)
  · simp only [scheme, whole, intOf, decide_eq_true hm1, decide_eq_true hm4, decide_eq_true l4, Bool.true_and, List.all_eq_true]
    exact fun l hl => (pl l hl).1
end K10

set_option Elab.async false
set_option linter.all false
set_option maxRecDepth 100000
set_option maxHeartbeats 4000000
/-! k10: bent values -/
namespace K10
open PySem PySem.Spec L2 L3
variable {Φ : Nat → Sem1} {W : Nat}
theorem sl_lo {xs : List D} {k : Nat} (h : k ≤ xs.length) : slD (.tuple xs) none (some (k : Int)) = some (.tuple (xs.take k)) := by
  show some (PyData.tuple (cutD xs none (some (k : Int)))) = _
  unfold cutD
  rw [HT.sIx_none, HT.sIx_nat, List.drop_zero, Nat.sub_zero, Nat.min_eq_left h]
theorem sl_hi {xs : List D} {k : Nat} (h : k ≤ xs.length) : slD (.tuple xs) (some (k : Int)) none = some (.tuple (xs.drop k)) := by
  show some (PyData.tuple (cutD xs (some (k : Int)) none)) = _
  unfold cutD
  rw [HT.sIx_none, HT.sIx_nat, Nat.min_eq_left h, List.take_of_length_le (by rw [List.length_drop]; exact Nat.le_refl _)]
theorem sl_one {xs : List D} {k : Nat} (h : k < xs.length) : slD (.tuple xs) (some (k : Int)) (some ((k + 1 : Nat) : Int)) = some (.tuple ((xs.drop k).take 1)) := by
  show some (PyData.tuple (cutD xs (some (k : Int)) (some ((k + 1 : Nat) : Int)))) = _
  unfold cutD
  rw [HT.sIx_nat, HT.sIx_nat, Nat.min_eq_left (show k ≤ xs.length by omega), Nat.min_eq_left (show k + 1 ≤ xs.length by omega), Nat.add_sub_cancel_left]
theorem add_tup {xs ys : List D} (h : xs.length + ys.length ≤ 100000) : bop .Add (.tuple xs) (.tuple ys) = some (.tuple (xs ++ ys)) := by
  show (if fitN (xs.length + ys.length) then some (PyData.tuple (xs ++ ys)) else none) = _
  rw [if_pos]
  simp only [fitN, decide_eq_true_eq, Line]
  omega
def odd17 : List D := [.none, .int 0, .int 1, .int 2, .int (-1), .int 5, .int 13, .bool true, .bool false, .str "0", .tuple [], .list [], .tuple [.int 0], .tuple [.int 0, .int 0], .tuple [.int 1, .int 0], .tuple [.int 0, .int 1], .list [.int 0, .int 1]]
def odd5 : List D := [.tuple [.int 0, .int 1, .tuple [.int 0, .int 1], .tuple [.int 0, .none]], .tuple [.tuple [.int 0, .int 0]], .int 60, .str "", .tuple [.none, .none]]
theorem odd_gd : GdL 100 3 (odd17 ++ odd5) := ⟨by decide +kernel, by decide +kernel, by decide +kernel⟩
def BentG (c : Nat) (φ : Sem1) : Prop := ∀ (n b : Nat) (o : Ob) (d : D), PenOk n o → n + 4 * (c + 1) < 2 ^ 20 → Gd b c d → b ≤ 1000 → ∃ (r : D) (o1 : Ob) (x : Sl), φ [.ow o, .sh d] = some (r, [.ow o1, x]) ∧ Gd (2 * b + 100) (c + 4) r ∧ PenOk (n + 4 * (c + 1)) o1
def bentC : E := .or (.nt (.isi (.pk 1) .tuple)) (.or (.cmp .Eq (.pk 1) (.tup (es []))) (.cmp .Eq (.call 13 false (.o 0 (.v (.c (.int 6)) .nil))) (.c (.int 0))))
def bentA : Ss := ss [.asg 2 (.lst (es [.c (.none), .c (.int 0), .c (.int 1), .c (.int 2), .neg (.c (.int 1)), .c (.int 5), .c (.int 13), .c (.bool true), .c (.bool false), .c (.str "0"), .tup (es []), .lst (es []), .tup (es [.c (.int 0)]), .tup (es [.c (.int 0), .c (.int 0)]), .tup (es [.c (.int 1), .c (.int 0)]), .tup (es [.c (.int 0), .c (.int 1)]), .lst (es [.c (.int 0), .c (.int 1)])])), .ret (.call 15 false (.o 0 (.v (.bin .Add (.pk 2) (.lst (es [.tup (es [.c (.int 0), .c (.int 1), .tup (es [.c (.int 0), .c (.int 1)]), .tup (es [.c (.int 0), .c (.none)])]), .tup (es [.tup (es [.c (.int 0), .c (.int 0)])]), .c (.int 60), .c (.str ""), .tup (es [.c (.none), .c (.none)])]))) .nil)))]
theorem bent_odd (h15 : OneS (Φ 15)) {n : Nat} {o : Ob} {d : D} (hp : PenOk n o) (hn : n < 2 ^ 20) : ∃ (r : D) (o1 : Ob), (∀ q, thenF (sts Φ W bentA [.ow o, .sh d, .un, .un, .un]) q = .rt r [.ow o1, .sh d, .sh (.list odd17), .un, .un]) ∧ Gd 100 3 r ∧ PenOk (n + 1) o1 := by
  obtain ⟨r, o1, e1, m1, p1⟩ := pick_call (Φ := Φ) h15 (e := .bin .Add (.pk 2) (.lst (es [.tup (es [.c (.int 0), .c (.int 1), .tup (es [.c (.int 0), .c (.int 1)]), .tup (es [.c (.int 0), .c (.none)])]), .tup (es [.tup (es [.c (.int 0), .c (.int 0)])]), .c (.int 60), .c (.str ""), .tup (es [.c (.none), .c (.none)])]))) (xs := odd17 ++ odd5) (t := [.sh d, .sh (.list odd17), .un, .un]) (fun o => rfl) hp hn (by simp [odd17]) (by decide)
  refine ⟨r, o1, fun q => ?_, odd_gd.mem m1, p1⟩
  have hx : sts Φ W bentA [.ow o, .sh d, .un, .un, .un] = .rt r [.ow o1, .sh d, .sh (.list odd17), .un, .un] :=
    s_asg (d := .list odd17) (s1 := [.ow o, .sh d, .un, .un, .un]) rfl (s_ret e1)
  rw [hx]
  rfl
theorem kindE {k j : Int} {t : List Sl} {a b c e : Sl} : ev Φ (.cmp .Eq (.pk 4) (.c (.int j))) (a :: b :: c :: e :: .sh (.int k) :: t) = .ok (.bool (decide (k = j))) (a :: b :: c :: e :: .sh (.int k) :: t) := by
  have eqr : cop .Eq (.int k) (.int j) = some (decide (k = j)) := by
    show some (k == j) = _
    rw [Bool.beq_eq_decide_eq]
  (repeat' first | exact eqr | with_reducible apply x_c | with_reducible apply x_v | with_reducible apply o_pk | with_reducible apply o_e | with_reducible exact xs_nil | with_reducible exact xo_nil | with_reducible exact xa_nil | with_reducible apply xs_cons | with_reducible apply xo_cons | with_reducible apply xa_v | with_reducible apply xa_o | with_reducible apply xa_p | with_reducible apply xa_sc | with_reducible apply x_tup | with_reducible apply x_lst | with_reducible apply x_bin | with_reducible apply x_cmp | with_reducible apply x_ix | with_reducible apply x_isi | with_reducible apply x_bf | with_reducible apply x_neg | with_reducible apply x_nt | with_reducible apply x_chain | with_reducible apply x_cut | with_reducible exact xb_n | with_reducible apply xb_s | with_reducible apply x_sc | with_reducible apply x_call | rfl)
theorem bentG (c : Nat) (hc : c ≤ 50) (h13 : TakeS (Φ 13)) (h15 : OneS (Φ 15)) (h21 : ∀ c', c = c' + 1 → BentG c' (Φ 21)) : BentG c (runDef Φ W f21) := fun n b o d hp hn gd hb => by
  have odd : ∀ {o' : Ob} {n' : Nat}, ev Φ bentC [.ow o, .sh d, .un, .un, .un] = .ok (.bool true) [.ow o', .sh d, .un, .un, .un] → PenOk n' o' → n' + 1 ≤ n + 4 * (c + 1) → ∃ (r : D) (o1 : Ob) (x : Sl), runDef Φ W f21 [.ow o, .sh d] = some (r, [.ow o1, x]) ∧ Gd (2 * b + 100) (c + 4) r ∧ PenOk (n + 4 * (c + 1)) o1 := fun {o' n'} hcond hp' hn' => by
    obtain ⟨r, o1, e1, gr, p1⟩ := bent_odd (Φ := Φ) (W := W) (d := d) h15 hp' (by omega)
    exact ⟨r, o1, _, run_rt (f := f21) (args := [.ow o, .sh d]) (s0 := [.ow o, .sh d, .un, .un, .un]) (s := [.ow o1, .sh d, .sh (.list odd17), .un, .un]) rfl rfl (s_ifT hcond rfl (e1 _)), gr.mono (by omega) (by omega), PenOk.mono p1 (by omega)⟩
  by_cases ht : ∀ xs, d ≠ .tuple xs
  · refine odd (o' := o) (n' := n) ?_ hp (by omega)
    have o1 := gd.1
    cases d with
    | tuple xs => exact absurd rfl (ht xs)
    | dict k => simp [okD] at o1
    | _ => exact x_orT (d := .bool true) (by (repeat' first | with_reducible apply x_c | with_reducible apply x_v | with_reducible apply o_pk | with_reducible apply o_e | with_reducible exact xs_nil | with_reducible exact xo_nil | with_reducible exact xa_nil | with_reducible apply xs_cons | with_reducible apply xo_cons | with_reducible apply xa_v | with_reducible apply xa_o | with_reducible apply xa_p | with_reducible apply xa_sc | with_reducible apply x_tup | with_reducible apply x_lst | with_reducible apply x_bin | with_reducible apply x_cmp | with_reducible apply x_ix | with_reducible apply x_isi | with_reducible apply x_bf | with_reducible apply x_neg | with_reducible apply x_nt | with_reducible apply x_chain | with_reducible apply x_cut | with_reducible exact xb_n | with_reducible apply xb_s | with_reducible apply x_sc | with_reducible apply x_call | rfl)) rfl
  · obtain ⟨xs, rfl⟩ : ∃ xs, d = .tuple xs := Classical.byContradiction fun hx => ht fun xs z => hx ⟨xs, z⟩
    have hsh := gd.shaped (by omega : c ≤ 64)
    have c1 : ev Φ (.nt (.isi (.pk 1) .tuple)) [.ow o, .sh (.tuple xs), .un, .un, .un] = .ok (.bool false) [.ow o, .sh (.tuple xs), .un, .un, .un] := by
      (repeat' first | with_reducible apply x_c | with_reducible apply x_v | with_reducible apply o_pk | with_reducible apply o_e | with_reducible exact xs_nil | with_reducible exact xo_nil | with_reducible exact xa_nil | with_reducible apply xs_cons | with_reducible apply xo_cons | with_reducible apply xa_v | with_reducible apply xa_o | with_reducible apply xa_p | with_reducible apply xa_sc | with_reducible apply x_tup | with_reducible apply x_lst | with_reducible apply x_bin | with_reducible apply x_cmp | with_reducible apply x_ix | with_reducible apply x_isi | with_reducible apply x_bf | with_reducible apply x_neg | with_reducible apply x_nt | with_reducible apply x_chain | with_reducible apply x_cut | with_reducible exact xb_n | with_reducible apply xb_s | with_reducible apply x_sc | with_reducible apply x_call | rfl)
    have c2 : ev Φ (.cmp .Eq (.pk 1) (.tup (es []))) [.ow o, .sh (.tuple xs), .un, .un, .un] = .ok (.bool (PyData.eqv (.tuple xs) (.tuple []))) [.ow o, .sh (.tuple xs), .un, .un, .un] := by
      (repeat' first | exact eq_sh hsh rfl | with_reducible apply x_c | with_reducible apply x_v | with_reducible apply o_pk | with_reducible apply o_e | with_reducible exact xs_nil | with_reducible exact xo_nil | with_reducible exact xa_nil | with_reducible apply xs_cons | with_reducible apply xo_cons | with_reducible apply xa_v | with_reducible apply xa_o | with_reducible apply xa_p | with_reducible apply xa_sc | with_reducible apply x_tup | with_reducible apply x_lst | with_reducible apply x_bin | with_reducible apply x_cmp | with_reducible apply x_ix | with_reducible apply x_isi | with_reducible apply x_bf | with_reducible apply x_neg | with_reducible apply x_nt | with_reducible apply x_chain | with_reducible apply x_cut | with_reducible exact xb_n | with_reducible apply xb_s | with_reducible apply x_sc | with_reducible apply x_call | rfl)
    cases xs with
    | nil => exact odd (o' := o) (n' := n) (x_orF c1 rfl (x_orT c2 rfl)) hp (by omega)
    | cons x0 xr =>
      obtain ⟨r, o1, e1, r0, r1, p1⟩ := take_call (Φ := Φ) h13 (e := .c (.int 6)) (m := 6) (t := [.sh (.tuple (x0 :: xr)), .un, .un, .un]) (fun o => by (repeat' first | with_reducible apply x_c | with_reducible apply x_v | with_reducible apply o_pk | with_reducible apply o_e | with_reducible exact xs_nil | with_reducible exact xo_nil | with_reducible exact xa_nil | with_reducible apply xs_cons | with_reducible apply xo_cons | with_reducible apply xa_v | with_reducible apply xa_o | with_reducible apply xa_p | with_reducible apply xa_sc | with_reducible apply x_tup | with_reducible apply x_lst | with_reducible apply x_bin | with_reducible apply x_cmp | with_reducible apply x_ix | with_reducible apply x_isi | with_reducible apply x_bf | with_reducible apply x_neg | with_reducible apply x_nt | with_reducible apply x_chain | with_reducible apply x_cut | with_reducible exact xb_n | with_reducible apply xb_s | with_reducible apply x_sc | with_reducible apply x_call | rfl)) hp (by omega) (by decide) (by decide)
      have eqr : cop .Eq (.int r) (.int 0) = some (decide (r = 0)) := by
        show some (r == 0) = _
        rw [Bool.beq_eq_decide_eq]
      have c3 : ev Φ (.cmp .Eq (.call 13 false (.o 0 (.v (.c (.int 6)) .nil))) (.c (.int 0))) [.ow o, .sh (.tuple (x0 :: xr)), .un, .un, .un] = .ok (.bool (decide (r = 0))) [.ow o1, .sh (.tuple (x0 :: xr)), .un, .un, .un] := by
        (repeat' first | with_reducible exact e1 | exact eqr | with_reducible apply x_c | with_reducible apply x_v | with_reducible apply o_pk | with_reducible apply o_e | with_reducible exact xs_nil | with_reducible exact xo_nil | with_reducible exact xa_nil | with_reducible apply xs_cons | with_reducible apply xo_cons | with_reducible apply xa_v | with_reducible apply xa_o | with_reducible apply xa_p | with_reducible apply xa_sc | with_reducible apply x_tup | with_reducible apply x_lst | with_reducible apply x_bin | with_reducible apply x_cmp | with_reducible apply x_ix | with_reducible apply x_isi | with_reducible apply x_bf | with_reducible apply x_neg | with_reducible apply x_nt | with_reducible apply x_chain | with_reducible apply x_cut | with_reducible exact xb_n | with_reducible apply xb_s | with_reducible apply x_sc | with_reducible apply x_call | rfl)
      by_cases hr : r = 0
      · rw [decide_eq_true hr] at c3
        exact odd (o' := o1) (n' := n + 1) (x_orF c1 rfl (x_orF c2 rfl c3)) p1 (by omega)
      · rw [decide_eq_false hr] at c3
        generalize hxs : x0 :: xr = xs at *
        have hl0 : 0 < xs.length := by rw [← hxs]; simp
        obtain ⟨cc, rfl⟩ : ∃ cc, c = cc + 1 := by
          cases c with
          | zero => exact (gd.tup0).elim
          | succ cc => exact ⟨cc, rfl⟩
        have gl := gd.untup
        have hlen := gl.len
        obtain ⟨at_, o2, e2, a0, a1, p2⟩ := take_call (Φ := Φ) h13 (e := .bf .len (es [.pk 1])) (m := xs.length) (t := [.sh (.tuple xs), .un, .un, .un]) (fun o => by (repeat' first | with_reducible apply x_c | with_reducible apply x_v | with_reducible apply o_pk | with_reducible apply o_e | with_reducible exact xs_nil | with_reducible exact xo_nil | with_reducible exact xa_nil | with_reducible apply xs_cons | with_reducible apply xo_cons | with_reducible apply xa_v | with_reducible apply xa_o | with_reducible apply xa_p | with_reducible apply xa_sc | with_reducible apply x_tup | with_reducible apply x_lst | with_reducible apply x_bin | with_reducible apply x_cmp | with_reducible apply x_ix | with_reducible apply x_isi | with_reducible apply x_bf | with_reducible apply x_neg | with_reducible apply x_nt | with_reducible apply x_chain | with_reducible apply x_cut | with_reducible exact xb_n | with_reducible apply xb_s | with_reducible apply x_sc | with_reducible apply x_call | rfl)) p1 (by omega) (by omega) (by omega)
        obtain ⟨kd, o3, e3, k0, k1, p3⟩ := take_call (Φ := Φ) h13 (e := .c (.int 8)) (m := 8) (t := [.sh (.tuple xs), .un, .un, .un]) (fun o => by (repeat' first | with_reducible apply x_c | with_reducible apply x_v | with_reducible apply o_pk | with_reducible apply o_e | with_reducible exact xs_nil | with_reducible exact xo_nil | with_reducible exact xa_nil | with_reducible apply xs_cons | with_reducible apply xo_cons | with_reducible apply xa_v | with_reducible apply xa_o | with_reducible apply xa_p | with_reducible apply xa_sc | with_reducible apply x_tup | with_reducible apply x_lst | with_reducible apply x_bin | with_reducible apply x_cmp | with_reducible apply x_ix | with_reducible apply x_isi | with_reducible apply x_bf | with_reducible apply x_neg | with_reducible apply x_nt | with_reducible apply x_chain | with_reducible apply x_cut | with_reducible exact xb_n | with_reducible apply xb_s | with_reducible apply x_sc | with_reducible apply x_call | rfl)) p2 (by omega) (by decide) (by decide)
        obtain ⟨k, rfl⟩ : ∃ k : Nat, at_ = k := ⟨at_.toNat, by omega⟩
        have hk : k < xs.length := by omega
        have k1' : ((k : Int) + 1) = ((k + 1 : Nat) : Int) := by omega
        have hz : slD (.tuple xs) (some ((k : Int) + 1)) none = some (.tuple (xs.drop (k + 1))) := by rw [k1']; exact sl_hi (by omega)
        have hz1 : slD (.tuple xs) (some (k : Int)) (some ((k : Int) + 1)) = some (.tuple ((xs.drop k).take 1)) := by rw [k1']; exact sl_one hk
        have lt : (xs.take k).length ≤ 1000 := by rw [List.length_take]; omega
        have ld : (xs.drop k).length ≤ 1000 := by rw [List.length_drop]; omega
        have ld1 : (xs.drop (k + 1)).length ≤ 1000 := by rw [List.length_drop]; omega
        have l1 : ((xs.drop k).take 1).length ≤ 1 := by rw [List.length_take]; omega
        have la1 : (xs.take k).length + ((xs.drop k).take 1).length ≤ 100000 := by omega
        have la2 : (xs.take k ++ (xs.drop k).take 1).length + (xs.drop k).length ≤ 100000 := by
          rw [List.length_append]
          omega
        have la3 : ∀ {r2 : D}, (xs.take k).length + [r2].length ≤ 100000 := fun {r2} => by
          rw [List.length_singleton]
          omega
        have la4 : ∀ {r2 : D}, (xs.take k ++ [r2]).length + (xs.drop (k + 1)).length ≤ 100000 := fun {r2} => by
          rw [List.length_append, List.length_singleton]
          omega
        obtain ⟨ba, bb, hab, ga, gb⟩ := gl.splitAt k
        obtain ⟨b1, b2, hbb, gb1, gb2⟩ := gb.splitAt 1
        rw [List.drop_drop] at gb2
        have head : ∀ F, sts Φ W (ss [.ite (.cmp .Eq (.pk 4) (.c (.int 0))) (ss [.ret (.bin .Add (.cut (.pk 1) .n (.s (.v 3))) (.cut (.pk 1) (.s (.bin .Add (.pk 3) (.c (.int 1)))) .n))]) (ss []),
    .ite (.cmp .Eq (.pk 4) (.c (.int 1))) (ss [.ret (.bin .Add (.pk 1) (.cut (.pk 1) (.s (.v 3)) (.s (.bin .Add (.pk 3) (.c (.int 1))))))]) (ss []),
    .ite (.cmp .Eq (.pk 4) (.c (.int 2))) (ss [.ret (.bf .list (es [.pk 1]))]) (ss []),
    .ite (.cmp .Eq (.pk 4) (.c (.int 3))) (ss [.ret (.bin .Add (.bin .Add (.cut (.pk 1) .n (.s (.v 3))) (.cut (.pk 1) (.s (.v 3)) (.s (.bin .Add (.pk 3) (.c (.int 1)))))) (.cut (.pk 1) (.s (.v 3)) .n))]) (ss []),
    .ret (.bin .Add (.bin .Add (.cut (.pk 1) .n (.s (.v 3))) (.tup (es [.call 21 false (.o 0 (.v (.ix (.pk 1) (.pk 3)) .nil))]))) (.cut (.pk 1) (.s (.bin .Add (.pk 3) (.c (.int 1)))) .n))]) [.ow o3, .sh (.tuple xs), .un, .sh (.int k), .sh (.int kd)] = F → sts Φ W f21.body [.ow o, .sh (.tuple xs), .un, .un, .un] = F := fun F hF => by
          refine s_ifF (x_orF c1 rfl (x_orF c2 ?_ c3)) rfl (s_par (ds := [.int k, .int kd]) (s1 := [.ow o3, .sh (.tuple xs), .un, .un, .un]) (s2 := [.ow o3, .sh (.tuple xs), .un, .sh (.int k), .sh (.int kd)]) (xs_cons e2 (xs_cons e3 xs_nil)) rfl hF)
          rw [← hxs]
          rfl
        have wrap : ∀ {r : D} {o4 : Ob} {g : Nat}, sts Φ W f21.body [.ow o, .sh (.tuple xs), .un, .un, .un] = .rt r [.ow o4, .sh (.tuple xs), .un, .sh (.int k), .sh (.int kd)] → Gd g (cc + 1 + 4) r → g ≤ 2 * b + 100 → PenOk (n + 4 * (cc + 1 + 1)) o4 →
            ∃ (r : D) (o1 : Ob) (x : Sl), runDef Φ W f21 [.ow o, .sh (.tuple xs)] = some (r, [.ow o1, x]) ∧ Gd (2 * b + 100) (cc + 1 + 4) r ∧ PenOk (n + 4 * (cc + 1 + 1)) o1 := fun {r o4 g} h hg hgb hp4 =>
          ⟨r, o4, _, run_rt (f := f21) (args := [.ow o, .sh (.tuple xs)]) (s0 := [.ow o, .sh (.tuple xs), .un, .un, .un]) rfl rfl h, hg.mono hgb (Nat.le_refl _), hp4⟩
        have w0 := kindE (Φ := Φ) (k := kd) (j := 0) (t := []) (a := .ow o3) (b := .sh (.tuple xs)) (c := .un) (e := .sh (.int k))
        have w1 := kindE (Φ := Φ) (k := kd) (j := 1) (t := []) (a := .ow o3) (b := .sh (.tuple xs)) (c := .un) (e := .sh (.int k))
        have w2 := kindE (Φ := Φ) (k := kd) (j := 2) (t := []) (a := .ow o3) (b := .sh (.tuple xs)) (c := .un) (e := .sh (.int k))
        have w3 := kindE (Φ := Φ) (k := kd) (j := 3) (t := []) (a := .ow o3) (b := .sh (.tuple xs)) (c := .un) (e := .sh (.int k))
        have p3' := PenOk.mono p3 (show n + 1 + 1 + 1 ≤ n + 4 * (cc + 1 + 1) by omega)
        by_cases q0 : kd = 0
        · rw [decide_eq_true q0] at w0
          refine wrap (r := .tuple (xs.take k ++ xs.drop (k + 1))) (o4 := o3) (head _ (s_ifT w0 rfl ?_)) ((ga.app gb2).tup.mono (Nat.le_refl _) (by omega)) (by omega) p3'
          have : sts Φ W (ss [.ret (.bin .Add (.cut (.pk 1) .n (.s (.v 3))) (.cut (.pk 1) (.s (.bin .Add (.pk 3) (.c (.int 1)))) .n))]) [.ow o3, .sh (.tuple xs), .un, .sh (.int k), .sh (.int kd)] = .rt (.tuple (xs.take k ++ xs.drop (k + 1))) [.ow o3, .sh (.tuple xs), .un, .sh (.int k), .sh (.int kd)] := by
            refine s_ret ?_
            (repeat' first | exact sl_lo (by omega) | exact hz | exact add_tup (by omega) | with_reducible apply x_c | with_reducible apply x_v | with_reducible apply o_pk | with_reducible apply o_e | with_reducible exact xs_nil | with_reducible exact xo_nil | with_reducible exact xa_nil | with_reducible apply xs_cons | with_reducible apply xo_cons | with_reducible apply xa_v | with_reducible apply xa_o | with_reducible apply xa_p | with_reducible apply xa_sc | with_reducible apply x_tup | with_reducible apply x_lst | with_reducible apply x_bin | with_reducible apply x_cmp | with_reducible apply x_ix | with_reducible apply x_isi | with_reducible apply x_bf | with_reducible apply x_neg | with_reducible apply x_nt | with_reducible apply x_chain | with_reducible apply x_cut | with_reducible exact xb_n | with_reducible apply xb_s | with_reducible apply x_sc | with_reducible apply x_call | rfl)
          rw [this]
          rfl
        rw [decide_eq_false q0] at w0
        by_cases q1 : kd = 1
        · rw [decide_eq_true q1] at w1
          refine wrap (r := .tuple (xs ++ (xs.drop k).take 1)) (o4 := o3) (head _ (s_ifF w0 rfl (s_ifT w1 rfl ?_))) ((gl.app gb1).tup.mono (Nat.le_refl _) (by omega)) (by omega) p3'
          have : sts Φ W (ss [.ret (.bin .Add (.pk 1) (.cut (.pk 1) (.s (.v 3)) (.s (.bin .Add (.pk 3) (.c (.int 1))))))]) [.ow o3, .sh (.tuple xs), .un, .sh (.int k), .sh (.int kd)] = .rt (.tuple (xs ++ (xs.drop k).take 1)) [.ow o3, .sh (.tuple xs), .un, .sh (.int k), .sh (.int kd)] := by
            refine s_ret ?_
            (repeat' first | exact hz1 | exact add_tup (by omega) | with_reducible apply x_c | with_reducible apply x_v | with_reducible apply o_pk | with_reducible apply o_e | with_reducible exact xs_nil | with_reducible exact xo_nil | with_reducible exact xa_nil | with_reducible apply xs_cons | with_reducible apply xo_cons | with_reducible apply xa_v | with_reducible apply xa_o | with_reducible apply xa_p | with_reducible apply xa_sc | with_reducible apply x_tup | with_reducible apply x_lst | with_reducible apply x_bin | with_reducible apply x_cmp | with_reducible apply x_ix | with_reducible apply x_isi | with_reducible apply x_bf | with_reducible apply x_neg | with_reducible apply x_nt | with_reducible apply x_chain | with_reducible apply x_cut | with_reducible exact xb_n | with_reducible apply xb_s | with_reducible apply x_sc | with_reducible apply x_call | rfl)
          rw [this]
          rfl
        rw [decide_eq_false q1] at w1
        by_cases q2 : kd = 2
        · rw [decide_eq_true q2] at w2
          refine wrap (r := .list xs) (o4 := o3) (head _ (s_ifF w0 rfl (s_ifF w1 rfl (s_ifT w2 rfl ?_)))) (gl.lst.mono (Nat.le_refl _) (by omega)) (by omega) p3'
          have : sts Φ W (ss [.ret (.bf .list (es [.pk 1]))]) [.ow o3, .sh (.tuple xs), .un, .sh (.int k), .sh (.int kd)] = .rt (.list xs) [.ow o3, .sh (.tuple xs), .un, .sh (.int k), .sh (.int kd)] := by
            refine s_ret ?_
            (repeat' first | with_reducible apply x_c | with_reducible apply x_v | with_reducible apply o_pk | with_reducible apply o_e | with_reducible exact xs_nil | with_reducible exact xo_nil | with_reducible exact xa_nil | with_reducible apply xs_cons | with_reducible apply xo_cons | with_reducible apply xa_v | with_reducible apply xa_o | with_reducible apply xa_p | with_reducible apply xa_sc | with_reducible apply x_tup | with_reducible apply x_lst | with_reducible apply x_bin | with_reducible apply x_cmp | with_reducible apply x_ix | with_reducible apply x_isi | with_reducible apply x_bf | with_reducible apply x_neg | with_reducible apply x_nt | with_reducible apply x_chain | with_reducible apply x_cut | with_reducible exact xb_n | with_reducible apply xb_s | with_reducible apply x_sc | with_reducible apply x_call | rfl)
          rw [this]
          rfl
        rw [decide_eq_false q2] at w2
        by_cases q3 : kd = 3
        · rw [decide_eq_true q3] at w3
          refine wrap (r := .tuple ((xs.take k ++ (xs.drop k).take 1) ++ xs.drop k)) (o4 := o3) (head _ (s_ifF w0 rfl (s_ifF w1 rfl (s_ifF w2 rfl (s_ifT w3 rfl ?_))))) (((ga.app gb1).app gb).tup.mono (Nat.le_refl _) (by omega)) (by omega) p3'
          have : sts Φ W (ss [.ret (.bin .Add (.bin .Add (.cut (.pk 1) .n (.s (.v 3))) (.cut (.pk 1) (.s (.v 3)) (.s (.bin .Add (.pk 3) (.c (.int 1)))))) (.cut (.pk 1) (.s (.v 3)) .n))]) [.ow o3, .sh (.tuple xs), .un, .sh (.int k), .sh (.int kd)] = .rt (.tuple ((xs.take k ++ (xs.drop k).take 1) ++ xs.drop k)) [.ow o3, .sh (.tuple xs), .un, .sh (.int k), .sh (.int kd)] := by
            refine s_ret ?_
            (repeat' first | exact sl_lo (by omega) | exact hz1 | exact sl_hi (by omega) | exact add_tup la1 | exact add_tup la2 | with_reducible apply x_c | with_reducible apply x_v | with_reducible apply o_pk | with_reducible apply o_e | with_reducible exact xs_nil | with_reducible exact xo_nil | with_reducible exact xa_nil | with_reducible apply xs_cons | with_reducible apply xo_cons | with_reducible apply xa_v | with_reducible apply xa_o | with_reducible apply xa_p | with_reducible apply xa_sc | with_reducible apply x_tup | with_reducible apply x_lst | with_reducible apply x_bin | with_reducible apply x_cmp | with_reducible apply x_ix | with_reducible apply x_isi | with_reducible apply x_bf | with_reducible apply x_neg | with_reducible apply x_nt | with_reducible apply x_chain | with_reducible apply x_cut | with_reducible exact xb_n | with_reducible apply xb_s | with_reducible apply x_sc | with_reducible apply x_call | rfl)
          rw [this]
          rfl
        rw [decide_eq_false q3] at w3
        have hx : xs[k]? = some xs[k] := List.getElem?_eq_getElem hk
        have hdr : xs.drop k = xs[k] :: xs.drop (k + 1) := List.drop_eq_getElem_cons hk
        have gx : ∃ bx b3, Gd bx cc xs[k] ∧ GdL b3 cc (xs.drop (k + 1)) ∧ bx + 1 + b3 ≤ bb := by
          obtain ⟨y1, y2, y3⟩ := gb
          rw [hdr] at y1 y2 y3
          simp only [okAll, Bool.and_eq_true] at y1
          simp only [PyData.bulkAll] at y2
          simp only [PyData.depthAll, Nat.max_le] at y3
          exact ⟨_, _, ⟨y1.1, Nat.le_refl _, y3.1⟩, ⟨y1.2, Nat.le_refl _, y3.2⟩, y2⟩
        obtain ⟨bx, b3, gx, g3, hb3⟩ := gx
        obtain ⟨r2, o4, z, e4, g4, p4⟩ := h21 cc rfl (n + 1 + 1 + 1) bx o3 xs[k] p3 (by omega) gx (by omega)
        refine wrap (r := .tuple ((xs.take k ++ [r2]) ++ xs.drop (k + 1))) (o4 := o4) (head _ (s_ifF w0 rfl (s_ifF w1 rfl (s_ifF w2 rfl (s_ifF w3 rfl (s_ret ?_)))))) (((ga.mono (Nat.le_refl _) (by omega : cc ≤ cc + 4)).app (GdL.cons g4 (GdL.nil (n := 0)))).app (g3.mono (Nat.le_refl _) (by omega : cc ≤ cc + 4))).tup (by omega) (PenOk.mono p4 (by omega))
        have hix : ixD (.tuple xs) (.int (k : Int)) = some xs[k] := at_nat hx
        (repeat' first | exact sl_lo (by omega) | exact hz | exact hix | exact do_ok rfl rfl e4 rfl rfl | exact add_tup la3 | exact add_tup la4 | with_reducible apply x_c | with_reducible apply x_v | with_reducible apply o_pk | with_reducible apply o_e | with_reducible exact xs_nil | with_reducible exact xo_nil | with_reducible exact xa_nil | with_reducible apply xs_cons | with_reducible apply xo_cons | with_reducible apply xa_v | with_reducible apply xa_o | with_reducible apply xa_p | with_reducible apply xa_sc | with_reducible apply x_tup | with_reducible apply x_lst | with_reducible apply x_bin | with_reducible apply x_cmp | with_reducible apply x_ix | with_reducible apply x_isi | with_reducible apply x_bf | with_reducible apply x_neg | with_reducible apply x_nt | with_reducible apply x_chain | with_reducible apply x_cut | with_reducible exact xb_n | with_reducible apply xb_s | with_reducible apply x_sc | with_reducible apply x_call | rfl)
end K10

set_option Elab.async false
set_option linter.all false
set_option maxRecDepth 100000
set_option maxHeartbeats 4000000
/-! k10: every def at its level -/
namespace K10
open PySem PySem.Spec L2 L3
variable {W : Nat}
theorem v0 (k : Nat) : IntS (sem p.tb W (k + 1) 0) := by
  rw [sem_fn (f := f0) rfl]
  exact intS
theorem v20 (k : Nat) : WholeS (sem p.tb W (k + 1) 20) := by
  rw [sem_fn (f := f20) rfl]
  exact wholeS20
theorem v1 (k : Nat) : WholeS (sem p.tb W (k + 2) 1) := by
  rw [sem_fn (f := f1) rfl]
  exact wholeS1 (v0 k)
theorem c28 (k : Nat) : sem p.tb W (k + 1) 28 [] = some (.int 4, []) := sem_cst (nm := "MOST_LEAST") rfl
theorem c29 (k : Nat) : sem p.tb W (k + 1) 29 [] = some (.int 4, []) := sem_cst (nm := "MOST_TABLES") rfl
theorem c30 (k : Nat) : sem p.tb W (k + 1) 30 [] = some (.int 6, []) := sem_cst (nm := "MOST_LINKS") rfl
theorem v2 (k : Nat) : CountsS (sem p.tb W (k + 3) 2) := by
  rw [sem_fn (f := f2) rfl]
  exact countsS2 (v0 (k + 1)) (v1 k) (c28 (k + 1))
theorem v3 (k : Nat) : LinkS (sem p.tb W (k + 4) 3) := by
  rw [sem_fn (f := f3) rfl]
  exact linkS3 (v1 (k + 1)) (v2 k)
theorem v4 (k : Nat) : SchemeS (sem p.tb W (k + 5) 4) := by
  rw [sem_fn (f := f4) rfl]
  exact schemeS4 (v1 (k + 2)) (v3 k) (c29 (k + 3)) (c30 (k + 3))
theorem v9 (k : Nat) : SchemeS (sem p.tb W (k + 6) 9) := by
  rw [sem_fn (f := f9) rfl]
  exact schemeS9 (v4 k)
theorem v22 (k : Nat) : CountsS (sem p.tb W (k + 2) 22) := by
  rw [sem_fn (f := f22) rfl]
  exact countsS22 (v20 k)
theorem v23 (k : Nat) : LinkS (sem p.tb W (k + 3) 23) := by
  rw [sem_fn (f := f23) rfl]
  exact linkS23 (v20 (k + 1)) (v22 k)
theorem v24 (k : Nat) : SchemeS (sem p.tb W (k + 4) 24) := by
  rw [sem_fn (f := f24) rfl]
  exact schemeS24 (v20 (k + 2)) (v23 k)
theorem v25 (k : Nat) : RightS (sem p.tb W (k + 7) 25) := by
  rw [sem_fn (f := f25) rfl]
  exact rightS (v9 k) (v24 (k + 2))
theorem v5 (k : Nat) : Req5S (sem p.tb W (k + 6) 5) := by
  rw [sem_fn (f := f5) rfl]
  exact fun n d gd ok => req5 (v4 k) gd ok
theorem v6 (k : Nat) : Req6S (sem p.tb W (k + 3) 6) := by
  rw [sem_fn (f := f6) rfl]
  exact fun i c h0 hc ok => req6 (v1 k) h0 hc ok
theorem v7 (k : Nat) : Req7S (sem p.tb W (k + 4) 7) := by
  rw [sem_fn (f := f7) rfl]
  exact fun m ls k' s h0 h1 h2 h3 h4 h5 => req7 (v6 k) h0 h1 h2 h3 h4 h5
theorem v8 (k : Nat) : Find8S (sem p.tb W (k + 1) 8) := by
  rw [sem_fn (f := f8) rfl]
  exact fun m ls k' x y a c b e h s hs => find8 h hs
theorem v10 (k : Nat) : StepS (sem p.tb W (k + 7) 10) := by
  rw [sem_fn (f := f10) rfl]
  exact stepS (v5 k) (v7 (k + 2)) (v8 (k + 5))
theorem v26 (k : Nat) : StepsS (sem p.tb W (k + 8) 26) := by
  rw [sem_fn (f := f26) rfl]
  exact stepsS (v10 k)
theorem v11 (k : Nat) : SpreadS (sem p.tb W (k + 1) 11) := by
  rw [sem_fn (f := f11) rfl]
  exact (spreadS (W := W) : SpreadS (runDef _ W spreadF))
theorem v12 (k : Nat) : OpenS (sem p.tb W (k + 1) 12) := by
  rw [sem_fn (f := f12) rfl]
  exact (openS (W := W) : OpenS (runDef _ W openF))
theorem v13 (k : Nat) : TakeS (sem p.tb W (k + 2) 13) := by
  rw [sem_fn (f := f13) rfl]
  exact (takeS (W := W) (js := 11) (v11 k) : TakeS (runDef _ W (takeF 11)))
theorem v14 (k : Nat) : AnewS (sem p.tb W (k + 1) 14) := by
  rw [sem_fn (f := f14) rfl]
  exact (anewS (W := W) : AnewS (runDef _ W anewF))
theorem v15 (k : Nat) : OneS (sem p.tb W (k + 3) 15) := by
  rw [sem_fn (f := f15) rfl]
  exact (oneS (W := W) (jt := 13) (v13 k) : OneS (runDef _ W (oneF 13)))
theorem v16 (k : Nat) : CountsG (sem p.tb W (k + 4) 16) := by
  rw [sem_fn (f := f16) rfl]
  exact countsG (v15 k)
theorem v17 (k : Nat) : LinkG (sem p.tb W (k + 5) 17) := by
  rw [sem_fn (f := f17) rfl]
  exact linkG (v13 (k + 2)) (v16 k)
theorem v18 (k : Nat) : RingG (sem p.tb W (k + 4) 18) := by
  rw [sem_fn (f := f18) rfl]
  exact ringG (v13 (k + 1)) (v15 k)
theorem v19 (k : Nat) : SchemeG (sem p.tb W (k + 6) 19) := by
  rw [sem_fn (f := f19) rfl]
  exact schemeG (v13 (k + 3)) (v15 (k + 2)) (v17 k) (v18 (k + 1))
theorem v21 : ∀ (c k : Nat), c ≤ 50 → BentG c (sem p.tb W (k + 4 + c) 21)
  | 0, k, h => by
    show BentG 0 (sem p.tb W ((k + 3) + 1) 21)
    rw [sem_fn (f := f21) rfl]
    exact bentG 0 h (v13 (k + 1)) (v15 k) (fun c' e => by cases e)
  | c + 1, k, h => by
    show BentG (c + 1) (sem p.tb W ((k + 4 + c) + 1) 21)
    rw [sem_fn (f := f21) rfl]
    refine bentG (c + 1) h ?_ ?_ (fun c' e => by cases e; exact v21 c k (by omega))
    · have := v13 (W := W) (k + 2 + c)
      rwa [show k + 2 + c + 2 = k + 4 + c by omega] at this
    · have := v15 (W := W) (k + 1 + c)
      rwa [show k + 1 + c + 3 = k + 4 + c by omega] at this
end K10

set_option Elab.async false
set_option linter.all false
set_option maxRecDepth 100000
set_option maxHeartbeats 4000000
/-! k10: the law's parts -/
namespace K10
open PySem PySem.Spec L2 L3
variable {Φ : Nat → Sem1} {W : Nat}
theorem r_call (h25 : RightS (Φ 25)) {e : E} {d : D} {s s1 : Sls} {n : Nat} (he : ev Φ e s = .ok d s1) (g : Gd n 60 d) (hn : n ≤ 2 ^ 20) : ev Φ (.call 25 false (.v e .nil)) s = .ok (.bool true) s1 :=
  x_call (avs := [.v d]) (s1 := s1) (xa_v he xa_nil) (do_ok rfl rfl (h25 n d g hn) rfl rfl)
theorem nr_call (h25 : RightS (Φ 25)) {e : E} {d : D} {s s1 : Sls} {n : Nat} (he : ev Φ e s = .ok d s1) (g : Gd n 60 d) (hn : n ≤ 2 ^ 20) : ev Φ (.nt (.call 25 false (.v e .nil))) s = .ok (.bool false) s1 :=
  x_nt (p := true) (r_call h25 he g hn) rfl
def bentB : Ss := ss [.ite (.nt (.call 25 false (.v (.call 21 false (.o 1 (.v (.v 3) .nil))) .nil))) (ss [.ret (.c (.bool false))]) (ss [])]
theorem bent_loop (h25 : RightS (Φ 25)) (h21 : BentG 5 (Φ 21)) {a z2 : Sl} {d : D} {t : List Sl} (gd : Gd 60 5 d) : ∀ (rest : List D) (n : Nat) (o : Ob) (z4 : Sl), PenOk n o → n + 24 * rest.length < 2 ^ 20 →
    ∃ (o1 : Ob) (y4 : Sl), forL (turnF Φ W (.nm 4) bentB) rest (a :: .ow o :: z2 :: .sh d :: z4 :: t) = .nx (a :: .ow o1 :: z2 :: .sh d :: y4 :: t) ∧ PenOk (n + 24 * rest.length) o1
  | [], n, o, z4, hp, _ => ⟨o, z4, rfl, hp⟩
  | x :: rest, n, o, z4, hp, hn => by
    simp only [List.length_cons] at hn
    obtain ⟨r, o1, y, e1, g1, p1⟩ := h21 n 60 o d hp (by omega) gd (by decide)
    have hc : ev Φ (.call 21 false (.o 1 (.v (.v 3) .nil))) (a :: .ow o :: z2 :: .sh d :: .sh x :: t) = .ok r (a :: .ow o1 :: z2 :: .sh d :: .sh x :: t) :=
      x_call (avs := [.o 1, .v d]) (s1 := a :: .ow o :: z2 :: .sh d :: .sh x :: t) (xa_o rfl (xa_v (x_v rfl) xa_nil)) (do_ok rfl rfl e1 rfl rfl)
    have st1 : sts Φ W bentB (a :: .ow o :: z2 :: .sh d :: .sh x :: t) = .nx (a :: .ow o1 :: z2 :: .sh d :: .sh x :: t) :=
      s_ifF (nr_call h25 hc (g1.mono (Nat.le_refl _) (by decide : 9 ≤ 60)) (by decide)) rfl rfl
    obtain ⟨o2, y4, e2, p2⟩ := bent_loop h25 h21 gd rest (n + 24) o1 (.sh x) p1 (by omega)
    refine ⟨o2, y4, (forL_cons (turn_nx rfl st1)).trans e2, ?_⟩
    simp only [List.length_cons]
    rw [show n + 24 * (rest.length + 1) = n + 24 + 24 * rest.length by omega]
    exact p2
def deepB : Ss := ss [.asg 9 (.tup (es [.v 9])), .ite (.or (.nt (.call 25 false (.v (.v 9) .nil))) (.nt (.call 25 false (.v (.tup (es [.c (.int 2), .tup (es [.v 9])])) .nil)))) (ss [.ret (.c (.bool false))]) (ss []), .ite (.nt (.call 25 false (.v (.tup (es [.c (.int 2), .tup (es [.tup (es [.c (.int 0), .c (.int 1), .v 9, .v 9])])])) .nil))) (ss [.ret (.c (.bool false))]) (ss [])]
theorem gi (c : Nat) (i : Int) (h : i.natAbs < 10 ^ 12) : Gd 0 c (.int i) := (gd_int h).mono (Nat.le_refl _) (Nat.zero_le _)
theorem deep_loop (h25 : RightS (Φ 25)) {s0 s1' s2' s3' s4' s5' s6' s7' s8' : Sl} : ∀ (rest : List D) (k : Nat) (d : D) (z : Sl), Gd k (k + 1) d → k + rest.length ≤ 16 →
    ∃ (d1 : D) (y : Sl), forL (turnF Φ W (.nm 10) deepB) rest [s0, s1', s2', s3', s4', s5', s6', s7', s8', .sh d, z] = .nx [s0, s1', s2', s3', s4', s5', s6', s7', s8', .sh d1, y]
  | [], k, d, z, _, _ => ⟨d, z, rfl⟩
  | x :: rest, k, d, z, gd, hk => by
    simp only [List.length_cons] at hk
    have g1 : Gd (k + 1) (k + 2) (.tuple [d]) := (GdL.tup (GdL.cons gd (GdL.nil (n := 0)))).mono (by omega) (Nat.le_refl _)
    have g2 : Gd (k + 10) (k + 10) (.tuple [.int 2, .tuple [.tuple [d]]]) := (GdL.tup (GdL.cons (gi (k + 3) 2 (by decide)) (GdL.cons (GdL.tup (GdL.cons g1 (GdL.nil (n := 0)))) (GdL.nil (n := 0))))).mono (by omega) (by omega)
    have g3 : Gd (2 * k + 20) (k + 10) (.tuple [.int 2, .tuple [.tuple [.int 0, .int 1, .tuple [d], .tuple [d]]]]) :=
      (GdL.tup (GdL.cons (gi (k + 4) 2 (by decide)) (GdL.cons (GdL.tup (GdL.cons (GdL.tup (GdL.cons (gi (k + 2) 0 (by decide)) (GdL.cons (gi (k + 2) 1 (by decide)) (GdL.cons g1 (GdL.cons g1 (GdL.nil (n := 0))))))) (GdL.nil (n := 0)))) (GdL.nil (n := 0))))).mono (by omega) (by omega)
    have st1 : sts Φ W deepB [s0, s1', s2', s3', s4', s5', s6', s7', s8', .sh d, .sh x] = .nx [s0, s1', s2', s3', s4', s5', s6', s7', s8', .sh (.tuple [d]), .sh x] := by
      refine s_asg (d := .tuple [d]) (s1 := [s0, s1', s2', s3', s4', s5', s6', s7', s8', .sh d, .sh x]) (by (repeat' first | with_reducible apply x_c | with_reducible apply x_v | with_reducible apply o_pk | with_reducible apply o_e | with_reducible exact xs_nil | with_reducible exact xo_nil | with_reducible exact xa_nil | with_reducible apply xs_cons | with_reducible apply xo_cons | with_reducible apply xa_v | with_reducible apply xa_o | with_reducible apply xa_p | with_reducible apply xa_sc | with_reducible apply x_tup | with_reducible apply x_lst | with_reducible apply x_bin | with_reducible apply x_cmp | with_reducible apply x_ix | with_reducible apply x_isi | with_reducible apply x_bf | with_reducible apply x_neg | with_reducible apply x_nt | with_reducible apply x_chain | with_reducible apply x_cut | with_reducible exact xb_n | with_reducible apply xb_s | with_reducible apply x_sc | with_reducible apply x_call | rfl)) ?_
      refine s_ifF (d := .bool false) (s1 := [s0, s1', s2', s3', s4', s5', s6', s7', s8', .sh (.tuple [d]), .sh x]) (x_orF (d := .bool false) (s1 := [s0, s1', s2', s3', s4', s5', s6', s7', s8', .sh (.tuple [d]), .sh x]) (nr_call h25 (d := .tuple [d]) (x_v rfl) (g1.mono (Nat.le_refl _) (by omega)) (by omega)) rfl (nr_call h25 (d := .tuple [.int 2, .tuple [.tuple [d]]]) (by (repeat' first | with_reducible apply x_c | with_reducible apply x_v | with_reducible apply o_pk | with_reducible apply o_e | with_reducible exact xs_nil | with_reducible exact xo_nil | with_reducible exact xa_nil | with_reducible apply xs_cons | with_reducible apply xo_cons | with_reducible apply xa_v | with_reducible apply xa_o | with_reducible apply xa_p | with_reducible apply xa_sc | with_reducible apply x_tup | with_reducible apply x_lst | with_reducible apply x_bin | with_reducible apply x_cmp | with_reducible apply x_ix | with_reducible apply x_isi | with_reducible apply x_bf | with_reducible apply x_neg | with_reducible apply x_nt | with_reducible apply x_chain | with_reducible apply x_cut | with_reducible exact xb_n | with_reducible apply xb_s | with_reducible apply x_sc | with_reducible apply x_call | rfl)) (g2.mono (Nat.le_refl _) (by omega)) (by omega))) rfl ?_
      exact s_ifF (d := .bool false) (s1 := [s0, s1', s2', s3', s4', s5', s6', s7', s8', .sh (.tuple [d]), .sh x]) (nr_call h25 (d := .tuple [.int 2, .tuple [.tuple [.int 0, .int 1, .tuple [d], .tuple [d]]]]) (by (repeat' first | with_reducible apply x_c | with_reducible apply x_v | with_reducible apply o_pk | with_reducible apply o_e | with_reducible exact xs_nil | with_reducible exact xo_nil | with_reducible exact xa_nil | with_reducible apply xs_cons | with_reducible apply xo_cons | with_reducible apply xa_v | with_reducible apply xa_o | with_reducible apply xa_p | with_reducible apply xa_sc | with_reducible apply x_tup | with_reducible apply x_lst | with_reducible apply x_bin | with_reducible apply x_cmp | with_reducible apply x_ix | with_reducible apply x_isi | with_reducible apply x_bf | with_reducible apply x_neg | with_reducible apply x_nt | with_reducible apply x_chain | with_reducible apply x_cut | with_reducible exact xb_n | with_reducible apply xb_s | with_reducible apply x_sc | with_reducible apply x_call | rfl)) (g3.mono (Nat.le_refl _) (by omega)) (by omega)) rfl rfl
    obtain ⟨d1, y, e2⟩ := deep_loop h25 rest (k + 1) (.tuple [d]) (.sh x) g1 (by omega)
    exact ⟨d1, y, (forL_cons (turn_nx rfl st1)).trans e2⟩
end K10

set_option Elab.async false
set_option linter.all false
set_option maxRecDepth 100000
set_option maxHeartbeats 4000000
/-! k10: the law -/
namespace K10
open PySem PySem.Spec L2 L3
variable {Φ : Nat → Sem1} {W : Nat}
def linkL : D := .tuple [.int 0, .int 1, .tuple [.int 0, .int 1], .tuple [.int 0, .none]]
theorem gL : Gd 8 2 linkL := ⟨by decide +kernel, by decide +kernel, by decide +kernel⟩
def ownB : Ss := ss [.ite (.or (.nt (.call 25 false (.v (.tup (es [.c (.int 2), .tup (es [.v 8])])) .nil))) (.nt (.call 25 false (.v (.tup (es [.c (.int 4), .bin .Add (.bin .Mult (.tup (es [.v 5])) (.c (.int 6))) (.tup (es [.v 8]))])) .nil)))) (ss [.ret (.c (.bool false))]) (ss []), .ite (.or (.nt (.call 25 false (.v (.tup (es [.c (.int 5), .tup (es [.v 8])])) .nil))) (.nt (.call 25 false (.v (.tup (es [.c (.int 3), .tup (es [.v 5, .v 5, .v 8, .v 5])])) .nil)))) (ss [.ret (.c (.bool false))]) (ss [])]
theorem mul6 : bop .Mult (.tuple [linkL]) (.int 6) = some (.tuple [linkL, linkL, linkL, linkL, linkL, linkL]) := rfl
theorem add6 {x : D} : bop .Add (.tuple [linkL, linkL, linkL, linkL, linkL, linkL]) (.tuple [x]) = some (.tuple [linkL, linkL, linkL, linkL, linkL, linkL, x]) := rfl
theorem own_turn (h25 : RightS (Φ 25)) {s0 s1' s2' s3' s4' s6' s7' s9' s10' : Sl} {x : D} (gx : Gd 60 5 x) : sts Φ W ownB [s0, s1', s2', s3', s4', .sh linkL, s6', s7', .sh x, s9', s10'] = .nx [s0, s1', s2', s3', s4', .sh linkL, s6', s7', .sh x, s9', s10'] := by
  have gL' : Gd 8 5 linkL := gL.mono (Nat.le_refl _) (by decide)
  have one : ∀ i : Int, i.natAbs < 10 ^ 12 → Gd 100 8 (.tuple [.int i, .tuple [x]]) := fun i hi => (GdL.tup (GdL.cons (gi 6 i hi) (GdL.cons (GdL.tup (GdL.cons gx (GdL.nil (n := 0)))) (GdL.nil (n := 0))))).mono (by decide) (by decide)
  have two : Gd 300 8 (.tuple [.int 4, .tuple [linkL, linkL, linkL, linkL, linkL, linkL, x]]) := (GdL.tup (GdL.cons (gi 6 4 (by decide)) (GdL.cons (GdL.tup (GdL.cons gL' (GdL.cons gL' (GdL.cons gL' (GdL.cons gL' (GdL.cons gL' (GdL.cons gL' (GdL.cons gx (GdL.nil (n := 0)))))))))) (GdL.nil (n := 0))))).mono (by decide) (by decide)
  have three : Gd 300 8 (.tuple [.int 3, .tuple [linkL, linkL, x, linkL]]) := (GdL.tup (GdL.cons (gi 6 3 (by decide)) (GdL.cons (GdL.tup (GdL.cons gL' (GdL.cons gL' (GdL.cons gx (GdL.cons gL' (GdL.nil (n := 0))))))) (GdL.nil (n := 0))))).mono (by decide) (by decide)
  refine s_ifF (d := .bool false) (s1 := [s0, s1', s2', s3', s4', .sh linkL, s6', s7', .sh x, s9', s10']) (x_orF (d := .bool false) (s1 := [s0, s1', s2', s3', s4', .sh linkL, s6', s7', .sh x, s9', s10']) (nr_call h25 (d := .tuple [.int 2, .tuple [x]]) (by (repeat' first | with_reducible apply x_c | with_reducible apply x_v | with_reducible apply o_pk | with_reducible apply o_e | with_reducible exact xs_nil | with_reducible exact xo_nil | with_reducible exact xa_nil | with_reducible apply xs_cons | with_reducible apply xo_cons | with_reducible apply xa_v | with_reducible apply xa_o | with_reducible apply xa_p | with_reducible apply xa_sc | with_reducible apply x_tup | with_reducible apply x_lst | with_reducible apply x_bin | with_reducible apply x_cmp | with_reducible apply x_ix | with_reducible apply x_isi | with_reducible apply x_bf | with_reducible apply x_neg | with_reducible apply x_nt | with_reducible apply x_chain | with_reducible apply x_cut | with_reducible exact xb_n | with_reducible apply xb_s | with_reducible apply x_sc | with_reducible apply x_call | rfl)) ((one 2 (by decide)).mono (Nat.le_refl _) (by decide)) (by decide)) rfl (nr_call h25 (d := .tuple [.int 4, .tuple [linkL, linkL, linkL, linkL, linkL, linkL, x]]) (by (repeat' first | exact mul6 | exact add6 | with_reducible apply x_c | with_reducible apply x_v | with_reducible apply o_pk | with_reducible apply o_e | with_reducible exact xs_nil | with_reducible exact xo_nil | with_reducible exact xa_nil | with_reducible apply xs_cons | with_reducible apply xo_cons | with_reducible apply xa_v | with_reducible apply xa_o | with_reducible apply xa_p | with_reducible apply xa_sc | with_reducible apply x_tup | with_reducible apply x_lst | with_reducible apply x_bin | with_reducible apply x_cmp | with_reducible apply x_ix | with_reducible apply x_isi | with_reducible apply x_bf | with_reducible apply x_neg | with_reducible apply x_nt | with_reducible apply x_chain | with_reducible apply x_cut | with_reducible exact xb_n | with_reducible apply xb_s | with_reducible apply x_sc | with_reducible apply x_call | rfl)) (two.mono (Nat.le_refl _) (by decide)) (by decide))) rfl ?_
  exact s_ifF (d := .bool false) (s1 := [s0, s1', s2', s3', s4', .sh linkL, s6', s7', .sh x, s9', s10']) (x_orF (d := .bool false) (s1 := [s0, s1', s2', s3', s4', .sh linkL, s6', s7', .sh x, s9', s10']) (nr_call h25 (d := .tuple [.int 5, .tuple [x]]) (by (repeat' first | with_reducible apply x_c | with_reducible apply x_v | with_reducible apply o_pk | with_reducible apply o_e | with_reducible exact xs_nil | with_reducible exact xo_nil | with_reducible exact xa_nil | with_reducible apply xs_cons | with_reducible apply xo_cons | with_reducible apply xa_v | with_reducible apply xa_o | with_reducible apply xa_p | with_reducible apply xa_sc | with_reducible apply x_tup | with_reducible apply x_lst | with_reducible apply x_bin | with_reducible apply x_cmp | with_reducible apply x_ix | with_reducible apply x_isi | with_reducible apply x_bf | with_reducible apply x_neg | with_reducible apply x_nt | with_reducible apply x_chain | with_reducible apply x_cut | with_reducible exact xb_n | with_reducible apply xb_s | with_reducible apply x_sc | with_reducible apply x_call | rfl)) ((one 5 (by decide)).mono (Nat.le_refl _) (by decide)) (by decide)) rfl (nr_call h25 (d := .tuple [.int 3, .tuple [linkL, linkL, x, linkL]]) (by (repeat' first | with_reducible apply x_c | with_reducible apply x_v | with_reducible apply o_pk | with_reducible apply o_e | with_reducible exact xs_nil | with_reducible exact xo_nil | with_reducible exact xa_nil | with_reducible apply xs_cons | with_reducible apply xo_cons | with_reducible apply xa_v | with_reducible apply xa_o | with_reducible apply xa_p | with_reducible apply xa_sc | with_reducible apply x_tup | with_reducible apply x_lst | with_reducible apply x_bin | with_reducible apply x_cmp | with_reducible apply x_ix | with_reducible apply x_isi | with_reducible apply x_bf | with_reducible apply x_neg | with_reducible apply x_nt | with_reducible apply x_chain | with_reducible apply x_cut | with_reducible exact xb_n | with_reducible apply xb_s | with_reducible apply x_sc | with_reducible apply x_call | rfl)) (three.mono (Nat.le_refl _) (by decide)) (by decide))) rfl rfl
theorem own_loop (h25 : RightS (Φ 25)) {s0 s1' s2' s3' s4' s6' s7' s9' s10' : Sl} : ∀ (rest : List D) (z : Sl), (∀ x ∈ rest, Gd 60 5 x) → ∃ y : Sl, forL (turnF Φ W (.nm 8) ownB) rest [s0, s1', s2', s3', s4', .sh linkL, s6', s7', z, s9', s10'] = .nx [s0, s1', s2', s3', s4', .sh linkL, s6', s7', y, s9', s10']
  | [], z, _ => ⟨z, rfl⟩
  | x :: rest, z, h => by
    obtain ⟨y, e⟩ := own_loop h25 rest (.sh x) fun w hw => h w (List.mem_cons_of_mem _ hw)
    exact ⟨y, (forL_cons (turn_nx rfl (own_turn h25 (h x List.mem_cons_self)))).trans e⟩
theorem xa_k {f i : Nat} {as r : As} {avs avs2 : List Av} {d : D} {s s1 s2 s3 : Sls} (h : evas Φ as s = .ok avs s1) (hd : doCall (Φ f) avs s1 = .ok d s2) (t : evas Φ r s2 = .ok avs2 s3) : evas Φ (.k f as i r) s = .ok (.o i :: avs2) s3 := by
  simp only [evas, h, bnd_ok, hd, t]
def near13 : List D := [.tuple [.int 0, .int 1], .tuple [.int 4, .int 4], .tuple [.int 4, .int 3], .tuple [.int 5, .int 5], .tuple [.int 0, .int 0], .tuple [.int 0, .none], .tuple [.int (-1), .int 2], .tuple [.bool true, .int 1]]
def near5 : List D := [.tuple [.int 1, .bool true], .tuple [.int 0, .bool false], .tuple [.none, .int 1], .tuple [.str "0", .int 1], .tuple [.int 1, .str "1"]]
theorem gnear : ∀ x ∈ near13 ++ near5, Gd 5 1 x := by
  intro x hx
  simp only [near13, near5, List.cons_append, List.nil_append, List.mem_cons, List.mem_nil_iff, or_false] at hx
  rcases hx with rfl | rfl | rfl | rfl | rfl | rfl | rfl | rfl | rfl | rfl | rfl | rfl | rfl <;> exact ⟨by decide +kernel, by decide +kernel, by decide +kernel⟩
def lawB : Ss := match f27.body with
  | .cons _ (.cons (.for _ _ b) _) => b
  | z => z
theorem law_turn (h14 : AnewS (Φ 14)) (h15 : OneS (Φ 15)) (h19 : SchemeG (Φ 19)) (h24 : SchemeS (Φ 24)) (h25 : RightS (Φ 25)) (h26 : StepsS (Φ 26)) (h21 : BentG 5 (Φ 21)) {s0 z2 z3 z4 z5 z6 z7 z8 z9 z10 : Sl} {n : Nat} {o : Ob} (hp : PenOk n o) (hn : n + 405 < 2 ^ 20) :
    ∃ (o1 : Ob) (y3 y4 y5 y6 y7 y8 : Sl), sts Φ W lawB [s0, .ow o, z2, z3, z4, z5, z6, z7, z8, z9, z10] = .nx [s0, .ow o1, z2, y3, y4, y5, y6, y7, y8, z9, z10] ∧ PenOk (n + 405) o1 := by
  obtain ⟨oa, ea, pa⟩ := h14 n o hp
  obtain ⟨m, ls, o1, e1, g1, sc, p1⟩ := h19 n oa pa (by omega)
  have gd60 := g1.mono (Nat.le_refl _) (by decide : 5 ≤ 60)
  have e24 := h24 60 _ gd60
  have e26 := h26 60 m ls ⟨rfl, gd60, sc⟩
  obtain ⟨o2, y4, e2, p2⟩ := bent_loop (Φ := Φ) (W := W) h25 h21 (a := s0) (z2 := z2) (t := [z5, z6, z7, z8, z9, z10]) g1 (rngL 0 14) (n + 68) o1 z4 p1 (by rw [rng_len' (by decide)]; show n + 68 + 24 * 14 < 2 ^ 20; omega)
  rw [rng_len' (by decide)] at p2
  obtain ⟨nr, o3, x3, e3, m3, p3⟩ := h15 (n + 68 + 24 * 14) o2 (near13 ++ near5) p2 (by omega) (by simp [near13]) (by decide)
  have gn := (gnear nr m3).mono (Nat.le_refl _) (by decide : 1 ≤ 4)
  have g01 : Gd 2 4 (.tuple [.int 0, .int 1]) := ⟨by decide +kernel, by decide +kernel, by decide +kernel⟩
  obtain ⟨y8, e4⟩ := own_loop (Φ := Φ) (W := W) h25 (s0 := s0) (s1' := .ow o3) (s2' := z2) (s3' := .sh (.tuple [.int m, .tuple ls])) (s4' := y4) (s6' := .sh (.list near13)) (s7' := .sh nr) (s9' := z9) (s10' := z10)
    [.tuple [.int 0, .int 1, nr, .tuple [.int 0, .int 1]], .tuple [.int 1, .int 0, .tuple [.int 0, .int 1], nr], .tuple [.int 0, .int 0, nr, nr], linkL] z8 (fun x hx => by
      simp only [List.mem_cons, List.mem_nil_iff, or_false] at hx
      rcases hx with rfl | rfl | rfl | rfl
      · exact (GdL.tup (GdL.cons (gi 4 0 (by decide)) (GdL.cons (gi 4 1 (by decide)) (GdL.cons gn (GdL.cons g01 (GdL.nil (n := 0))))))).mono (by decide) (by decide)
      · exact (GdL.tup (GdL.cons (gi 4 1 (by decide)) (GdL.cons (gi 4 0 (by decide)) (GdL.cons g01 (GdL.cons gn (GdL.nil (n := 0))))))).mono (by decide) (by decide)
      · exact (GdL.tup (GdL.cons (gi 4 0 (by decide)) (GdL.cons (gi 4 0 (by decide)) (GdL.cons gn (GdL.cons gn (GdL.nil (n := 0))))))).mono (by decide) (by decide)
      · exact gL.mono (by decide) (by decide))
  refine ⟨o3, .sh (.tuple [.int m, .tuple ls]), y4, .sh linkL, .sh (.list near13), .sh nr, y8, ?_, p3⟩
  refine s_asg (d := .tuple [.int m, .tuple ls]) (s1 := [s0, .ow o1, z2, z3, z4, z5, z6, z7, z8, z9, z10]) ?_ ?_
  · exact x_call (avs := [.o 1]) (s1 := [s0, .ow oa, z2, z3, z4, z5, z6, z7, z8, z9, z10]) (xa_k (avs := [.o 1]) (s1 := [s0, .ow o, z2, z3, z4, z5, z6, z7, z8, z9, z10]) (d := .none) (s2 := [s0, .ow oa, z2, z3, z4, z5, z6, z7, z8, z9, z10]) (xa_o rfl xa_nil) (do_ok rfl rfl ea rfl rfl) xa_nil) (do_ok rfl rfl e1 rfl rfl)
  have a24 : ev Φ (.nt (.call 24 false (.v (.v 3) .nil))) [s0, .ow o1, z2, .sh (.tuple [.int m, .tuple ls]), z4, z5, z6, z7, z8, z9, z10] = .ok (.bool false) [s0, .ow o1, z2, .sh (.tuple [.int m, .tuple ls]), z4, z5, z6, z7, z8, z9, z10] := by
    rw [sc] at e24
    exact x_nt (p := true) (x_call (avs := [.v (.tuple [.int m, .tuple ls])]) (s1 := [s0, .ow o1, z2, .sh (.tuple [.int m, .tuple ls]), z4, z5, z6, z7, z8, z9, z10]) (xa_v (x_v rfl) xa_nil) (do_ok rfl rfl e24 rfl rfl)) rfl
  have a26 : ev Φ (.nt (.call 26 false (.v (.v 3) .nil))) [s0, .ow o1, z2, .sh (.tuple [.int m, .tuple ls]), z4, z5, z6, z7, z8, z9, z10] = .ok (.bool false) [s0, .ow o1, z2, .sh (.tuple [.int m, .tuple ls]), z4, z5, z6, z7, z8, z9, z10] :=
    x_nt (p := true) (x_call (avs := [.v (.tuple [.int m, .tuple ls])]) (s1 := [s0, .ow o1, z2, .sh (.tuple [.int m, .tuple ls]), z4, z5, z6, z7, z8, z9, z10]) (xa_v (x_v rfl) xa_nil) (do_ok rfl rfl e26 rfl rfl)) rfl
  refine s_ifF (d := .bool false) (s1 := [s0, .ow o1, z2, .sh (.tuple [.int m, .tuple ls]), z4, z5, z6, z7, z8, z9, z10]) (x_orF a24 rfl (x_orF (nr_call h25 (d := .tuple [.int m, .tuple ls]) (x_v rfl) gd60 (by decide)) rfl a26)) rfl ?_
  refine s_for (items := rngL 0 14) (s1 := [s0, .ow o1, z2, .sh (.tuple [.int m, .tuple ls]), z4, z5, z6, z7, z8, z9, z10]) (rng_it (x_c rfl) rfl) ?_
  refine (congrArg (fun z => thenF z _) e2).trans ?_
  show thenF (.nx _) _ = _
  rw [thenF_nx]
  refine s_asg (d := linkL) (s1 := [s0, .ow o2, z2, .sh (.tuple [.int m, .tuple ls]), y4, z5, z6, z7, z8, z9, z10]) rfl (s_asg (d := .list near13) (s1 := [s0, .ow o2, z2, .sh (.tuple [.int m, .tuple ls]), y4, .sh linkL, z6, z7, z8, z9, z10]) rfl ?_)
  refine s_asg (d := nr) (s1 := [s0, .ow o3, z2, .sh (.tuple [.int m, .tuple ls]), y4, .sh linkL, .sh (.list near13), z7, z8, z9, z10]) (x_call (avs := [.o 1, .v (.list (near13 ++ near5))]) (s1 := [s0, .ow o2, z2, .sh (.tuple [.int m, .tuple ls]), y4, .sh linkL, .sh (.list near13), z7, z8, z9, z10]) (xa_o rfl (xa_v rfl xa_nil)) (do_ok rfl rfl e3 rfl rfl)) ?_
  refine s_for (items := [.tuple [.int 0, .int 1, nr, .tuple [.int 0, .int 1]], .tuple [.int 1, .int 0, .tuple [.int 0, .int 1], nr], .tuple [.int 0, .int 0, nr, nr], linkL]) (s1 := [s0, .ow o3, z2, .sh (.tuple [.int m, .tuple ls]), y4, .sh linkL, .sh (.list near13), .sh nr, z8, z9, z10]) rfl ?_
  refine (congrArg (fun z => thenF z _) e4).trans ?_
  rfl
end K10

set_option Elab.async false
set_option linter.all false
set_option maxRecDepth 100000
set_option maxHeartbeats 4000000
/-! k10: the law, said -/
namespace K10
open PySem PySem.Spec L2 L3
variable {Φ : Nat → Sem1} {W : Nat}
theorem law_loop (h14 : AnewS (Φ 14)) (h15 : OneS (Φ 15)) (h19 : SchemeG (Φ 19)) (h24 : SchemeS (Φ 24)) (h25 : RightS (Φ 25)) (h26 : StepsS (Φ 26)) (h21 : BentG 5 (Φ 21)) {s0 z9 z10 : Sl} : ∀ (rest : List D) (n : Nat) (o : Ob) (z2 z3 z4 z5 z6 z7 z8 : Sl), PenOk n o → n + 405 * rest.length < 2 ^ 20 →
    ∃ (o1 : Ob) (y2 y3 y4 y5 y6 y7 y8 : Sl), forL (turnF Φ W (.nm 2) lawB) rest [s0, .ow o, z2, z3, z4, z5, z6, z7, z8, z9, z10] = .nx [s0, .ow o1, y2, y3, y4, y5, y6, y7, y8, z9, z10] ∧ PenOk (n + 405 * rest.length) o1
  | [], n, o, z2, z3, z4, z5, z6, z7, z8, hp, _ => ⟨o, z2, z3, z4, z5, z6, z7, z8, rfl, hp⟩
  | x :: rest, n, o, z2, z3, z4, z5, z6, z7, z8, hp, hn => by
    simp only [List.length_cons] at hn
    obtain ⟨o1, y3, y4, y5, y6, y7, y8, e1, p1⟩ := law_turn (W := W) (s0 := s0) (z2 := .sh x) (z3 := z3) (z4 := z4) (z5 := z5) (z6 := z6) (z7 := z7) (z8 := z8) (z9 := z9) (z10 := z10) h14 h15 h19 h24 h25 h26 h21 hp (by omega)
    obtain ⟨o2, x2, x3, x4, x5, x6, x7, x8, e2, p2⟩ := law_loop h14 h15 h19 h24 h25 h26 h21 rest (n + 405) o1 (.sh x) y3 y4 y5 y6 y7 y8 p1 (by omega)
    refine ⟨o2, x2, x3, x4, x5, x6, x7, x8, (forL_cons (turn_nx rfl e1)).trans e2, ?_⟩
    simp only [List.length_cons]
    rw [show n + 405 * (rest.length + 1) = n + 405 + 405 * rest.length by omega]
    exact p2
theorem law_run (h12 : OpenS (Φ 12)) (h14 : AnewS (Φ 14)) (h15 : OneS (Φ 15)) (h19 : SchemeG (Φ 19)) (h24 : SchemeS (Φ 24)) (h25 : RightS (Φ 25)) (h26 : StepsS (Φ 26)) (h21 : BentG 5 (Φ 21)) (ns : List Int) (hn : ns.length ≤ 63) : ∃ outs, runDef Φ W f27 [.sc ns] = some (.bool true, outs) := by
  obtain ⟨cs, x, hc, e0⟩ := h12 ns hn
  have hp : PenOk 0 (penL cs 0 0) := ⟨cs, 0, 0, rfl, by decide, by decide, hc⟩
  obtain ⟨o1, y2, y3, y4, y5, y6, y7, y8, e1, _⟩ := law_loop (Φ := Φ) (W := W) (s0 := .sc ns) (z9 := .un) (z10 := .un) h14 h15 h19 h24 h25 h26 h21 (rngL 0 6) 0 (penL cs 0 0) .un .un .un .un .un .un .un hp (by rw [rng_len' (by decide)]; decide)
  obtain ⟨d1, y, e2⟩ := deep_loop (Φ := Φ) (W := W) h25 (s0 := .sc ns) (s1' := .ow o1) (s2' := y2) (s3' := y3) (s4' := y4) (s5' := y5) (s6' := y6) (s7' := y7) (s8' := y8) (rngL 0 16) 0 (.tuple []) .un ⟨by decide +kernel, by decide +kernel, by decide +kernel⟩ (by rw [rng_len' (by decide)]; decide)
  refine ⟨_, run_rt (f := f27) (args := [.sc ns]) (s0 := [.sc ns, .un, .un, .un, .un, .un, .un, .un, .un, .un, .un]) (s := [.sc ns, .ow o1, y2, y3, y4, y5, y6, y7, y8, .sh d1, y]) rfl rfl ?_⟩
  refine s_asgO (xs := [.list (cs.map .int), .int 0, .int 0]) (s1 := [.sc ns, .un, .un, .un, .un, .un, .un, .un, .un, .un, .un]) (x_call (avs := [.s 0]) (s1 := [.sc ns, .un, .un, .un, .un, .un, .un, .un, .un, .un, .un]) (xa_sc rfl xa_nil) (do_ok rfl rfl e0 rfl rfl)) ?_
  refine s_for (items := rngL 0 6) (s1 := [.sc ns, .ow (penL cs 0 0), .un, .un, .un, .un, .un, .un, .un, .un, .un]) (rng_it (x_c rfl) rfl) ?_
  refine (congrArg (fun z => thenF z _) e1).trans ?_
  show thenF (.nx _) _ = _
  rw [thenF_nx]
  refine s_asg (d := .tuple []) (s1 := [.sc ns, .ow o1, y2, y3, y4, y5, y6, y7, y8, .un, .un]) rfl ?_
  refine s_for (items := rngL 0 16) (s1 := [.sc ns, .ow o1, y2, y3, y4, y5, y6, y7, y8, .sh (.tuple []), .un]) (rng_it (x_c rfl) rfl) ?_
  refine (congrArg (fun z => thenF z _) e2).trans ?_
  show thenF (.nx _) _ = _
  rw [thenF_nx]
  refine s_ret ?_
  refine x_andT (r_call h25 (d := .tuple [.int 1, .tuple []]) (n := 10) rfl ⟨by decide +kernel, by decide +kernel, by decide +kernel⟩ (by decide)) rfl ?_
  refine x_andT (r_call h25 (d := .tuple [.int 0, .tuple []]) (n := 10) rfl ⟨by decide +kernel, by decide +kernel, by decide +kernel⟩ (by decide)) rfl ?_
  have hL : ev Φ (.tup (es [.c (.int 4), .bin .Mult (.tup (es [.tup (es [.c (.int 3), .c (.int 2), .tup (es [.c (.int 0), .c (.int 1)]), .tup (es [.c (.int 4), .bin .Sub (.bin .Pow (.c (.int 10)) (.c (.int 6))) (.c (.int 1))])])])) (.c (.int 6))])) [.sc ns, .ow o1, y2, y3, y4, y5, y6, y7, y8, .sh d1, y] = .ok (.tuple [.int 4, .tuple (List.replicate 6 (.tuple [.int 3, .int 2, .tuple [.int 0, .int 1], .tuple [.int 4, .int 999999]]))]) [.sc ns, .ow o1, y2, y3, y4, y5, y6, y7, y8, .sh d1, y] := rfl
  exact r_call h25 hL (n := 1000) ⟨by decide +kernel, by decide +kernel, by decide +kernel⟩ (by decide)
theorem law_ok (ns : List Int) (hn : ns.length ≤ 63) : ∃ outs, sem p.tb W 10 27 [.sc ns] = some (.bool true, outs) := by
  show ∃ outs, sem p.tb W (9 + 1) 27 [.sc ns] = some (.bool true, outs)
  rw [sem_fn (f := f27) rfl]
  exact law_run (v12 8) (v14 8) (v15 6) (v19 3) (v24 5) (v25 2) (v26 1) (v21 5 0 (by decide)) ns hn
end K10

set_option Elab.async false
set_option linter.all false
set_option maxRecDepth 100000
set_option maxHeartbeats 0
namespace K10
open PySem PySem.Spec PyProof.Rows L2 L3
abbrev R0 : PySem.W.OpenRow := PySem.W.OpenLaw.row PySem.Challenge.rw_linkcounts_k10_what_is_a_scheme
abbrev hk : PySem.W.Hook := He.hookD 4 p.fa p.fn
def ob (s : PySem.W.SharedT) : He.AlD := He.obsDG 4 p.fa p.fn (HandSHeadRun.getT s)
theorem ob_is (s : PySem.W.SharedT) : ob s = hk.obs s.abs := He.obsDG_eq (HandSHeadRun.getT_eq s)
theorem run (w : World) : HandSHeadRun.RunEq R0 (PySem.W.view R0.prog [37]) hk ob 4000 loose w := by
  intro os
  kernel_rfl
end K10
open PySem PySem.W PySem.Calls PyProof.Rows
theorem PySem.Challenge.cw_linkcounts_k10_what_is_a_scheme_holds : PySem.Challenge.rw_linkcounts_k10_what_is_a_scheme.Holds := by
  w_on; o_law
  refine HandSHeadRun.head_any (r := OpenLaw.row PySem.Challenge.rw_linkcounts_k10_what_is_a_scheme) (q := view (OpenLaw.row PySem.Challenge.rw_linkcounts_k10_what_is_a_scheme).prog [37]) (H := K10.hk) (ob := K10.ob) (M := 4000) (loose := K10.loose) (d := HandSHeadRun.topDef (OpenLaw.row PySem.Challenge.rw_linkcounts_k10_what_is_a_scheme).prog 37) (kwd := []) K10.ob_is
    (by kernel_rfl) (fun s => by kernel_rfl) K10.run (by kernel_rfl) (by kernel_rfl) (by kernel_rfl) (by rfl) (by first | assumption | decide +kernel) (by decide +kernel) ⟨rfl, rfl, rfl, rfl, rfl, by decide +kernel⟩ ?hw ?hc
  case hw => w_witness2
  case hc =>
    exact L3.law_of (l := PySem.Challenge.rw_linkcounts_k10_what_is_a_scheme) (p := K10.p) (n := 63) (k := 10) (W := 0) (jl := 27) (x := "_law_script") (r := ⟨K10.f27, 37, ["_law_script", "_law_pen", "_law_turn", "_law_scheme_here", "_law_step", "_law_link_here", "_law_some", "_law_near", "_law_own", "_law_deep", "_law_k"]⟩)
      rfl (by decide) (by kernel_rfl) ⟨rfl, by decide, by decide⟩ K10.chk rfl (by kernel_rfl) (by kernel_rfl) rfl (fun ns h => K10.law_ok ns h)

