import PyProof.Rows.All
import Wide.All
import OpenK.AllK
import Wide.FinOn
import HandS.ForMost
import HandS.ForExc
import HandS.SlotsOwn
import HandS.HeadHook1
import HandS.TryMany
import HandS.Flow
import HandS.Defaults
import HandS.More
import HandS.Wide
import HandS.TupAny
import HandS.NoneIn
import HandS.IsInst
import HandS.WordsExc
import KE.KOpsOwn
import HandS.Deep
import HandS.Steps
import HandS.Text
import HandS.Style
import KE.GoesMore
import HandS.Zip
import HandS.SetFor
import HandS.SortInts
import HandS.Strs
import HandS.Conv
import HandS.RaiseMore
import HandS.StrMore
import KE.GoesZip
import KE.KItemsList
import HandS.Star
import HandS.Head0
import HandS.Head1
import HandS.Head2
import HandS.HeadEnd
import HandS.HeadHook2
import HandS.Words
import PyProof.ReprBulk
import PySem.Challenge.RW_finestairs_k06_whole_moved_and_held
set_option Elab.async false
set_option linter.all false
set_option maxRecDepth 100000
set_option maxHeartbeats 4000000
/-! Fs0: room, and no guard around: promises of defs that may ask repr of lists. -/
namespace Fs
open PySem PySem.Spec PyProof.Rows L2

structure Room (k : Nat) (A : Around) : Prop where
  r : L2.Room k A
  g : A.guards = some []
section
variable {j k : Nat} {A : Around}
theorem Room.hd (q : Room k A) : A.handled = none := q.r.hd
theorem Room.dp (q : Room k A) : A.depth + 3 * k + 5 < recursionLimit := q.r.dp
theorem Room.un (q : Room k A) : A.units + 16 * k + 200 < cLine := q.r.un
theorem Room.mono (q : Room k A) (h : j ≤ k) : Room j A := ⟨q.r.mono h, q.g⟩
theorem Room.deeper (q : Room (k + 1) A) (env : Env) : Room k (A.deeper env) := ⟨q.r.deeper env, q.g⟩
theorem Room.in1 (q : Room (k + 1) A) : Room k A.in1 := ⟨q.r.in1, q.g⟩
theorem make_guards {C : Addr} {us : List Value} {kw : List (Str × Value)} (h : A.guards = some []) : (A.under (.builtin "type.__call__" ⟨.ref C :: us, kw⟩)).guards = some [] := by
  have e : (Code.builtin "type.__call__" ⟨.ref C :: us, kw⟩).guards = [] := by
    unfold Code.guards
    rw [show (Code.builtin "type.__call__" ⟨.ref C :: us, kw⟩).isGuard = false from by first | rfl | simp [Code.isGuard, guardIds]]
    rfl
  unfold Around.under
  dsimp only
  rw [e, h]
  rfl
theorem Room.make (q : Room (k + 1) A) (C : Addr) (us : List Value) (kw : List (Str × Value)) : Room k (A.under (.builtin "type.__call__" ⟨.ref C :: us, kw⟩)) := ⟨q.r.make C us kw, make_guards q.g⟩
theorem Room.depth (q : Room k A) : A.depth < recursionLimit := q.r.depth
theorem Room.units (q : Room k A) : A.units + 64 < cLine := q.r.units
theorem Room.units0 (q : Room k A) : A.units < cLine := q.r.units0
end

structure FnOk (P : Program) (w : World) (K : PySem.W.Frag) (mg : Str → Option Value) (base : Heap) (CX : CXT) (k : Nat) (f : Addr) (fd : FuncData) (ps : List Str) (sp : Sp) : Prop where
  len : ∀ xs H Q E, sp xs H Q E → xs.length = ps.length
  run : ∀ (A : Around) (outer : List Env) (s : Shared) (H : Hp) (args : Args) (zs : List Value) (xs : List V) (Q : VK) (E : XK), Room k A → Env0 P w K mg base A outer s H → BindsTo s fd args (ps.zip zs) → Vals xs zs → sp xs H Q E →
    codeAny (model P w) A (.call (.ref f) args) (CR CX outer P w H s Q E) s
def FnR (P : Program) (w : World) (K : PySem.W.Frag) (mg : Str → Option Value) (base : Heap) (CX : CXT) (k : Nat) (f : Addr) (sp : Sp) : Prop :=
  ∀ (A : Around) (outer : List Env) (s : Shared) (H : Hp) (zs : List Value) (xs : List V) (Q : VK) (E : XK), Room k A → Env0 P w K mg base A outer s H → Vals xs zs → sp xs H Q E →
    codeAny (model P w) A (.call (.ref f) ⟨zs, []⟩) (CR CX outer P w H s Q E) s
section
variable {P : Program} {w : World} {K : PySem.W.Frag} {mg : Str → Option Value} {base : Heap} {CX : CXT} {j k : Nat} {f : Addr} {sp sp' : Sp}
theorem FnR.mono (F : FnR P w K mg base CX j f sp) (h : j ≤ k) : FnR P w K mg base CX k f sp := fun A outer s H zs xs Q E q => F A outer s H zs xs Q E (q.mono h)
theorem FnR.imp (F : FnR P w K mg base CX k f sp) (h : ∀ xs H Q E, sp' xs H Q E → sp xs H Q E) : FnR P w K mg base CX k f sp' := fun A outer s H zs xs Q E q e0 r z => F A outer s H zs xs Q E q e0 r (h _ _ _ _ z)
theorem FnOk.raw {fd : FuncData} {ps : List Str} {ds : List Value} {dvs : List V} (F : FnOk P w K mg base CX k f fd ps sp) (hb : Binds K fd ps ds) (hd : Vals dvs ds) : FnR P w K mg base CX k f (fun xs H Q E => sp (xs ++ dvs) H Q E) := by
  intro A outer s H zs xs Q E q e0 r z
  have rr : Vals (xs ++ dvs) (zs ++ ds) := r.append hd
  have ln : (zs ++ ds).length = ps.length := by rw [← rr.length]; exact F.len _ _ _ _ z
  exact F.run A outer s H ⟨zs, []⟩ (zs ++ ds) (xs ++ dvs) Q E q e0 (hb s zs (e0.mod.kin.keeps fun b o y => (e0.bs b o y).1) ln) rr z
end
section
variable {P : Program} {w : World} {K : PySem.W.Frag} {mg : Str → Option Value} {base : Heap} {x qual : Str} {params : Arguments} {body : List Stmt} {scope : Scope} {dvs : List V} {kws : List (Str × V)} {f : Addr} {fd : FuncData}
/-- a def by its body -/
theorem fnOk_of {CX : CXT} {N ps : List Str} {k : Nat} {sp : Sp} (F : FunD K x qual params body scope dvs kws f fd) (S : FnScope N ps scope) (len : ∀ xs H Q E, sp xs H Q E → xs.length = ps.length)
    (hbody : ∀ (cdv : Value) (A : Around) (outer : List Env) (s : Shared) (H : Hp) (xs : List V) (Q : VK) (E : XK), Room k (A.deeper (envOfC qual scope s.heap.objs.size f cdv)) → sp xs H Q E →
      ∃ t, PSs (cxOf CX P w K mg base N qual scope f cdv A outer s H E) body t ∧ t { nx := fun _ H' => Q .non H', rt := Q } (L2.start N xs) H) : FnOk P w K mg base CX (k + 1) f fd ps sp := by
  obtain ⟨oc, od, dV, kV, doc, pm, an, cdv, ct, osl, rfl, lk, hcd, _, _⟩ := F.ex
  refine ⟨len, fun A outer s H args zs xs Q E q v0 hb r z => ?_⟩
  have ln := len _ _ _ _ z
  have KZ : K.In s.heap := v0.mod.kin.keeps fun b o y => (v0.bs b o y).1
  have nl : s.heap.NoLimit := v0.mod.nolimit.keeps fun b o y => (v0.bs b o y).1
  have kd : ∀ y ∈ ps.zip zs, scope.names.lookup y.1 = some .local ∨ (scope.names.lookup y.1 = some .cell ∧ ((cellsFrom (s.heap.objs.size + 1) scope.names []).lookup y.1).isSome = true) := fun ⟨n, v⟩ hy => by
    rcases S.par n (List.of_mem_zip hy).1 with e | e
    · exact .inl e
    · exact .inr ⟨e, PySem.W.cellsFrom_some _ _ _ (.inl e)⟩
  refine codeAny_call_function q.depth (KZ _ _ lk) rfl S.co S.gen rfl (PySem.W.codeRec_of KZ hcd) (hb _ _ _ _ ?_)
  refine wpAny_newFunctionEnv_cells S.kind kd fun env he t1 ic => ?_
  subst he
  refine ⟨nl.keeps ic.toInCall.keep, codeAny_func ?_⟩
  obtain ⟨t, ht, hq⟩ := hbody cdv A outer s H xs Q E (q.deeper _) z
  have J0 : Inv (cxOf CX P w K mg base N qual scope f cdv A outer s H E) [] (L2.start N xs) H t1 := inv_start S q.hd v0 ln r ic
  refine wpAny_mono (ht.run [] t1 (L2.start N xs) H _ J0 hq) (fun fl s' y => ?_) fun e s' y => y
  have fin : ∀ {τ : L2.St} {H' : Hp} {v : V} {u : Value}, Inv (cxOf CX P w K mg base N qual scope f cdv A outer s H E) [] τ H' s' → RelV v u → Q v H' → CE outer P w H s Q u s' :=
    fun {τ H' v u} J rv y => ⟨v, H', J.os, J.bare, J.base, J.hok, rv, y⟩
  cases fl with
  | ret u => obtain ⟨v, τ, H', J, rv, y⟩ := y; exact fin J rv y
  | next => obtain ⟨τ, H', J, y⟩ := y; exact fin (v := V.non) (u := Value.none) J rfl y
  | brk => obtain ⟨_, _, _, y⟩ := y; exact y.elim
  | cont => obtain ⟨_, _, _, y⟩ := y; exact y.elim
end

/-! ### the law's call -/
section
variable {P : Program} {w : World} {K : PySem.W.Frag} {mg mb : Str → Option Value} {CX : CXT} {k : Nat} {fa a : Addr} {fd : FuncData} {x : Str} {sp : Sp} {s₁ : Shared} {us : List Value} {ns : List Int}
theorem law_at (KX : K.In s₁.heap) (hns : s₁.heap.Ns mainGlobals mg) (hb : s₁.heap.Ns builtinsNs mb) (hbb : ∀ x : Str, x ≠ "__name__" → mb x = bootBuiltins x) (nl : s₁.heap.NoLimit) (hg : s₁.gens = #[])
    (ha : s₁.heap.get? a = some { cls := .type "list", data := .seq us.toArray }) (hr : Room k callerA)
    (F : ∀ base : Heap, K.In base → base.Ns mainGlobals mg → FnOk P w K mg base CX k fa fd [x] sp) (bd : ∀ (s : Shared) (u : Value), BindsTo s fd ⟨[u], []⟩ [(x, u)])
    (hsp : ∀ H : Hp, L2.Only H → SqL K H a (ns.map V.int) → sp [.ref a] H (fun v _ => v = .bl true) fun _ _ _ => False)
    (hCX : ∀ H e s', CX [] H s₁ (fun _ _ _ => False) e s' → False)
    {H : Hp} (hO : L2.Only H) (hS : SqL K H a (ns.map V.int)) (ok : HOk P w H s₁.heap) (hA : ∀ b, H b ≠ none → b = a) (hK : H a ≠ none → K.lookup a = none) :
    codeAny (model P w) callerA (.call (.ref fa) ⟨[.ref a], []⟩) (fun r s' => r = .ok (.ret (.bool true)) ∧ OldK s₁.heap s'.heap ∧ s'.os = s₁.os ∧ AllBare s'.gens) s₁ := by
  have nd : ∀ {b : Addr} {o : Obj} {es : Array DictEntry} {ep : Nat}, s₁.heap.get? b = some o → o.data = .dict es ep → H b = none := fun {b o es ep} e d => by
    cases y : H b with
    | none => rfl
    | some u =>
      obtain rfl : b = a := hA b (by rw [y]; simp)
      rw [ha] at e; cases e
      cases (show Data.seq us.toArray _ = Data.dict es ep from d)
  have nK : ∀ {b : Addr} {m : Str → Option Value}, s₁.heap.Ns b m → (hidT s₁.heap H).Ns b m := fun {b m} ⟨o, es, ep, e, d, r⟩ => ⟨o, es, ep, hidT_get e (nd e d), d, r⟩
  have KB : K.In (hidT s₁.heap H) := fun b o e => hidT_get (KX b o e) (by
    cases y : H b with
    | none => rfl
    | some u =>
      obtain rfl : b = a := hA b (by rw [y]; simp)
      rw [hK (by rw [y]; simp)] at e; cases e)
  have MB : Mod K mg (hidT s₁.heap H) := ⟨KB, nK hns, ⟨mb, nK hb, hbb⟩, let ⟨mc, y1, y2⟩ := nl; ⟨mc, nK y1, y2⟩⟩
  have v0 : Env0 P w K mg (hidT s₁.heap H) callerA [] s₁ H := ⟨rfl, MB, fun b o e => of_hidT e, Nat.le_of_eq (hidT_size _ _), trivial, fun b z => (List.not_mem_nil z).elim, ok, .of_eq hg⟩
  refine codeAny_mono ((F _ KB (nK hns)).run callerA [] s₁ H ⟨[.ref a], []⟩ [.ref a] [.ref a] _ _ hr v0 (bd s₁ (.ref a)) (.cons rfl .nil) (hsp H hO hS)) fun r s' h => ?_
  cases r with
  | error e => exact (hCX H e s' h).elim
  | ok fl =>
    cases fl with
    | next => exact False.elim h
    | brk => exact False.elim h
    | cont => exact False.elim h
    | ret u =>
      obtain ⟨v, H', os, bare, un, ok', r', y⟩ := h
      obtain rfl : v = .bl true := y
      obtain rfl : u = Value.bool true := r'
      refine ⟨rfl, OldK.of_keep fun b o e => ?_, os, bare⟩
      cases y : H b with
      | none => exact un.keep b o e y (fun z => List.not_mem_nil z) (by simp)
      | some u =>
        rcases hO b with z | ⟨ob, xs, z⟩
        · rw [y] at z; cases z
        · obtain ⟨e1, _⟩ := ok b _ z
          obtain ⟨e2, _⟩ := ok' b _ (un.frzs b ob _ z)
          rw [e] at e1; cases e1
          exact e2
theorem law_callG (KX : K.In s₁.heap) (hns : s₁.heap.Ns mainGlobals mg) (hb : s₁.heap.Ns builtinsNs mb) (hbb : ∀ x : Str, x ≠ "__name__" → mb x = bootBuiltins x) (nl : s₁.heap.NoLimit) (hg : s₁.gens = #[])
    (ha : s₁.heap.get? a = some { cls := .type "list", data := .seq us.toArray }) (hi : IntsAre us ns) (hl : ns.length ≤ sizeLine) (hr : Room k callerA)
    (F : ∀ base : Heap, K.In base → base.Ns mainGlobals mg → FnOk P w K mg base CX k fa fd [x] sp) (bd : ∀ (s : Shared) (u : Value), BindsTo s fd ⟨[u], []⟩ [(x, u)])
    (hsp : ∀ H : Hp, L2.Only H → SqL K H a (ns.map V.int) → sp [.ref a] H (fun v _ => v = .bl true) fun _ _ _ => False)
    (hCX : ∀ H e s', CX [] H s₁ (fun _ _ _ => False) e s' → False) :
    codeAny (model P w) callerA (.call (.ref fa) ⟨[.ref a], []⟩) (fun r s' => r = .ok (.ret (.bool true)) ∧ OldK s₁.heap s'.heap ∧ s'.os = s₁.os ∧ AllBare s'.gens) s₁ := by
  have rv := vals_ints hi
  have lv := hi.length
  cases y : K.lookup a with
  | some o =>
    have e := KX a o y
    rw [ha] at e; cases e
    exact law_at KX hns hb hbb nl hg ha hr F bd hsp hCX (H := fun _ => none) (fun _ => .inl rfl) (.inr ⟨_, us.toArray, _, y, rfl, rfl, rfl, by rw [List.size_toArray, lv]; exact hl, by simpa using rv⟩) (fun b u z => by cases (show (none : Option HO) = some u from z)) (fun b z => absurd rfl z) fun z => absurd rfl z
  | none =>
    refine law_at KX hns hb hbb nl hg ha hr F bd hsp hCX (H := fun b => if b = a then some (.frz { cls := .type "list", data := .seq us.toArray } (.lst (ns.map V.int))) else none) (fun b => ?_) (.inl (.inr ⟨{ cls := .type "list", data := .seq us.toArray }, if_pos rfl⟩)) (fun b u z => ?_) (fun b z => ?_) fun _ => y
    · by_cases e : b = a
      · exact .inr ⟨_, _, if_pos e⟩
      · exact .inl (if_neg e)
    · by_cases e : b = a
      · cases (if_pos e).symm.trans z
        subst e
        exact ⟨ha, by rw [List.length_map]; exact hl, us, _, rv, ha⟩
      · cases (if_neg e).symm.trans z
    · by_cases e : b = a
      · exact e
      · exact absurd (if_neg e) z
end
end Fs
set_option maxHeartbeats 4000000
/-! Fs1: data without addresses, a store of what may change, and readings over both. -/
namespace Fs
open PySem PySem.Spec PyProof.Rows L2

/-! ### data -/
inductive Dt where
  | non | bl (b : Bool) | int (i : Int) | str (s : Str) | ty (n : String)
  | tup (ds : List Dt) | lst (ds : List Dt) | dct (ks vs : List Dt)
  | ins (c : Str) (ds : List Dt) | ref (a : Addr) | glo (x : Str) | scr (ns : List Int)
/-- what may change -/
inductive MO where
  | lst (ds : List Dt) | dct (ks vs : List Dt) | obj (c : Str) (ns : List Str) (ds : List Dt) | slt (c : Str) (ds : List (Option Dt))
abbrev Mem := Addr → Option MO
def Mem.put (M : Mem) (a : Addr) (o : MO) : Mem := fun b => if b = a then some o else M b
theorem Mem.put_same {M : Mem} {a : Addr} {o : MO} : M.put a o a = some o := if_pos rfl
theorem Mem.put_ne {M : Mem} {a b : Addr} {o : MO} (h : b ≠ a) : M.put a o b = M b := if_neg h
theorem Mem.put_put {M : Mem} {a : Addr} {o u : MO} : (M.put a o).put a u = M.put a u := by
  funext b; unfold Mem.put; split <;> rfl
def Mem.del (M : Mem) (a : Addr) : Mem := fun b => if b = a then none else M b
/-- less is known -/
def Mem.Le (M M' : Mem) : Prop := ∀ a o, M a = some o → M' a = some o
theorem Mem.Le.refl (M : Mem) : Mem.Le M M := fun _ _ h => h
theorem Mem.Le.trans {A B C : Mem} (h : Mem.Le A B) (g : Mem.Le B C) : Mem.Le A C := fun a o q => g a o (h a o q)
theorem Mem.Le.put {M : Mem} {a : Addr} {o : MO} (h : M a = none) : Mem.Le M (M.put a o) := fun b u q => by
  have hb : b ≠ a := fun e => by rw [e, h] at q; cases q
  rw [Mem.put_ne hb]; exact q

mutual
/-- v stands for d, by what F says -/
def IsD (K : PySem.W.Frag) (F : Hp) : Dt → V → Prop
  | .non, v => v = .non
  | .bl b, v => v = .bl b
  | .int i, v => v = .int i
  | .str s, v => v = .str s
  | .ty n, v => v = .ty n
  | .ref a, v => v = .ref a
  | .glo x, v => v = .ref (He.ga K x)
  | .tup ds, v => ∃ a vs, v = .ref a ∧ SqT K F a vs ∧ IsDs K F ds vs
  | .lst ds, v => ∃ a vs, v = .ref a ∧ F a = some (.lst vs) ∧ IsDs K F ds vs
  | .scr ns, v => ∃ a, v = .ref a ∧ SqL K F a (ns.map V.int)
  | .ins c ds, v => ∃ a dx vs, v = .ref a ∧ (F a = some (SlX.SlO a (He.ga K c) dx (vs.map some)) ∧ F dx = some (.xd [])) ∧ IsDs K F ds vs
  | .dct _ _, _ => False
def IsDs (K : PySem.W.Frag) (F : Hp) : List Dt → List V → Prop
  | [], vs => vs = []
  | d :: ds, vs => ∃ v r, vs = v :: r ∧ IsD K F d v ∧ IsDs K F ds r
end

theorem seqT_mono {K : PySem.W.Frag} {H H' : Hp} {a : Addr} {xs : List V} (e : Same H H') (h : SqT K H a xs) : SqT K H' a xs := by
  rcases h with (h | ⟨o, h⟩) | h
  · exact .inl (.inl (e _ _ h))
  · exact .inl (.inr ⟨o, e _ _ h⟩)
  · exact .inr h
mutual
theorem IsD.mono {K : PySem.W.Frag} {F F' : Hp} (e : Same F F') : ∀ (d : Dt) (v : V), IsD K F d v → IsD K F' d v
  | .non, _, h => h
  | .bl _, _, h => h
  | .int _, _, h => h
  | .str _, _, h => h
  | .ty _, _, h => h
  | .ref _, _, h => h
  | .glo _, _, h => h
  | .tup ds, _, ⟨a, vs, h1, h2, h3⟩ => ⟨a, vs, h1, seqT_mono e h2, IsDs.mono e ds vs h3⟩
  | .lst ds, _, ⟨a, vs, h1, h2, h3⟩ => ⟨a, vs, h1, e _ _ h2, IsDs.mono e ds vs h3⟩
  | .scr _, _, ⟨a, h1, h2⟩ => ⟨a, h1, e.seq h2⟩
  | .ins _ ds, _, ⟨a, dx, vs, h1, h2, h3⟩ => ⟨a, dx, vs, h1, ⟨e _ _ h2.1, e _ _ h2.2⟩, IsDs.mono e ds vs h3⟩
  | .dct _ _, _, h => h
theorem IsDs.mono {K : PySem.W.Frag} {F F' : Hp} (e : Same F F') : ∀ (ds : List Dt) (vs : List V), IsDs K F ds vs → IsDs K F' ds vs
  | [], _, h => h
  | d :: ds, _, ⟨v, r, h1, h2, h3⟩ => ⟨v, r, h1, IsD.mono e d v h2, IsDs.mono e ds r h3⟩
end
theorem IsDs.length {K : PySem.W.Frag} {F : Hp} : ∀ {ds : List Dt} {vs : List V}, IsDs K F ds vs → vs.length = ds.length
  | [], _, h => by rw [show _ = [] from h]; rfl
  | d :: ds, _, ⟨v, r, h1, _, h3⟩ => by subst h1; simp only [List.length_cons]; rw [IsDs.length h3]
theorem IsDs.get {K : PySem.W.Frag} {F : Hp} : ∀ {ds : List Dt} {vs : List V} {i : Nat} {d : Dt}, IsDs K F ds vs → ds[i]? = some d → ∃ v, vs[i]? = some v ∧ IsD K F d v
  | [], _, _, _, _, e => by simp at e
  | d :: ds, _, 0, d', ⟨v, r, h1, h2, _⟩, e => by subst h1; simp at e; subst e; exact ⟨v, rfl, h2⟩
  | d :: ds, _, i + 1, d', ⟨v, r, h1, _, h3⟩, e => by
    subst h1
    obtain ⟨v', q1, q2⟩ := IsDs.get (i := i) (d := d') h3 (by simpa using e)
    exact ⟨v', by simpa using q1, q2⟩
theorem IsDs.append {K : PySem.W.Frag} {F : Hp} : ∀ {ds es : List Dt} {vs us : List V}, IsDs K F ds vs → IsDs K F es us → IsDs K F (ds ++ es) (vs ++ us)
  | [], _, _, _, h, g => by rw [show _ = [] from h]; exact g
  | d :: ds, _, _, _, ⟨v, r, h1, h2, h3⟩, g => by subst h1; exact ⟨v, r ++ _, rfl, h2, IsDs.append h3 g⟩
theorem IsDs.set {K : PySem.W.Frag} {F : Hp} {d : Dt} {v : V} (q : IsD K F d v) : ∀ {ds : List Dt} {vs : List V} (i : Nat), IsDs K F ds vs → IsDs K F (ds.set i d) (vs.set i v)
  | [], _, _, h => by rw [show _ = [] from h]; rfl
  | _ :: ds, _, 0, ⟨_, r, h1, _, h3⟩ => by subst h1; exact ⟨v, r, rfl, q, h3⟩
  | e :: ds, _, i + 1, ⟨u, r, h1, h2, h3⟩ => by subst h1; exact ⟨u, r.set i v, rfl, h2, IsDs.set q i h3⟩
theorem IsDs.take {K : PySem.W.Frag} {F : Hp} : ∀ {ds : List Dt} {vs : List V} (n : Nat), IsDs K F ds vs → IsDs K F (ds.take n) (vs.take n)
  | _, _, 0, _ => rfl
  | [], _, n + 1, h => by rw [show _ = [] from h]; rfl
  | d :: ds, _, n + 1, ⟨v, r, h1, h2, h3⟩ => by subst h1; exact ⟨v, r.take n, rfl, h2, IsDs.take n h3⟩
theorem IsDs.drop {K : PySem.W.Frag} {F : Hp} : ∀ {ds : List Dt} {vs : List V} (n : Nat), IsDs K F ds vs → IsDs K F (ds.drop n) (vs.drop n)
  | _, _, 0, h => h
  | [], _, n + 1, h => by rw [show _ = [] from h]; rfl
  | d :: ds, _, n + 1, ⟨v, r, h1, h2, h3⟩ => by subst h1; exact IsDs.drop n h3
theorem IsDs.reverse {K : PySem.W.Frag} {F : Hp} : ∀ {ds : List Dt} {vs : List V}, IsDs K F ds vs → IsDs K F ds.reverse vs.reverse
  | [], _, h => by rw [show _ = [] from h]; rfl
  | d :: ds, _, ⟨v, r, h1, h2, h3⟩ => by
    subst h1
    rw [List.reverse_cons, List.reverse_cons]
    exact IsDs.append (IsDs.reverse h3) ⟨v, [], rfl, h2, rfl⟩

/-! ### the store -/
inductive IsOs (K : PySem.W.Frag) (F : Hp) : List (Option Dt) → List (Option V) → Prop
  | nil : IsOs K F [] []
  | none {ds vs} : IsOs K F ds vs → IsOs K F (none :: ds) (none :: vs)
  | some {d v ds vs} : IsD K F d v → IsOs K F ds vs → IsOs K F (some d :: ds) (some v :: vs)
theorem IsOs.mono {K : PySem.W.Frag} {F F' : Hp} (e : Same F F') : ∀ {ds : List (Option Dt)} {vs : List (Option V)}, IsOs K F ds vs → IsOs K F' ds vs
  | _, _, .nil => .nil
  | _, _, .none h => .none (IsOs.mono e h)
  | _, _, .some q h => .some (IsD.mono e _ _ q) (IsOs.mono e h)
/-- an instance with slots that may change -/
def SltM (K : PySem.W.Frag) (F H : Hp) (a : Addr) (c : Str) (ds : List (Option Dt)) : Prop :=
  ∃ dx vs u, SlX.Slt H a (He.ga K c) dx vs ∧ H dx = some u ∧ ((u = .own a ∧ F dx = none) ∨ u = .xd []) ∧ dx ≠ a ∧ IsOs K F ds vs
theorem SltM.move {K : PySem.W.Frag} {F H F' H' : Hp} {a : Addr} {c : Str} {ds : List (Option Dt)} (h : SltM K F H a c ds) (s : Same F F') (ha : ∀ u, H a = some u → H' a = some u)
    (hd : ∀ dx u, H dx = some u → (u = .own a ∨ u = .xd []) → dx ≠ a → H' dx = some u ∧ (u = .own a → F dx = none → F' dx = none)) : SltM K F' H' a c ds := by
  obtain ⟨dx, vs, u, h1, h2, h3, h4, h7⟩ := h
  obtain ⟨q1, q2⟩ := hd dx u h2 (h3.elim (fun z => .inl z.1) .inr) h4
  refine ⟨dx, vs, u, ?_, q1, h3.elim (fun z => .inl ⟨z.1, q2 z.1 z.2⟩) .inr, h4, h7.mono s⟩
  rcases h1 with ⟨e1, e2⟩ | ⟨e1, e2⟩
  · exact .inl ⟨ha _ e1, e2⟩
  · rw [h2] at e2
    cases e2
    exact .inr ⟨ha _ e1, q1⟩
theorem SltM.there {K : PySem.W.Frag} {F H : Hp} {a : Addr} {c : Str} {ds : List (Option Dt)} (h : SltM K F H a c ds) : ∃ u, H a = some u ∧ (∀ xs, u ≠ .lst xs) ∧ (∀ x, u ≠ .own x) ∧ u ≠ .xd [] := by
  obtain ⟨dx, vs, u, h1, _⟩ := h
  rcases h1 with ⟨e1, e2⟩ | ⟨e1, e2⟩
  · exact ⟨_, e1, fun _ z => (by cases z), fun _ z => (by cases z), fun z => (by cases z)⟩
  · exact ⟨_, e1, fun _ z => (by unfold SlX.SlO at z; cases z), fun _ z => (by unfold SlX.SlO at z; cases z), fun z => (by unfold SlX.SlO at z; cases z)⟩
def MoOk (K : PySem.W.Frag) (F H : Hp) (a : Addr) : MO → Prop
  | .lst ds => ∃ vs, H a = some (.lst vs) ∧ IsDs K F ds vs
  | .slt c ds => SltM K F H a c ds
  | _ => False
theorem MoOk.there {K : PySem.W.Frag} {F H : Hp} {a : Addr} {o : MO} (h : MoOk K F H a o) : ∃ u, H a = some u ∧ (∀ x, u ≠ .own x) ∧ u ≠ .xd [] := by
  cases o with
  | lst ds => obtain ⟨vs, e, _⟩ := h; exact ⟨_, e, fun _ z => (by cases z), fun z => (by cases z)⟩
  | slt c ds => obtain ⟨u, e, _, e2, e3⟩ := SltM.there h; exact ⟨u, e, e2, e3⟩
  | _ => exact h.elim
/-- G: what stands aside; F: what stays; M: what may change -/
structure Rep (K : PySem.W.Frag) (G F H : Hp) (M : Mem) : Prop where
  frm : Same G H
  frF : ∀ a o, G a = some o → F a = none
  frM : ∀ a o, G a = some o → M a = none
  frL : ∀ a o, G a = some o → ∃ xs, o = .lst xs
  sub : Same F H
  free : ∀ a o, M a = some o → F a = none
  mem : ∀ a o, M a = some o → MoOk K F H a o
theorem Rep.less {K : PySem.W.Frag} {G F H : Hp} {M M' : Mem} (r : Rep K G F H M) (h : Mem.Le M' M) : Rep K G F H M' := by
  refine ⟨r.frm, r.frF, fun a o q => ?_, r.frL, r.sub, fun a o q => r.free a o (h a o q), fun a o q => r.mem a o (h a o q)⟩
  cases e : M' a with
  | none => rfl
  | some u =>
    have z := r.frM a o q
    rw [h a u e] at z
    cases z

/-! ### slots -/
abbrev DEnv := List (Option Dt)
def eget : DEnv → Nat → Option Dt
  | [], _ => none
  | d :: _, 0 => d
  | _ :: r, n + 1 => eget r n
def eset : DEnv → Nat → Option Dt → DEnv
  | [], _, _ => []
  | _ :: r, 0, d => d :: r
  | e :: r, n + 1, d => e :: eset r n d
structure EnvR (K : PySem.W.Frag) (F : Hp) (ρ : DEnv) (σ : L2.St) : Prop where
  len : σ.length = ρ.length
  val : ∀ i d, eget ρ i = some d → ∃ v, σ[i]? = some (some v) ∧ IsD K F d v
theorem EnvR.mono {K : PySem.W.Frag} {F F' : Hp} {ρ : DEnv} {σ : L2.St} (r : EnvR K F ρ σ) (e : Same F F') : EnvR K F' ρ σ :=
  ⟨r.len, fun i d h => let ⟨v, h1, h2⟩ := r.val i d h; ⟨v, h1, IsD.mono e d v h2⟩⟩
theorem eset_length : ∀ (ρ : DEnv) (i : Nat) (d : Option Dt), (eset ρ i d).length = ρ.length
  | [], _, _ => rfl
  | _ :: _, 0, _ => rfl
  | _ :: r, n + 1, d => congrArg (· + 1) (eset_length r n d)
theorem eget_eset : ∀ (ρ : DEnv) (i j : Nat) (d : Option Dt), eget (eset ρ i d) j = if j = i ∧ i < ρ.length then d else eget ρ j
  | [], i, j, d => by
    rw [if_neg (by intro h; exact absurd h.2 (Nat.not_lt_zero _))]
    all_goals rfl
  | _ :: _, 0, 0, _ => by
    rw [if_pos ⟨rfl, Nat.succ_pos _⟩]
    all_goals rfl
  | _ :: _, 0, j + 1, _ => by
    rw [if_neg (by intro h; exact absurd h.1 (Nat.succ_ne_zero _))]
    all_goals rfl
  | _ :: _, i + 1, 0, _ => by
    rw [if_neg (by intro h; exact absurd h.1.symm (Nat.succ_ne_zero _))]
    all_goals rfl
  | e :: r, i + 1, j + 1, d => by
    show eget (eset r i d) j = _
    rw [eget_eset r i j d]
    by_cases h : j = i ∧ i < r.length
    · rw [if_pos h, if_pos ⟨by rw [h.1], Nat.succ_lt_succ h.2⟩]
    · rw [if_neg h, if_neg (fun q => h ⟨Nat.succ.inj q.1, Nat.lt_of_succ_lt_succ q.2⟩)]
      all_goals rfl
theorem EnvR.set {K : PySem.W.Frag} {F : Hp} {ρ : DEnv} {σ : L2.St} (r : EnvR K F ρ σ) {i : Nat} {d : Dt} {v : V} (h : IsD K F d v) : EnvR K F (eset ρ i (some d)) (σ.set i (some v)) := by
  refine ⟨by rw [List.length_set, eset_length]; exact r.len, fun j e q => ?_⟩
  rw [eget_eset] at q
  by_cases hj : j = i ∧ i < ρ.length
  · rw [if_pos hj] at q
    cases q
    obtain ⟨rfl, hl⟩ := hj
    exact ⟨v, List.getElem?_set_self (by rw [r.len]; exact hl), h⟩
  · rw [if_neg hj] at q
    obtain ⟨u, h1, h2⟩ := r.val j e q
    refine ⟨u, ?_, h2⟩
    by_cases e1 : j = i
    · have hl : i < σ.length := by
        obtain ⟨hh, _⟩ := List.getElem?_eq_some_iff.mp h1
        rw [← e1]; exact hh
      exact absurd ⟨e1, by rw [← r.len]; exact hl⟩ hj
    · rw [List.getElem?_set_ne (fun z => e1 z.symm)]
      exact h1

/-! ### exceptions -/
inductive XC where
  | own (c : Str) | blt (n : String)
def XC.v (K : PySem.W.Frag) : XC → Value
  | .own c => .ref (He.ga K c)
  | .blt n => .type n
def XdOk (K : PySem.W.Frag) (F : Hp) (dd : Option Addr) (d : Dt) : XC → Prop
  | .own _ => ∃ a v, dd = some a ∧ F a = some (.xd [("value", v)]) ∧ IsD K F d v
  | .blt _ => True
abbrev EX := XC → Dt → Mem → Prop
abbrev EXS := XC → Dt → DEnv → Mem → Prop

/-! ### readings over data -/
abbrev DK := Dt → Mem → Prop
abbrev WE := EX → DEnv → Mem → DK → Prop
abbrev WT := EX → DEnv → Mem → (Bool → Mem → Prop) → Prop
abbrev WA := EX → DEnv → Mem → (List Dt → Mem → Prop) → Prop
structure DEnds where
  nx : DEnv → Mem → Prop
  rt : DK
  bk : DEnv → Mem → Prop := fun _ _ => False
  ct : DEnv → Mem → Prop := fun _ _ => False
abbrev WS := EXS → DEnds → DEnv → Mem → Prop

section
variable (K : PySem.W.Frag) (W : WX)
/-- a wish about data, said of values -/
def KOk (G F : Hp) (P : DK) (Q : VK) : Prop := ∀ d M' F' H' v, P d M' → Same F F' → Rep K G F' H' M' → IsD K F' d v → Q v H'
def XOk (G F : Hp) (ex : EX) (σ : L2.St) : Prop := ∀ x d M' F' H' dd, ex x d M' → Same F F' → Rep K G F' H' M' → XdOk K F' dd d x → W (x.v K) dd σ H'
def XSOk (G F : Hp) (ex : EXS) : Prop := ∀ x d ρ' M' F' H' σ' dd, ex x d ρ' M' → Same F F' → Rep K G F' H' M' → EnvR K F' ρ' σ' → XdOk K F' dd d x → W (x.v K) dd σ' H'
def NOk (G F : Hp) (P : DEnv → Mem → Prop) (Q : L2.St → Hp → Prop) : Prop := ∀ ρ' M' F' H' σ', P ρ' M' → Same F F' → Rep K G F' H' M' → EnvR K F' ρ' σ' → Q σ' H'
structure EndsOk (G F : Hp) (D : DEnds) (E : Ends) : Prop where
  nx : NOk K G F D.nx E.nx
  rt : KOk K G F D.rt E.rt
  bk : NOk K G F D.bk E.bk
  ct : NOk K G F D.ct E.ct
def lE (w : WE) : TE := fun σ H Q => ∃ ρ M G F P ex, Rep K G F H M ∧ EnvR K F ρ σ ∧ w ex ρ M P ∧ KOk K G F P Q ∧ XOk K W G F ex σ
def lT (w : WT) : TT := fun σ H Q => ∃ ρ M G F P ex, Rep K G F H M ∧ EnvR K F ρ σ ∧ w ex ρ M P ∧ (∀ b M' F' H', P b M' → Same F F' → Rep K G F' H' M' → Q b H') ∧ XOk K W G F ex σ
def lA (w : WA) : TA := fun σ H Q => ∃ ρ M G F P ex, Rep K G F H M ∧ EnvR K F ρ σ ∧ w ex ρ M P ∧ (∀ ds M' F' H' vs, P ds M' → Same F F' → Rep K G F' H' M' → IsDs K F' ds vs → Q vs H') ∧ XOk K W G F ex σ
def lS (w : WS) : TS := fun E σ H => ∃ ρ M G F D ex, Rep K G F H M ∧ EnvR K F ρ σ ∧ w ex D ρ M ∧ EndsOk K G F D E ∧ XSOk K W G F ex
end
theorem KOk.mono {K : PySem.W.Frag} {G F F1 : Hp} {P : DK} {Q : VK} (h : KOk K G F P Q) (e : Same F F1) : KOk K G F1 P Q := fun d M' F' H' v a b => h d M' F' H' v a (e.trans b)
theorem XOk.mono {K : PySem.W.Frag} {W : WX} {G F F1 : Hp} {ex : EX} {σ : L2.St} (h : XOk K W G F ex σ) (e : Same F F1) : XOk K W G F1 ex σ := fun x d M' F' H' dd a b => h x d M' F' H' dd a (e.trans b)
theorem XSOk.mono {K : PySem.W.Frag} {W : WX} {G F F1 : Hp} {ex : EXS} (h : XSOk K W G F ex) (e : Same F F1) : XSOk K W G F1 ex := fun x d ρ' M' F' H' σ' dd a b => h x d ρ' M' F' H' σ' dd a (e.trans b)
theorem NOk.mono {K : PySem.W.Frag} {G F F1 : Hp} {P : DEnv → Mem → Prop} {Q : L2.St → Hp → Prop} (h : NOk K G F P Q) (e : Same F F1) : NOk K G F1 P Q := fun ρ' M' F' H' σ' a b => h ρ' M' F' H' σ' a (e.trans b)
theorem EndsOk.mono {K : PySem.W.Frag} {G F F1 : Hp} {D : DEnds} {E : Ends} (h : EndsOk K G F D E) (e : Same F F1) : EndsOk K G F1 D E := ⟨h.nx.mono e, h.rt.mono e, h.bk.mono e, h.ct.mono e⟩
theorem XSOk.at {K : PySem.W.Frag} {W : WX} {G F : Hp} {ex : EXS} {ρ : DEnv} {σ : L2.St} (h : XSOk K W G F ex) (r : EnvR K F ρ σ) : XOk K W G F (fun x d M => ex x d ρ M) σ :=
  fun x d M' F' H' dd a b c q => h x d ρ M' F' H' σ dd a b c (r.mono b) q

/-! ### judgements -/
section
variable (X : Cx) (W : WX)
def JE (e : Expr) (w : WE) : Prop := PE X e (lE X.K W w)
def JT (e : Expr) (w : WT) : Prop := PT X e (lT X.K W w)
def JA (es : List Expr) (w : WA) : Prop := PA X es (lA X.K W w)
def JS (st : Stmt) (w : WS) : Prop := PS X st (lS X.K W w)
def JSs (st : List Stmt) (w : WS) : Prop := PSs X st (lS X.K W w)
end
theorem PE.imp {X : Cx} {e : Expr} {t t' : TE} (h : PE X e t) (i : ∀ σ H Q, t' σ H Q → t σ H Q) : PE X e t' := ⟨fun pins s σ H Q I q => h.run pins s σ H Q I (i σ H Q q)⟩
theorem PT.imp {X : Cx} {e : Expr} {t t' : TT} (h : PT X e t) (i : ∀ σ H Q, t' σ H Q → t σ H Q) : PT X e t' := ⟨fun pins s σ H Q I q => h.run pins s σ H Q I (i σ H Q q)⟩
theorem PA.imp {X : Cx} {e : List Expr} {t t' : TA} (h : PA X e t) (i : ∀ σ H Q, t' σ H Q → t σ H Q) : PA X e t' := ⟨fun pos pins s σ H Q I q => h.run pos pins s σ H Q I (i σ H Q q)⟩
theorem PS.imp {X : Cx} {e : Stmt} {t t' : TS} (h : PS X e t) (i : ∀ D σ H, t' D σ H → t D σ H) : PS X e t' := ⟨fun pins s σ H D I q => h.run pins s σ H D I (i D σ H q)⟩
theorem PSs.imp {X : Cx} {e : List Stmt} {t t' : TS} (h : PSs X e t) (i : ∀ D σ H, t' D σ H → t D σ H) : PSs X e t' := ⟨fun pins s σ H D I q => h.run pins s σ H D I (i D σ H q)⟩

/-! ### names, constants -/
def wVar (i : Nat) : WE := fun _ ρ M P => match eget ρ i with
  | some d => P d M
  | none => False
def wC (d : Dt) : WE := fun _ _ M P => P d M
section
variable {X : Cx} {W : WX} {pos : Pos}
theorem je_var {i : Nat} {x : Str} (hN : X.N[i]? = some x) (hv : Vis X.env.scope x) (hd : (x == ("__debug__" : Str)) = false) (hcd : (x == ("__classdict__" : Str)) = false) : JE X W (.Name x pos) (wVar i) := by
  refine PE.imp (pe_var hN hv hd hcd) fun σ H Q h => ?_
  obtain ⟨ρ, M, G, F, P, ex, R, E, h, k, _⟩ := h
  unfold wVar at h
  cases e : eget ρ i with
  | none => rw [e] at h; exact h.elim
  | some d =>
    rw [e] at h
    obtain ⟨v, h1, h2⟩ := E.val i d e
    exact ⟨v, h1, k d M F H v h (Same.refl F) R h2⟩
theorem je_c {e : Expr} {d : Dt} {v : V} (h : PE X e (tC v)) (hd : ∀ F, IsD X.K F d v) : JE X W e (wC d) := by
  refine PE.imp h fun σ H Q h => ?_
  obtain ⟨ρ, M, G, F, P, ex, R, E, h, k, _⟩ := h
  exact k d M F H v h (Same.refl F) R (hd F)
theorem je_int {i : Int} {j : Nat} : JE X W (.Constant (.int i) j pos) (wC (.int i)) := je_c pe_int fun _ => rfl
theorem je_bl {i : Bool} {j : Nat} : JE X W (.Constant (.bool i) j pos) (wC (.bl i)) := je_c pe_bl fun _ => rfl
theorem je_non {j : Nat} : JE X W (.Constant .none j pos) (wC .non) := je_c pe_non fun _ => rfl
theorem je_str {x : Str} {j : Nat} : JE X W (.Constant (.str x) j pos) (wC (.str x)) := je_c pe_str fun _ => rfl
/-- a module's object -/
theorem je_glo {x : Str} (hg : Gl X x) (hm : X.mg x = some (.ref (He.ga X.K x))) (hd : (x == ("__debug__" : Str)) = false) : JE X W (.Name x pos) (wC (.glo x)) :=
  je_c (pe_glob (v := .ref (He.ga X.K x)) hg hm rfl hd) fun _ => rfl
theorem je_gint {x : Str} {i : Int} {t : Tok} (hg : Gl X x) (hm : X.mg x = some (.int i t)) (hd : (x == ("__debug__" : Str)) = false) : JE X W (.Name x pos) (wC (.int i)) :=
  je_c (pe_glob (v := .int i) hg hm ⟨t, rfl⟩ hd) fun _ => rfl
theorem je_gstr {x z : Str} {t : Tok} (hg : Gl X x) (hm : X.mg x = some (.str z t)) (hd : (x == ("__debug__" : Str)) = false) : JE X W (.Name x pos) (wC (.str z)) :=
  je_c (pe_glob (v := .str z) hg hm ⟨t, rfl⟩ hd) fun _ => rfl
end
end Fs
set_option maxHeartbeats 4000000
/-! Fs2: rules for expressions, tests, statements over data. -/
namespace Fs
open PySem PySem.Spec PyProof.Rows L2

/-! ### two ways -/
def Br (b : Bool) (A B : Prop) : Prop := (b = true → A) ∧ (b = false → B)
theorem Br.t {A B : Prop} (h : A) : Br true A B := ⟨fun _ => h, fun e => Bool.noConfusion e⟩
theorem Br.f {A B : Prop} (h : B) : Br false A B := ⟨fun e => Bool.noConfusion e, fun _ => h⟩
theorem Br.of {b : Bool} {A B : Prop} (h : Br b A B) : if b = true then A else B := by
  cases b with
  | true => rw [if_pos rfl]; exact h.1 rfl
  | false => rw [if_neg Bool.false_ne_true]; exact h.2 rfl

/-! ### truth -/
def truD (M : Mem) : Dt → Option Bool
  | .non => some false
  | .bl b => some b
  | .int i => some (i != 0)
  | .str s => if s.length ≤ sizeLine then some ((s.length : Int) != 0) else none
  | .tup ds => some (!ds.isEmpty)
  | .lst ds => some (!ds.isEmpty)
  | .ref a => match M a with
    | some (.lst ds) => some (!ds.isEmpty)
    | _ => none
  | _ => none
theorem isEmpty_ds {K : PySem.W.Frag} {F : Hp} {ds : List Dt} {vs : List V} (h : IsDs K F ds vs) : (!vs.isEmpty) = !ds.isEmpty := by
  have := h.length
  cases ds <;> cases vs <;> simp_all
theorem truD_ok {K : PySem.W.Frag} {G F H : Hp} {M : Mem} {d : Dt} {v : V} {b : Bool} (R : Rep K G F H M) (h : IsD K F d v) (e : truD M d = some b) : TruV K v H b := by
  cases d with
  | non => cases (show v = _ from h); cases e; rfl
  | bl k => cases (show v = _ from h); cases e; rfl
  | int i => cases (show v = _ from h); cases e; rfl
  | str s =>
    cases (show v = _ from h)
    dsimp only [truD] at e
    by_cases hl : s.length ≤ sizeLine
    · rw [if_pos hl] at e; cases e; exact ⟨hl, rfl⟩
    · rw [if_neg hl] at e; cases e
  | tup ds =>
    obtain ⟨a, vs, rfl, hq, hd⟩ := h
    cases e
    exact .inr (.inl ⟨vs, seqT_mono R.sub hq, (isEmpty_ds hd).symm⟩)
  | lst ds =>
    obtain ⟨a, vs, rfl, hq, hd⟩ := h
    cases e
    exact .inl ⟨vs, SqL.of (R.sub _ _ hq), (isEmpty_ds hd).symm⟩
  | ref a =>
    cases (show v = _ from h)
    dsimp only [truD] at e
    cases q : M a with
    | none => rw [q] at e; cases e
    | some o =>
      rw [q] at e
      cases o with
      | lst ds =>
        cases e
        obtain ⟨vs, hv, hd⟩ := R.mem a _ q
        exact .inl ⟨vs, SqL.of hv, (isEmpty_ds hd).symm⟩
      | _ => cases e
  | _ => cases e
def wTru (w : WE) : WT := fun ex ρ M P => w ex ρ M fun d M1 => match truD M1 d with
  | some b => P b M1
  | none => False

/-! ### operators -/
abbrev DOp := Dt → Dt → Mem → DK → Prop
def lO (K : PySem.W.Frag) (o : DOp) : R2 := fun x y H Q => ∃ G F M dx dy P, Rep K G F H M ∧ IsD K F dx x ∧ IsD K F dy y ∧ o dx dy M P ∧ KOk K G F P Q
def OpD (X : Cx) (f : Value → Value → Sem Value) (o : DOp) : Prop := OpR X f (lO X.K o)
def wOp (o : DOp) (wa wb : WE) : WE := fun ex ρ M P => wa ex ρ M fun x M1 => wb ex ρ M1 fun y M2 => o x y M2 P
section
variable {X : Cx} {W : WX} {a b c e : Expr} {wa wb wc w : WE} {pos : Pos}
/-- two expressions, then an operation by values -/
theorem lop2 {o : DOp} {σ : L2.St} {H : Hp} {Q : VK} (h : lE X.K W (wOp o wa wb) σ H Q) : tOp (lO X.K o) (lE X.K W wa) (lE X.K W wb) σ H Q := by
  obtain ⟨ρ, M, G, F, P, ex, R, E, h, k, kx⟩ := h
  refine ⟨ρ, M, G, F, _, ex, R, E, h, fun x M1 F1 H1 v1 h1 le1 R1 i1 => ?_, kx⟩
  refine ⟨ρ, M1, G, F1, _, ex, R1, E.mono le1, h1, fun y M2 F2 H2 v2 h2 le2 R2 i2 => ?_, kx.mono le1⟩
  exact ⟨G, F2, M2, x, y, P, R2, IsD.mono le2 _ _ i1, i2, h2, k.mono (le1.trans le2)⟩
theorem je_bin {op : Operator} {o : DOp} (ho : OpD X (binaryOp op) o) (ha : JE X W a wa) (hb : JE X W b wb) : JE X W (.BinOp a op b pos) (wOp o wa wb) :=
  PE.imp (pe_op ho ha hb) fun _ _ _ h => lop2 h
theorem je_cmp {op : CmpOp} {o : DOp} (ho : OpD X (compareOp op) o) (ha : JE X W a wa) (hb : JE X W b wb) (hm : behindInMarks op b = false) : JE X W (.Compare a [op] [b] pos) (wOp o wa wb) :=
  PE.imp (pe_cmpR ho ha hb hm) fun _ _ _ h => lop2 h
theorem je_ix {o : DOp} (ho : IxR X (lO X.K o)) (ha : JE X W a wa) (hb : JE X W b wb) (hs : PlainIx b) : JE X W (.Subscript a b pos) (wOp o wa wb) :=
  PE.imp (pe_ix ho ha hb hs) fun _ _ _ h => lop2 h
/-- a bool that is a test -/
theorem lTru {σ : L2.St} {H : Hp} {Q : Bool → Hp → Prop} (h : lT X.K W (wTru w) σ H Q) : ∃ Q' : VK, lE X.K W w σ H Q' ∧ ∀ v H', Q' v H' → ∃ k, TruV X.K v H' k ∧ Q k H' := by
  obtain ⟨ρ, M, G, F, P, ex, R, E, h, k, kx⟩ := h
  refine ⟨fun v H' => ∃ k, TruV X.K v H' k ∧ Q k H', ⟨ρ, M, G, F, _, ex, R, E, h, fun d M1 F1 H1 v1 h1 le1 R1 i1 => ?_, kx⟩, fun _ _ q => q⟩
  dsimp only at h1
  cases q : truD M1 d with
  | none => rw [q] at h1; exact h1.elim
  | some b =>
    rw [q] at h1
    exact ⟨b, truD_ok R1 i1 q, k b M1 F1 H1 h1 le1 R1⟩
theorem jt_cmp {op : CmpOp} {o : DOp} (ho : OpD X (compareOp op) o) (hb2 : ∀ x y M P, o x y M P → o x y M fun d M' => (∃ k, d = .bl k) ∧ P d M') (ha : JE X W a wa) (hb : JE X W b wb) (hm : behindInMarks op b = false) :
    JT X W (.Compare a [op] [b] pos) (wTru (wOp o wa wb)) := by
  refine PT.imp (pt_cmpR ho ha hb hm) fun σ H Q h => ?_
  obtain ⟨ρ, M, G, F, P, ex, R, E, h, k, kx⟩ := h
  refine ⟨ρ, M, G, F, _, ex, R, E, h, fun x M1 F1 H1 v1 h1 le1 R1 i1 => ?_, kx⟩
  refine ⟨ρ, M1, G, F1, _, ex, R1, E.mono le1, h1, fun y M2 F2 H2 v2 h2 le2 R2 i2 => ?_, kx.mono le1⟩
  refine ⟨G, F2, M2, x, y, _, R2, IsD.mono le2 _ _ i1, i2, hb2 _ _ _ _ h2, ?_⟩
  rintro d M3 F3 H3 v3 ⟨⟨kk, rfl⟩, h3⟩ le3 R3 i3
  cases (show v3 = _ from i3)
  exact ⟨kk, rfl, k kk M3 F3 H3 h3 ((le1.trans le2).trans le3) R3⟩
theorem jt_val (he : JE X W e w) (hs : ∀ whole, isTrue e X.env whole = (do let v ← whole; standAt e.pos; holding [v] (truthy v))) : JT X W e (wTru w) := by
  refine ⟨fun pins s σ H Q I h => ?_⟩
  obtain ⟨Q', h1, h2⟩ := lTru h
  exact isTrue_plain (thn (PE.run he pins s σ H _ I h1) fun v s1 ⟨x, H1, I1, r1, q1⟩ => tru_ok pins s1 σ H1 x v Q I1 r1 (h2 _ _ q1)) (hs _)

/-! ### one-place operators -/
abbrev DUn := Dt → Mem → DK → Prop
def lU (K : PySem.W.Frag) (o : DUn) : V → Hp → VK → Prop := fun x H Q => ∃ G F M dx P, Rep K G F H M ∧ IsD K F dx x ∧ o dx M P ∧ KOk K G F P Q
def UnD (X : Cx) (f : Value → Sem Value) (o : DUn) : Prop := UnR X f (lU X.K o)
def wUn (o : DUn) (wa : WE) : WE := fun ex ρ M P => wa ex ρ M fun x M1 => o x M1 P
theorem lun2 {o : DUn} {σ : L2.St} {H : Hp} {Q : VK} (h : lE X.K W (wUn o wa) σ H Q) : tUn (lU X.K o) (lE X.K W wa) σ H Q := by
  obtain ⟨ρ, M, G, F, P, ex, R, E, h, k, kx⟩ := h
  refine ⟨ρ, M, G, F, _, ex, R, E, h, fun x M1 F1 H1 v1 h1 le1 R1 i1 => ?_, kx⟩
  exact ⟨G, F1, M1, x, P, R1, i1, h1, k.mono le1⟩
theorem je_un {op : UnaryOp} {o : DUn} (ho : UnD X (unaryOp op) o) (ha : JE X W a wa) : JE X W (.UnaryOp op a pos) (wUn o wa) :=
  PE.imp (pe_un ho ha) fun _ _ _ h => lun2 h
def wNot (w : WE) : WE := fun ex ρ M P => w ex ρ M fun d M1 => match truD M1 d with
  | some b => P (.bl (!b)) M1
  | none => False
theorem je_not (ha : JE X W a wa) : JE X W (.UnaryOp .Not a pos) (wNot wa) := by
  refine PE.imp (pe_notT ha) fun σ H Q h => ?_
  obtain ⟨ρ, M, G, F, P, ex, R, E, h, k, kx⟩ := h
  refine ⟨ρ, M, G, F, _, ex, R, E, h, fun d M1 F1 H1 v1 h1 le1 R1 i1 => ?_, kx⟩
  dsimp only at h1
  cases q : truD M1 d with
  | none => rw [q] at h1; exact h1.elim
  | some b =>
    rw [q] at h1
    exact ⟨b, truD_ok R1 i1 q, k _ M1 F1 H1 _ h1 le1 R1 rfl⟩
def wNotT (t : WT) : WT := fun ex ρ M P => t ex ρ M fun b M1 => P (!b) M1
theorem jt_not {t : WT} (ha : JT X W a t) : JT X W (.UnaryOp .Not a pos) (wNotT t) := by
  refine PT.imp (pt_not ha) fun σ H Q h => ?_
  obtain ⟨ρ, M, G, F, P, ex, R, E, h, k, kx⟩ := h
  exact ⟨ρ, M, G, F, _, ex, R, E, h, fun b M1 F1 H1 h1 le1 R1 => k (!b) M1 F1 H1 h1 le1 R1, kx⟩

/-! ### and, or -/
def wAnd (wa wb : WE) : WE := fun ex ρ M P => wa ex ρ M fun d M1 => match truD M1 d with
  | some b => Br b (wb ex ρ M1 P) (P d M1)
  | none => False
def wOr (wa wb : WE) : WE := fun ex ρ M P => wa ex ρ M fun d M1 => match truD M1 d with
  | some b => Br b (P d M1) (wb ex ρ M1 P)
  | none => False
variable {rest : List Expr}
theorem je_one {op : BoolOp} (h : JE X W a wa) : JE X W (.BoolOp op [a] pos) wa := pe_one h
theorem je_and (ha : JE X W a wa) (hb : JE X W (.BoolOp .And (b :: rest) pos) wb) : JE X W (.BoolOp .And (a :: b :: rest) pos) (wAnd wa wb) := by
  refine PE.imp (pe_andT ha hb) fun σ H Q h => ?_
  obtain ⟨ρ, M, G, F, P, ex, R, E, h, k, kx⟩ := h
  refine ⟨ρ, M, G, F, _, ex, R, E, h, fun d M1 F1 H1 v1 h1 le1 R1 i1 => ?_, kx⟩
  dsimp only at h1
  cases q : truD M1 d with
  | none => rw [q] at h1; exact h1.elim
  | some b =>
    rw [q] at h1
    refine ⟨b, truD_ok R1 i1 q, ?_⟩
    cases b with
    | true => rw [if_pos rfl]; exact ⟨ρ, M1, G, F1, P, ex, R1, E.mono le1, h1.1 rfl, k.mono le1, kx.mono le1⟩
    | false => rw [if_neg Bool.false_ne_true]; exact k d M1 F1 H1 v1 (h1.2 rfl) le1 R1 i1
theorem je_or (ha : JE X W a wa) (hb : JE X W (.BoolOp .Or (b :: rest) pos) wb) : JE X W (.BoolOp .Or (a :: b :: rest) pos) (wOr wa wb) := by
  refine PE.imp (pe_orT ha hb) fun σ H Q h => ?_
  obtain ⟨ρ, M, G, F, P, ex, R, E, h, k, kx⟩ := h
  refine ⟨ρ, M, G, F, _, ex, R, E, h, fun d M1 F1 H1 v1 h1 le1 R1 i1 => ?_, kx⟩
  dsimp only at h1
  cases q : truD M1 d with
  | none => rw [q] at h1; exact h1.elim
  | some b =>
    rw [q] at h1
    refine ⟨b, truD_ok R1 i1 q, ?_⟩
    cases b with
    | true => rw [if_pos rfl]; exact k d M1 F1 H1 v1 (h1.1 rfl) le1 R1 i1
    | false => rw [if_neg Bool.false_ne_true]; exact ⟨ρ, M1, G, F1, P, ex, R1, E.mono le1, h1.2 rfl, k.mono le1, kx.mono le1⟩
def wAndT (ta tb : WT) : WT := fun ex ρ M P => ta ex ρ M fun b M1 => Br b (tb ex ρ M1 P) (P false M1)
def wOrT (ta tb : WT) : WT := fun ex ρ M P => ta ex ρ M fun b M1 => Br b (P true M1) (tb ex ρ M1 P)
/-- a test of and, or -/
def JW (X : Cx) (W : WX) (e : Expr) (t : WT) : Prop := PW X e (lT X.K W t)
theorem PW.imp {X : Cx} {e : Expr} {t t' : TT} (h : PW X e t) (i : ∀ σ H Q, t' σ H Q → t σ H Q) : PW X e t' := ⟨fun wh pins s σ H Q I q => h.run wh pins s σ H Q I (i σ H Q q)⟩
variable {ta tb : WT}
theorem jt_w (h : JW X W e ta) : JT X W e ta := PW.pt h
theorem jw_and1 (ha : JT X W a ta) : JW X W (.BoolOp .And [a] pos) ta := pw_and1 ha
theorem jw_or1 (ha : JT X W a ta) : JW X W (.BoolOp .Or [a] pos) ta := pw_or1 ha
theorem jw_and (ha : JT X W a ta) (hb : JW X W (.BoolOp .And (b :: rest) pos) tb) : JW X W (.BoolOp .And (a :: b :: rest) pos) (wAndT ta tb) := by
  refine PW.imp (pw_and ha hb) fun σ H Q h => ?_
  obtain ⟨ρ, M, G, F, P, ex, R, E, h, k, kx⟩ := h
  refine ⟨ρ, M, G, F, _, ex, R, E, h, fun b M1 F1 H1 h1 le1 R1 => ?_, kx⟩
  cases b with
  | true => rw [if_pos rfl]; exact ⟨ρ, M1, G, F1, P, ex, R1, E.mono le1, h1.1 rfl, fun b M' F' H' p le r => k b M' F' H' p (le1.trans le) r, kx.mono le1⟩
  | false => rw [if_neg Bool.false_ne_true]; exact k false M1 F1 H1 (h1.2 rfl) le1 R1
theorem jw_or (ha : JT X W a ta) (hb : JW X W (.BoolOp .Or (b :: rest) pos) tb) : JW X W (.BoolOp .Or (a :: b :: rest) pos) (wOrT ta tb) := by
  refine PW.imp (pw_or ha hb) fun σ H Q h => ?_
  obtain ⟨ρ, M, G, F, P, ex, R, E, h, k, kx⟩ := h
  refine ⟨ρ, M, G, F, _, ex, R, E, h, fun b M1 F1 H1 h1 le1 R1 => ?_, kx⟩
  cases b with
  | true => rw [if_pos rfl]; exact k true M1 F1 H1 (h1.1 rfl) le1 R1
  | false => rw [if_neg Bool.false_ne_true]; exact ⟨ρ, M1, G, F1, P, ex, R1, E.mono le1, h1.2 rfl, fun b M' F' H' p le r => k b M' F' H' p (le1.trans le) r, kx.mono le1⟩

/-! ### a if t else b -/
def wIfE (t : WT) (wa wb : WE) : WE := fun ex ρ M P => t ex ρ M fun b M1 => Br b (wa ex ρ M1 P) (wb ex ρ M1 P)
theorem je_if (hc : JT X W c ta) (ha : JE X W a wa) (hb : JE X W b wb) : JE X W (.IfExp c a b pos) (wIfE ta wa wb) := by
  refine PE.imp (pe_ifExp hc ha hb) fun σ H Q h => ?_
  obtain ⟨ρ, M, G, F, P, ex, R, E, h, k, kx⟩ := h
  refine ⟨ρ, M, G, F, _, ex, R, E, h, fun b M1 F1 H1 h1 le1 R1 => ?_, kx⟩
  cases b with
  | true => rw [if_pos rfl]; exact ⟨ρ, M1, G, F1, P, ex, R1, E.mono le1, h1.1 rfl, k.mono le1, kx.mono le1⟩
  | false => rw [if_neg Bool.false_ne_true]; exact ⟨ρ, M1, G, F1, P, ex, R1, E.mono le1, h1.2 rfl, k.mono le1, kx.mono le1⟩

/-! ### chains -/
def wCh (o o' : DOp) (wa wb wc : WE) : WE := fun ex ρ M P => wa ex ρ M fun x M1 => wb ex ρ M1 fun y M2 => o x y M2 fun z M3 => match z with
  | .bl k => Br k (wc ex ρ M3 fun u M4 => o' y u M4 P) (P (.bl false) M3)
  | _ => False
theorem lch {o o' : DOp} {σ : L2.St} {H : Hp} {Q : VK} (h : lE X.K W (wCh o o' wa wb wc) σ H Q) : tChain (lO X.K o) (lO X.K o') (lE X.K W wa) (lE X.K W wb) (lE X.K W wc) σ H Q := by
  obtain ⟨ρ, M, G, F, P, ex, R, E, h, k, kx⟩ := h
  refine ⟨ρ, M, G, F, _, ex, R, E, h, fun x M1 F1 H1 v1 h1 le1 R1 i1 => ?_, kx⟩
  refine ⟨ρ, M1, G, F1, _, ex, R1, E.mono le1, h1, fun y M2 F2 H2 v2 h2 le2 R2 i2 => ?_, kx.mono le1⟩
  refine ⟨G, F2, M2, x, y, _, R2, IsD.mono le2 _ _ i1, i2, h2, fun z M3 F3 H3 v3 h3 le3 R3 i3 => ?_⟩
  have le := (le1.trans le2).trans le3
  cases z with
  | bl kk =>
    refine ⟨kk, i3, ?_⟩
    cases kk with
    | true =>
      rw [if_pos rfl]
      refine ⟨ρ, M3, G, F3, _, ex, R3, E.mono le, h3.1 rfl, fun u M4 F4 H4 v4 h4 le4 R4 i4 => ?_, kx.mono le⟩
      exact ⟨G, F4, M4, y, u, P, R4, IsD.mono (le3.trans le4) _ _ i2, i4, h4, k.mono (le.trans le4)⟩
    | false => rw [if_neg Bool.false_ne_true]; exact k _ M3 F3 H3 _ (h3.2 rfl) le R3 rfl
  | _ => exact h3.elim
theorem je_chain {op op' : CmpOp} {o o' : DOp} (ho : OpD X (compareOp op) o) (ho' : OpD X (compareOp op') o') (ha : JE X W a wa) (hb : JE X W b wb) (hc : JE X W c wc)
    (hm : lastMarks [op, op'] [b, c] = false) : JE X W (.Compare a [op, op'] [b, c] pos) (wCh o o' wa wb wc) :=
  PE.imp (pe_chain ho ho' ha hb hc hm) fun _ _ _ h => lch h
theorem jt_chain {op op' : CmpOp} {o o' : DOp} (ho : OpD X (compareOp op) o) (ho' : OpD X (compareOp op') o') (hb2 : ∀ x y M P, o' x y M P → o' x y M fun d M' => (∃ k, d = .bl k) ∧ P d M') (ha : JE X W a wa) (hb : JE X W b wb) (hc : JE X W c wc)
    (hm : lastMarks [op, op'] [b, c] = false) : JT X W (.Compare a [op, op'] [b, c] pos) (wTru (wCh o o' wa wb wc)) := by
  refine PT.imp (pt_chain ho ho' ha hb hc hm) fun σ H Q h => ?_
  obtain ⟨ρ, M, G, F, P, ex, R, E, h, k, kx⟩ := h
  refine ⟨ρ, M, G, F, _, ex, R, E, h, fun x M1 F1 H1 v1 h1 le1 R1 i1 => ?_, kx⟩
  refine ⟨ρ, M1, G, F1, _, ex, R1, E.mono le1, h1, fun y M2 F2 H2 v2 h2 le2 R2 i2 => ?_, kx.mono le1⟩
  refine ⟨G, F2, M2, x, y, _, R2, IsD.mono le2 _ _ i1, i2, h2, fun z M3 F3 H3 v3 h3 le3 R3 i3 => ?_⟩
  have le := (le1.trans le2).trans le3
  cases z with
  | bl kk =>
    refine ⟨kk, i3, ?_⟩
    cases kk with
    | true =>
      rw [if_pos rfl]
      refine ⟨ρ, M3, G, F3, _, ex, R3, E.mono le, h3.1 rfl, fun u M4 F4 H4 v4 h4 le4 R4 i4 => ?_, kx.mono le⟩
      refine ⟨G, F4, M4, y, u, _, R4, IsD.mono (le3.trans le4) _ _ i2, i4, hb2 _ _ _ _ h4, ?_⟩
      rintro d M5 F5 H5 v5 ⟨⟨kk, rfl⟩, h5⟩ le5 R5 i5
      cases (show v5 = _ from i5)
      exact ⟨kk, rfl, k kk M5 F5 H5 h5 ((le.trans le4).trans le5) R5⟩
    | false => rw [if_neg Bool.false_ne_true]; exact ⟨false, rfl, k _ M3 F3 H3 (h3.2 rfl) le R3⟩
  | _ => exact h3.elim
end

/-! ### arguments, tuples, lists -/
def wNil : WA := fun _ _ M P => P [] M
def wCons (w : WE) (r : WA) : WA := fun ex ρ M P => w ex ρ M fun d M1 => r ex ρ M1 fun ds M2 => P (d :: ds) M2
def wTup (r : WA) : WE := fun ex ρ M P => r ex ρ M fun ds M1 => ds.length ≤ sizeLine ∧ P (.tup ds) M1
/-- a new list: data from now on, or one that may change -/
def nwL (ds : List Dt) (M : Mem) (P : DK) : Prop := P (.lst ds) M ∨ ∀ a, M a = none → P (.ref a) (M.put a (.lst ds))
def wLst (r : WA) : WE := fun ex ρ M P => r ex ρ M fun ds M1 => ds.length ≤ sizeLine ∧ nwL ds M1 P
theorem Rep.tupNew {K : PySem.W.Frag} {G F H : Hp} {M : Mem} {p : Addr} {o : HO} (R : Rep K G F H M) (h : H p = none) : Same F (upd F p o) ∧ Rep K G (upd F p o) (upd H p o) M ∧ M p = none := by
  have hG : G p = none := by
    cases q : G p with
    | none => rfl
    | some u => rw [R.frm p u q] at h; cases h
  have hF : F p = none := by
    cases q : F p with
    | none => rfl
    | some u => rw [R.sub p u q] at h; cases h
  have hM : M p = none := by
    cases q : M p with
    | none => rfl
    | some u =>
      obtain ⟨u', e, _⟩ := (R.mem p u q).there
      rw [h] at e; cases e
  have s : Same F (upd F p o) := fun b u q => by rw [upd_ne (ne_of_none q hF)]; exact q
  refine ⟨s, ⟨fun b u q => by rw [upd_ne (ne_of_none q hG)]; exact R.frm b u q, fun b u q => by rw [upd_ne (ne_of_none q hG)]; exact R.frF b u q, R.frM, R.frL, fun b u q => ?_, fun b u q => ?_, fun b u q => ?_⟩, hM⟩
  · by_cases hb : b = p
    · subst hb; rw [upd_same] at q ⊢; exact q
    · rw [upd_ne hb] at q ⊢; exact R.sub b u q
  · rw [upd_ne (fun z => by rw [z, hM] at q; cases q)]; exact R.free b u q
  · have hb : b ≠ p := fun z => by rw [z, hM] at q; cases q
    have z := R.mem b u q
    cases u with
    | lst ds => obtain ⟨vs, e, hd⟩ := z; exact ⟨vs, by rw [upd_ne hb]; exact e, IsDs.mono s _ _ hd⟩
    | slt c ds =>
      refine SltM.move z s (fun u e => by rw [upd_ne hb]; exact e) fun dx u e _ _ => ?_
      have hdx : dx ≠ p := fun z => by rw [z, h] at e; cases e
      exact ⟨by rw [upd_ne hdx]; exact e, fun _ f => by rw [upd_ne hdx]; exact f⟩
    | _ => exact z.elim
/-- a new list that may change -/
theorem Rep.lstNew {K : PySem.W.Frag} {G F H : Hp} {M : Mem} {p : Addr} {vs : List V} {ds : List Dt} (R : Rep K G F H M) (h : H p = none) (hd : IsDs K F ds vs) : M p = none ∧ Rep K G F (upd H p (.lst vs)) (M.put p (.lst ds)) := by
  have hG : G p = none := by
    cases q : G p with
    | none => rfl
    | some u => rw [R.frm p u q] at h; cases h
  obtain ⟨_, _, hM⟩ := R.tupNew (o := .lst vs) h
  have hF : F p = none := by
    cases q : F p with
    | none => rfl
    | some u => rw [R.sub p u q] at h; cases h
  refine ⟨hM, ⟨fun b u q => by rw [upd_ne (ne_of_none q hG)]; exact R.frm b u q, R.frF, fun b u q => by rw [Mem.put_ne (ne_of_none q hG)]; exact R.frM b u q, R.frL, fun b u q => ?_, fun b u q => ?_, fun b u q => ?_⟩⟩
  · rw [upd_ne (ne_of_none q hF)]; exact R.sub b u q
  · by_cases hb : b = p
    · rw [hb]; exact hF
    · rw [Mem.put_ne hb] at q; exact R.free b u q
  · by_cases hb : b = p
    · subst hb; rw [Mem.put_same] at q; cases q; exact ⟨vs, upd_same, hd⟩
    · rw [Mem.put_ne hb] at q
      have z := R.mem b u q
      cases u with
      | lst ds => obtain ⟨vs, e, hd⟩ := z; exact ⟨vs, by rw [upd_ne hb]; exact e, hd⟩
      | slt c ds =>
        refine SltM.move z (Same.refl F) (fun u e => by rw [upd_ne hb]; exact e) fun dx u e _ _ => ?_
        have hdx : dx ≠ p := fun z => by rw [z, h] at e; cases e
        exact ⟨by rw [upd_ne hdx]; exact e, fun _ f => f⟩
      | _ => exact z.elim
theorem nwL_ok {K : PySem.W.Frag} {G F H : Hp} {M : Mem} {p : Addr} {vs : List V} {ds : List Dt} {P : DK} {Q : VK} (R : Rep K G F H M) (h : H p = none) (hd : IsDs K F ds vs) (k : KOk K G F P Q) (w : nwL ds M P) : Q (.ref p) (upd H p (.lst vs)) := by
  rcases w with w | w
  · obtain ⟨s, R', _⟩ := R.tupNew (o := .lst vs) h
    exact k _ M _ _ _ w s R' ⟨p, vs, rfl, upd_same, IsDs.mono s _ _ hd⟩
  · obtain ⟨hM, R'⟩ := R.lstNew h hd
    exact k _ _ F _ _ (w p hM) (Same.refl F) R' rfl
section
variable {X : Cx} {W : WX} {e : Expr} {es : List Expr} {w : WE} {r : WA} {pos : Pos}
theorem ja_nil : JA X W [] wNil := by
  refine PA.imp pa_nil fun σ H Q h => ?_
  obtain ⟨ρ, M, G, F, P, ex, R, E, h, k, kx⟩ := h
  exact k [] M F H [] h (Same.refl F) R rfl
theorem ja_cons (ha : JE X W e w) (hr : JA X W es r) (hs : starEach (e :: es) X.env = (false, eval e X.env) :: starEach es X.env) : JA X W (e :: es) (wCons w r) := by
  refine PA.imp (pa_cons ha hr hs) fun σ H Q h => ?_
  obtain ⟨ρ, M, G, F, P, ex, R, E, h, k, kx⟩ := h
  refine ⟨ρ, M, G, F, _, ex, R, E, h, fun d M1 F1 H1 v1 h1 le1 R1 i1 => ?_, kx⟩
  refine ⟨ρ, M1, G, F1, _, ex, R1, E.mono le1, h1, fun ds M2 F2 H2 vs h2 le2 R2 i2 => ?_, kx.mono le1⟩
  exact k (d :: ds) M2 F2 H2 (v1 :: vs) h2 (le1.trans le2) R2 ⟨v1, vs, rfl, IsD.mono le2 _ _ i1, i2⟩
theorem je_tup {x1} (h : JA X W es r) : JE X W (.Tuple es x1 pos) (wTup r) := by
  refine PE.imp (pe_tup h) fun σ H Q h => ?_
  obtain ⟨ρ, M, G, F, P, ex, R, E, h, k, kx⟩ := h
  refine ⟨ρ, M, G, F, _, ex, R, E, h, fun ds M1 F1 H1 vs h1 le1 R1 i1 => ?_, kx⟩
  refine ⟨by rw [i1.length]; exact h1.1, fun p hp => ?_⟩
  obtain ⟨s, R', _⟩ := R1.tupNew (o := .tup vs) hp
  exact k _ M1 _ _ _ h1.2 (le1.trans s) R' ⟨p, vs, rfl, SqT.of upd_same, IsDs.mono s _ _ i1⟩
theorem je_lst (h : JA X W es r) : JE X W (.List es pos) (wLst r) := by
  refine PE.imp (pe_lst h) fun σ H Q h => ?_
  obtain ⟨ρ, M, G, F, P, ex, R, E, h, k, kx⟩ := h
  refine ⟨ρ, M, G, F, _, ex, R, E, h, fun ds M1 F1 H1 vs h1 le1 R1 i1 => ?_, kx⟩
  refine ⟨by rw [i1.length]; exact h1.1, fun p hp => nwL_ok R1 hp i1 (k.mono le1) h1.2⟩
end

/-! ### statements -/
def wNext : WS := fun _ D ρ M => D.nx ρ M
def wSeq (s t : WS) : WS := fun ex D ρ M => s ex { D with nx := fun ρ' M' => t ex D ρ' M' } ρ M
def wRet (w : WE) : WS := fun ex D ρ M => w (fun x d M' => ex x d ρ M') ρ M D.rt
def wRetN : WS := fun _ D _ M => D.rt .non M
def wSet (i : Nat) (w : WE) : WS := fun ex D ρ M => w (fun x d M' => ex x d ρ M') ρ M fun d M1 => D.nx (eset ρ i (some d)) M1
def wDrop (w : WE) : WS := fun ex D ρ M => w (fun x d M' => ex x d ρ M') ρ M fun _ M1 => D.nx ρ M1
def wIf (t : WT) (a b : WS) : WS := fun ex D ρ M => t (fun x d M' => ex x d ρ M') ρ M fun k M1 => Br k (a ex D ρ M1) (b ex D ρ M1)
def wBrk : WS := fun _ D ρ M => D.bk ρ M
def wCnt : WS := fun _ D ρ M => D.ct ρ M
section
variable {X : Cx} {W : WX} {e c : Expr} {st : Stmt} {a b rest : List Stmt} {w : WE} {t : WT} {u v : WS} {pos : Pos}
theorem jss_nil : JSs X W [] wNext := by
  refine PSs.imp pss_nil fun D σ H h => ?_
  obtain ⟨ρ, M, G, F, Dd, ex, R, E, h, k, kx⟩ := h
  exact k.nx ρ M F H σ h (Same.refl F) R E
theorem jss_cons (h1 : JS X W st u) (h2 : JSs X W rest v) : JSs X W (st :: rest) (wSeq u v) := by
  refine PSs.imp (pss_cons h1 h2) fun D σ H h => ?_
  obtain ⟨ρ, M, G, F, Dd, ex, R, E, h, k, kx⟩ := h
  refine ⟨ρ, M, G, F, _, ex, R, E, h, ⟨fun ρ' M' F' H' σ' h' le R' E' => ?_, k.rt, k.bk, k.ct⟩, kx⟩
  exact ⟨ρ', M', G, F', Dd, ex, R', E', h', k.mono le, kx.mono le⟩
theorem jss_one (h1 : JS X W st u) : JSs X W [st] u := pss_one h1
theorem js_pass : JS X W (.Pass pos) wNext := by
  refine PS.imp ps_pass fun D σ H h => ?_
  obtain ⟨ρ, M, G, F, Dd, ex, R, E, h, k, kx⟩ := h
  exact k.nx ρ M F H σ h (Same.refl F) R E
theorem js_break : JS X W (.Break pos) wBrk := by
  refine PS.imp ps_break fun D σ H h => ?_
  obtain ⟨ρ, M, G, F, Dd, ex, R, E, h, k, kx⟩ := h
  exact k.bk ρ M F H σ h (Same.refl F) R E
theorem js_continue : JS X W (.Continue pos) wCnt := by
  refine PS.imp ps_continue fun D σ H h => ?_
  obtain ⟨ρ, M, G, F, Dd, ex, R, E, h, k, kx⟩ := h
  exact k.ct ρ M F H σ h (Same.refl F) R E
theorem js_ret (he : JE X W e w) : JS X W (.Return (some e) pos) (wRet w) := by
  refine PS.imp (ps_ret he) fun D σ H h => ?_
  obtain ⟨ρ, M, G, F, Dd, ex, R, E, h, k, kx⟩ := h
  exact ⟨ρ, M, G, F, _, _, R, E, h, k.rt, kx.at E⟩
theorem js_retN : JS X W (.Return none pos) wRetN := by
  refine PS.imp ps_retN fun D σ H h => ?_
  obtain ⟨ρ, M, G, F, Dd, ex, R, E, h, k, kx⟩ := h
  exact k.rt _ M F H _ h (Same.refl F) R rfl
theorem js_set {i : Nat} {x : Str} {pos' : Pos} (hN : X.N.Nodup) (hi : X.N[i]? = some x) (hx : Loc X.env.scope x) (he : JE X W e w) (hs : swapsWith e (some (.Name x pos')) pos.line X.env = pure false)
    (hf : X.fn x = true ∨ X.env.scope.names.lookup x = some .local) : JS X W (.Assign [.Name x pos'] e pos) (wSet i w) := by
  refine PS.imp (ps_set hN hi hx he hs hf) fun D σ H h => ?_
  obtain ⟨ρ, M, G, F, Dd, ex, R, E, h, k, kx⟩ := h
  refine ⟨ρ, M, G, F, _, _, R, E, h, fun d M1 F1 H1 v1 h1 le1 R1 i1 => ?_, kx.at E⟩
  exact k.nx _ M1 F1 H1 _ h1 le1 R1 ((E.mono le1).set i1)
theorem js_expr (he : JE X W e w) (hs : swapsWith e none pos.line X.env = pure false) : JS X W (.Expr e pos) (wDrop w) := by
  refine PS.imp (ps_expr he hs) fun D σ H h => ?_
  obtain ⟨ρ, M, G, F, Dd, ex, R, E, h, k, kx⟩ := h
  refine ⟨ρ, M, G, F, _, _, R, E, h, fun d M1 F1 H1 v1 h1 le1 R1 i1 => ?_, kx.at E⟩
  exact k.nx _ M1 F1 H1 _ h1 le1 R1 (E.mono le1)
theorem js_if (hc : JT X W c t) (ha : JSs X W a u) (hb : JSs X W b v) : JS X W (.If c a b pos) (wIf t u v) := by
  refine PS.imp (ps_if hc ha hb) fun D σ H h => ?_
  obtain ⟨ρ, M, G, F, Dd, ex, R, E, h, k, kx⟩ := h
  refine ⟨ρ, M, G, F, _, _, R, E, h, fun b M1 F1 H1 h1 le1 R1 => ?_, kx.at E⟩
  cases b with
  | true => rw [if_pos rfl]; exact ⟨ρ, M1, G, F1, Dd, ex, R1, E.mono le1, h1.1 rfl, k.mono le1, kx.mono le1⟩
  | false => rw [if_neg Bool.false_ne_true]; exact ⟨ρ, M1, G, F1, Dd, ex, R1, E.mono le1, h1.2 rfl, k.mono le1, kx.mono le1⟩
end

/-! ### while -/
def whN (t : WT) (b : WS) (ex : EXS) (D : DEnds) : Nat → DEnv → Mem → Prop
  | 0, _, _ => False
  | n + 1, ρ, M => t (fun x d M' => ex x d ρ M') ρ M fun k M1 => Br k (b ex { D with nx := whN t b ex D n, ct := whN t b ex D n, bk := D.nx } ρ M1) (D.nx ρ M1)
def wWhile (t : WT) (b : WS) : WS := fun ex D ρ M => ∃ n, whN t b ex D n ρ M
section
variable {X : Cx} {W : WX} {c : Expr} {body : List Stmt} {t : WT} {u : WS} {pos : Pos}
theorem js_while (hp : PassesOwn (model X.prog X.w) X.A X.env X.xe) (hc : JT X W c t) (hb : JSs X W body u) : JS X W (.While c body [] pos) (wWhile t u) := by
  refine PS.imp (ps_while hp hc hb) fun D σ H h => ?_
  obtain ⟨ρ, M, G, F, Dd, ex, R, E, ⟨n, h⟩, k, kx⟩ := h
  refine ⟨fun m σ H => ∃ ρ M G F, Rep X.K G F H M ∧ EnvR X.K F ρ σ ∧ whN t u ex Dd m ρ M ∧ EndsOk X.K G F Dd D ∧ XSOk X.K W G F ex, ⟨n, ρ, M, G, F, R, E, h, k, kx⟩, ?_⟩
  rintro m σ H ⟨ρ, M, G, F, R, E, h, k, kx⟩
  cases m with
  | zero => exact h.elim
  | succ m =>
    refine ⟨ρ, M, G, F, _, _, R, E, h, fun b M1 F1 H1 h1 le1 R1 => ?_, kx.at E⟩
    cases b with
    | true =>
      rw [if_pos rfl]
      refine ⟨fun σ H => ∃ ρ M G F, Rep X.K G F H M ∧ EnvR X.K F ρ σ ∧ whN t u ex Dd m ρ M ∧ EndsOk X.K G F Dd D ∧ XSOk X.K W G F ex, fun σ' H' q => ⟨m, Nat.lt_succ_self m, q⟩, ?_⟩
      have again : NOk X.K G F1 (whN t u ex Dd m) fun σ H => ∃ ρ M G F, Rep X.K G F H M ∧ EnvR X.K F ρ σ ∧ whN t u ex Dd m ρ M ∧ EndsOk X.K G F Dd D ∧ XSOk X.K W G F ex :=
        fun ρ' M' F' H' σ' h' le R' E' => ⟨ρ', M', G, F', R', E', h', k.mono (le1.trans le), kx.mono (le1.trans le)⟩
      exact ⟨ρ, M1, G, F1, _, ex, R1, E.mono le1, h1.1 rfl, ⟨again, (k.mono le1).rt, (k.mono le1).nx, again⟩, kx.mono le1⟩
    | false =>
      rw [if_neg Bool.false_ne_true]
      exact k.nx ρ M1 F1 H1 σ (h1.2 rfl) le1 R1 (E.mono le1)
end
end Fs
set_option maxHeartbeats 4000000
/-! Fs3: operators on data. -/
namespace Fs
open PySem PySem.Spec PyProof.Rows L2

/-! ### what stands as a list -/
/-- the items of a list, of a tuple -/
def lstOf (M : Mem) : Dt → Option (List Dt)
  | .lst ds => some ds
  | .ref a => match M a with
    | some (.lst ds) => some ds
    | _ => none
  | _ => none
theorem lstOf_ok {K : PySem.W.Frag} {G F H : Hp} {M : Mem} {d : Dt} {v : V} {ds : List Dt} (R : Rep K G F H M) (h : IsD K F d v) (e : lstOf M d = some ds) : ∃ a vs, v = .ref a ∧ H a = some (.lst vs) ∧ IsDs K F ds vs := by
  cases d with
  | lst es =>
    obtain ⟨a, vs, rfl, hq, hd⟩ := h
    cases e
    exact ⟨a, vs, rfl, R.sub _ _ hq, hd⟩
  | ref a =>
    cases (show v = _ from h)
    dsimp only [lstOf] at e
    cases q : M a with
    | none => rw [q] at e; cases e
    | some o =>
      rw [q] at e
      cases o with
      | lst es => cases e; obtain ⟨vs, hv, hd⟩ := R.mem a _ q; exact ⟨a, vs, rfl, hv, hd⟩
      | _ => cases e
  | _ => cases e
def oB (o : Option Bool) (f : Bool → Prop) : Prop := match o with
  | some b => f b
  | none => False
def oL (o : Option (List Dt)) (f : List Dt → Prop) : Prop := match o with
  | some b => f b
  | none => False
def oD (o : Option Dt) (f : Dt → Prop) : Prop := match o with
  | some b => f b
  | none => False
theorem oL.of {o : Option (List Dt)} {f : List Dt → Prop} (h : oL o f) : ∃ ds, o = some ds ∧ f ds := by
  cases o with
  | none => exact h.elim
  | some ds => exact ⟨ds, rfl, h⟩
theorem oD.of {o : Option Dt} {f : Dt → Prop} (h : oD o f) : ∃ ds, o = some ds ∧ f ds := by
  cases o with
  | none => exact h.elim
  | some ds => exact ⟨ds, rfl, h⟩

/-! ### arithmetic -/
def oII (x y : Dt) (f : Int → Int → Prop) : Prop := match x with
  | .int i => match y with
    | .int j => f i j
    | _ => False
  | _ => False
theorem oII.of {x y : Dt} {f : Int → Int → Prop} (h : oII x y f) : ∃ i j, x = .int i ∧ y = .int j ∧ f i j := by
  cases x with
  | int i => cases y with
    | int j => exact ⟨i, j, rfl, rfl, h⟩
    | _ => exact h.elim
  | _ => exact h.elim
def oSS (x y : Dt) (f : Str → Str → Prop) : Prop := match x with
  | .str i => match y with
    | .str j => f i j
    | _ => False
  | _ => False
theorem oSS.of {x y : Dt} {f : Str → Str → Prop} (h : oSS x y f) : ∃ i j, x = .str i ∧ y = .str j ∧ f i j := by
  cases x with
  | str i => cases y with
    | str j => exact ⟨i, j, rfl, rfl, h⟩
    | _ => exact h.elim
  | _ => exact h.elim
/-- an operation on two ints, by the layer's rule -/
theorem opD_ii {X : Cx} {f : Value → Value → Sem Value} {C : Int → Int → Prop} {g : Int → Int → Int} (h : OpR X f (rI C fun i j => .int (g i j))) : OpD X f (fun x y M P => oII x y fun i j => C i j ∧ P (.int (g i j)) M) := by
  intro pins s σ H x y v u Q I rx ry q
  obtain ⟨G, F, M, dx, dy, P, R, ix, iy, ho, k⟩ := q
  obtain ⟨i, j, rfl, rfl, hc, ho⟩ := ho.of
  cases (show x = _ from ix)
  cases (show y = _ from iy)
  exact h pins s σ H _ _ v u Q I rx ry ⟨i, j, rfl, rfl, hc, k _ M F H _ ho (Same.refl F) R rfl⟩
theorem opD_ib {X : Cx} {f : Value → Value → Sem Value} {g : Int → Int → Bool} (h : OpR X f (rI0 fun i j => .bl (g i j))) : OpD X f (fun x y M P => oII x y fun i j => P (.bl (g i j)) M) := by
  intro pins s σ H x y v u Q I rx ry q
  obtain ⟨G, F, M, dx, dy, P, R, ix, iy, ho, k⟩ := q
  obtain ⟨i, j, rfl, rfl, ho⟩ := ho.of
  cases (show x = _ from ix)
  cases (show y = _ from iy)
  exact h pins s σ H _ _ v u Q I rx ry ⟨i, j, rfl, rfl, k _ M F H _ ho (Same.refl F) R rfl⟩
theorem OpD.or {X : Cx} {f : Value → Value → Sem Value} {o o' : DOp} (h : OpD X f o) (h' : OpD X f o') : OpD X f (fun x y M P => o x y M P ∨ o' x y M P) := by
  intro pins s σ H x y v u Q I rx ry q
  obtain ⟨G, F, M, dx, dy, P, R, ix, iy, ho, k⟩ := q
  rcases ho with ho | ho
  · exact h pins s σ H x y v u Q I rx ry ⟨G, F, M, dx, dy, P, R, ix, iy, ho, k⟩
  · exact h' pins s σ H x y v u Q I rx ry ⟨G, F, M, dx, dy, P, R, ix, iy, ho, k⟩
theorem OpD.imp {X : Cx} {f : Value → Value → Sem Value} {o o' : DOp} (h : OpD X f o) (i : ∀ x y M P, o' x y M P → o x y M P) : OpD X f o' := by
  intro pins s σ H x y v u Q I rx ry q
  obtain ⟨G, F, M, dx, dy, P, R, ix, iy, ho, k⟩ := q
  exact h pins s σ H x y v u Q I rx ry ⟨G, F, M, dx, dy, P, R, ix, iy, i _ _ _ _ ho, k⟩
/-- the size of a product, of a divisor -/
def MulOk (i j : Int) : Prop := CMulW i j
def DivOk (j : Int) : Prop := j ≠ 0 ∧ j.natAbs.log2 < 9000
def PowOk (i j : Int) : Prop := 0 ≤ j ∧ (Builtin.Int.intBits i : Int) * j ≤ 2 ^ 27

section
variable {X : Cx}
theorem op_fdivA : OpR X (binaryOp .FloorDiv) (rI (fun _ j => DivOk j) fun i j => .int (i.fdiv j)) := opI fun _ _ _ _ _ _ _ hc q => floordiv_int hc.1 q (.inl (PyProof.noPylong_of_log2 hc.2))
theorem op_powA : OpR X (binaryOp .Pow) (rI PowOk fun i j => .int (i ^ j.toNat)) := opI fun _ _ _ _ _ _ _ hc q => pow_int hc.1 hc.2 q
/-- lists one behind the other -/
theorem opD_cat : OpD X (binaryOp .Add) (fun x y M P => oL (lstOf M x) fun xs => oL (lstOf M y) fun ys => xs.length + ys.length ≤ sizeLine ∧ nwL (xs ++ ys) M P) := by
  intro pins s σ H x y v u Q I rx ry q
  obtain ⟨G, F, M, dx, dy, P, R, ix, iy, ho, k⟩ := q
  obtain ⟨xs, e1, ho⟩ := ho.of
  obtain ⟨ys, e2, ho⟩ := ho.of
  obtain ⟨a, vs, rfl, ha, hd⟩ := lstOf_ok R ix e1
  obtain ⟨b, us, rfl, hb, he⟩ := lstOf_ok R iy e2
  exact op_cat pins s σ H _ _ v u Q I rx ry ⟨a, b, vs, us, rfl, rfl, ha, hb, by rw [hd.length, he.length]; exact ho.1, fun p hp => nwL_ok R hp (hd.append he) k ho.2⟩
def oTT (x y : Dt) (f : List Dt → List Dt → Prop) : Prop := match x with
  | .tup i => match y with
    | .tup j => f i j
    | _ => False
  | _ => False
theorem oTT.of {x y : Dt} {f : List Dt → List Dt → Prop} (h : oTT x y f) : ∃ i j, x = .tup i ∧ y = .tup j ∧ f i j := by
  cases x with
  | tup i => cases y with
    | tup j => exact ⟨i, j, rfl, rfl, h⟩
    | _ => exact h.elim
  | _ => exact h.elim
theorem opD_catT : OpD X (binaryOp .Add) (fun x y M P => oTT x y fun xs ys => xs.length + ys.length ≤ sizeLine ∧ P (.tup (xs ++ ys)) M) := by
  intro pins s σ H x y v u Q I rx ry q
  obtain ⟨G, F, M, dx, dy, P, R, ix, iy, ho, k⟩ := q
  obtain ⟨xs, ys, rfl, rfl, hz, ho⟩ := ho.of
  obtain ⟨a, vs, rfl, ha, hd⟩ := ix
  obtain ⟨b, us, rfl, hb, he⟩ := iy
  refine op_catA pins s σ H _ _ v u Q I rx ry ⟨a, b, vs, us, rfl, rfl, seqT_mono R.sub ha, seqT_mono R.sub hb, by rw [hd.length, he.length]; exact hz, fun e => ?_, fun _ e => ?_, fun _ _ p hp => ?_⟩
  · have : xs = [] := by have := hd.length; rw [e] at this; exact List.length_eq_zero_iff.mp this.symm
    subst this
    exact k _ M F H _ ho (Same.refl F) R ⟨b, us, rfl, hb, he⟩
  · have : ys = [] := by have := he.length; rw [e] at this; exact List.length_eq_zero_iff.mp this.symm
    subst this
    rw [List.append_nil] at ho
    exact k _ M F H _ ho (Same.refl F) R ⟨a, vs, rfl, ha, hd⟩
  · obtain ⟨s', R', _⟩ := R.tupNew (o := .tup (vs ++ us)) hp
    exact k _ M _ _ _ ho s' R' ⟨p, _, rfl, SqT.of upd_same, IsDs.mono s' _ _ (hd.append he)⟩
theorem opD_str : OpD X (binaryOp .Add) (fun x y M P => oSS x y fun i j => i.length + j.length ≤ sizeLine ∧ P (.str (i ++ j)) M) := by
  intro pins s σ H x y v u Q I rx ry q
  obtain ⟨G, F, M, dx, dy, P, R, ix, iy, ho, k⟩ := q
  obtain ⟨i, j, rfl, rfl, hz, ho⟩ := ho.of
  cases (show x = _ from ix)
  cases (show y = _ from iy)
  exact op_add_str pins s σ H _ _ v u Q I rx ry ⟨i, j, rfl, rfl, hz, k _ M F H _ ho (Same.refl F) R rfl⟩

/-! ### == and != -/
mutual
/-- data as the library has it -/
def toPy : Dt → Option PyData
  | .non => some .none
  | .bl b => some (.bool b)
  | .int i => some (.int i)
  | .str s => some (.str s)
  | .tup ds => (toPys ds).map .tuple
  | .lst ds => (toPys ds).map .list
  | _ => none
def toPys : List Dt → Option (List PyData)
  | [] => some []
  | d :: ds => (toPy d).bind fun p => (toPys ds).map fun ps => p :: ps
end
def pyOf (M : Mem) : Dt → Option PyData
  | .ref a => match M a with
    | some (.lst ds) => (toPys ds).map .list
    | _ => none
  | d => toPy d
mutual
theorem toPy_ok {K : PySem.W.Frag} {F : Hp} : ∀ (d : Dt) (v : V) (p : PyData), IsD K F d v → toPy d = some p → Dp K F v p
  | .non, v, p, h, e => by cases (show v = _ from h); cases e; exact .non
  | .bl b, v, p, h, e => by cases (show v = _ from h); cases e; exact .bl b
  | .int b, v, p, h, e => by cases (show v = _ from h); cases e; exact .int b
  | .str b, v, p, h, e => by cases (show v = _ from h); cases e; exact .str b
  | .tup ds, v, p, ⟨a, vs, h1, h2, h3⟩, e => by
    subst h1
    simp only [toPy, Option.map_eq_some_iff] at e
    obtain ⟨ps, e, rfl⟩ := e
    exact .tup h2 (toPys_ok ds vs ps h3 e)
  | .lst ds, v, p, ⟨a, vs, h1, h2, h3⟩, e => by
    subst h1
    simp only [toPy, Option.map_eq_some_iff] at e
    obtain ⟨ps, e, rfl⟩ := e
    exact .lst (SqL.of h2) (toPys_ok ds vs ps h3 e)
  | .ty _, _, _, _, e => by cases e
  | .dct _ _, _, _, _, e => by cases e
  | .ins _ _, _, _, _, e => by cases e
  | .ref _, _, _, _, e => by cases e
  | .glo _, _, _, _, e => by cases e
  | .scr _, _, _, _, e => by cases e
theorem toPys_ok {K : PySem.W.Frag} {F : Hp} : ∀ (ds : List Dt) (vs : List V) (ps : List PyData), IsDs K F ds vs → toPys ds = some ps → DpAll K F vs ps
  | [], vs, ps, h, e => by cases (show vs = _ from h); cases e; exact .nil
  | d :: ds, vs, ps, ⟨v, r, h1, h2, h3⟩, e => by
    subst h1
    simp only [toPys, Option.bind_eq_some_iff, Option.map_eq_some_iff] at e
    obtain ⟨p, e1, q, e2, rfl⟩ := e
    exact .cons (toPy_ok d v p h2 e1) (toPys_ok ds r q h3 e2)
end
mutual
theorem Dp.mono {K : PySem.W.Frag} {F F' : Hp} (s : Same F F') : ∀ (p : PyData) (v : V), Dp K F v p → Dp K F' v p
  | .none, _, .non => .non
  | .bool _, _, .bl b => .bl b
  | .int _, _, .int b => .int b
  | .str _, _, .str b => .str b
  | .list ds, _, .lst h q => .lst (s.seq h) (DpAll.mono s ds _ q)
  | .tuple ds, _, .tup h q => .tup (seqT_mono s h) (DpAll.mono s ds _ q)
theorem DpAll.mono {K : PySem.W.Frag} {F F' : Hp} (s : Same F F') : ∀ (p : List PyData) (v : List V), DpAll K F v p → DpAll K F' v p
  | [], _, .nil => .nil
  | p :: ps, _, .cons h q => .cons (Dp.mono s p _ h) (DpAll.mono s ps _ q)
end
theorem pyOf_ok {K : PySem.W.Frag} {G F H : Hp} {M : Mem} {d : Dt} {v : V} {p : PyData} (R : Rep K G F H M) (h : IsD K F d v) (e : pyOf M d = some p) : Dp K H v p := by
  cases d with
  | ref a =>
    cases (show v = _ from h)
    dsimp only [pyOf] at e
    cases q : M a with
    | none => rw [q] at e; cases e
    | some o =>
      rw [q] at e
      cases o with
      | lst ds =>
        simp only [Option.map_eq_some_iff] at e
        obtain ⟨ps, e, rfl⟩ := e
        obtain ⟨vs, hv, hd⟩ := R.mem a _ q
        exact .lst (SqL.of hv) (DpAll.mono R.sub _ _ (toPys_ok ds vs ps hd e))
      | _ => cases e
  | _ => exact Dp.mono R.sub _ _ (toPy_ok _ v p h e)
/-- how two data compare -/
def eqD (M : Mem) (x y : Dt) (f : Bool → Prop) : Prop := ∃ p q, pyOf M x = some p ∧ pyOf M y = some q ∧ SeqAt.shaped p = true ∧ SeqAt.shaped q = true ∧ f (PyData.eqv p q)
theorem opD_eqD (hu : X.A.units + 64 < cLine) : OpD X (compareOp .Eq) (fun x y M P => eqD M x y fun b => P (.bl b) M) := by
  intro pins s σ H x y v u Q I rx ry q
  obtain ⟨G, F, M, dx, dy, P, R, ix, iy, ⟨p, q, e1, e2, s1, s2, ho⟩, k⟩ := q
  exact op_eqD hu pins s σ H _ _ v u Q I rx ry ⟨p, q, pyOf_ok R ix e1, pyOf_ok R iy e2, s1, s2, k _ M F H _ ho (Same.refl F) R rfl⟩
theorem opD_neD (hu : X.A.units + 64 < cLine) : OpD X (compareOp .NotEq) (fun x y M P => eqD M x y fun b => P (.bl (!b)) M) := by
  intro pins s σ H x y v u Q I rx ry q
  obtain ⟨G, F, M, dx, dy, P, R, ix, iy, ⟨p, q, e1, e2, s1, s2, ho⟩, k⟩ := q
  exact op_neD hu pins s σ H _ _ v u Q I rx ry ⟨p, q, pyOf_ok R ix e1, pyOf_ok R iy e2, s1, s2, k _ M F H _ ho (Same.refl F) R rfl⟩
/-- is None, is not None -/
def isNon : Dt → Bool
  | .non => true
  | _ => false
theorem isNon_ok {K : PySem.W.Frag} {F : Hp} {d : Dt} {v : V} (h : IsD K F d v) : decide (v = .non) = isNon d := by
  cases d with
  | non => cases (show v = _ from h); rfl
  | bl _ => cases (show v = _ from h); rfl
  | int _ => cases (show v = _ from h); rfl
  | str _ => cases (show v = _ from h); rfl
  | ty _ => cases (show v = _ from h); rfl
  | ref _ => cases (show v = _ from h); rfl
  | glo _ => cases (show v = _ from h); rfl
  | tup _ => obtain ⟨a, _, rfl, _⟩ := h; rfl
  | lst _ => obtain ⟨a, _, rfl, _⟩ := h; rfl
  | ins _ _ => obtain ⟨a, _, _, rfl, _⟩ := h; rfl
  | scr _ => obtain ⟨a, rfl, _⟩ := h; rfl
  | dct _ _ => exact h.elim
theorem opD_isN : OpD X (compareOp .Is) (fun x y M P => isNon y = true ∧ P (.bl (isNon x)) M) := by
  intro pins s σ H x y v u Q I rx ry q
  obtain ⟨G, F, M, dx, dy, P, R, ix, iy, ⟨hn, ho⟩, k⟩ := q
  have hy : y = .non := of_decide_eq_true ((isNon_ok iy).trans hn)
  exact op_isN pins s σ H _ _ v u Q I rx ry ⟨hy, by rw [isNon_ok ix]; exact k _ M F H _ ho (Same.refl F) R rfl⟩
theorem opD_notN : OpD X (compareOp .IsNot) (fun x y M P => isNon y = true ∧ P (.bl (!isNon x)) M) := by
  intro pins s σ H x y v u Q I rx ry q
  obtain ⟨G, F, M, dx, dy, P, R, ix, iy, ⟨hn, ho⟩, k⟩ := q
  have hy : y = .non := of_decide_eq_true ((isNon_ok iy).trans hn)
  exact op_notN pins s σ H _ _ v u Q I rx ry ⟨hy, by rw [isNon_ok ix]; exact k _ M F H _ ho (Same.refl F) R rfl⟩

/-! ### items -/
theorem IsDs.atI {K : PySem.W.Frag} {F : Hp} {ds : List Dt} {vs : List V} {i : Int} {d : Dt} (h : IsDs K F ds vs) (e : L2.atI ds i = some d) : ∃ v, L2.atI vs i = some v ∧ IsD K F d v := by
  unfold L2.atI at e ⊢
  rw [h.length]
  cases q : ixN ds.length i with
  | none => rw [q] at e; cases e
  | some j => rw [q] at e; exact h.get e
/-- what stands in place i -/
def itD (M : Mem) (x : Dt) (i : Int) : Option Dt := match x with
  | .tup ds => L2.atI ds i
  | .lst ds => L2.atI ds i
  | .scr ns => (L2.atI ns i).map Dt.int
  | .ref a => match M a with
    | some (.lst ds) => L2.atI ds i
    | _ => none
  | .str z => if z.length ≤ sizeLine then (L2.atI z.cps.toList i).map fun c => .str ⟨#[c]⟩ else none
  | _ => none
theorem atI_map {α β : Type} (f : α → β) (xs : List α) (i : Int) : L2.atI (xs.map f) i = (L2.atI xs i).map f := by
  unfold L2.atI
  rw [List.length_map]
  cases ixN xs.length i with
  | none => rfl
  | some j => simp
theorem ixD_seq : IxR X (lO X.K fun x y M P => match y with
    | .int i => oD (itD M x i) fun d => P d M
    | _ => False) := by
  intro value slice pins s σ H x y v u Q I rx ry q hs
  obtain ⟨G, F, M, dx, dy, P, R, ix, iy, ho, k⟩ := q
  cases dy with
  | int i =>
    cases (show y = _ from iy)
    replace ho : oD (itD M dx i) fun d => P d M := ho
    obtain ⟨d, e, hp⟩ := ho.of
    clear ho
    refine ix_seq value slice pins s σ H x _ v u Q I rx ry ?_ hs
    cases dx with
    | tup ds =>
      obtain ⟨a, vs, rfl, hq, hd⟩ := ix
      obtain ⟨w, q1, q2⟩ := hd.atI e
      exact .inr (.inl ⟨a, vs, i, w, rfl, rfl, seqT_mono R.sub hq, q1, k _ M F H _ hp (Same.refl F) R q2⟩)
    | lst ds =>
      obtain ⟨a, vs, rfl, hq, hd⟩ := ix
      obtain ⟨w, q1, q2⟩ := hd.atI e
      exact .inl ⟨a, vs, i, w, rfl, rfl, SqL.of (R.sub _ _ hq), q1, k _ M F H _ hp (Same.refl F) R q2⟩
    | scr ns =>
      obtain ⟨a, rfl, hq⟩ := ix
      simp only [itD, Option.map_eq_some_iff] at e
      obtain ⟨n, e, rfl⟩ := e
      refine .inl ⟨a, ns.map V.int, i, .int n, rfl, rfl, R.sub.seq hq, ?_, k _ M F H _ hp (Same.refl F) R rfl⟩
      rw [atI_map, e]
      all_goals rfl
    | ref a =>
      cases (show x = _ from ix)
      dsimp only [itD] at e
      cases q : M a with
      | none => rw [q] at e; cases e
      | some o =>
        rw [q] at e
        cases o with
        | lst ds =>
          obtain ⟨vs, hv, hd⟩ := R.mem a _ q
          obtain ⟨w, q1, q2⟩ := hd.atI e
          exact .inl ⟨a, vs, i, w, rfl, rfl, SqL.of hv, q1, k _ M F H _ hp (Same.refl F) R q2⟩
        | _ => cases e
    | str z =>
      cases (show x = _ from ix)
      dsimp only [itD] at e
      by_cases hz : z.length ≤ sizeLine
      · rw [if_pos hz, Option.map_eq_some_iff] at e
        obtain ⟨c, e, rfl⟩ := e
        exact .inr (.inr ⟨z, i, c, rfl, rfl, hz, e, k _ M F H _ hp (Same.refl F) R rfl⟩)
      · rw [if_neg hz] at e; cases e
    | _ => cases e
  | _ => exact ho.elim

/-! ### slices -/
def cutD {α : Type} (xs : List α) (lo hi : Option Int) : List α := (xs.drop (HT.sIx xs.length 0 lo)).take (HT.sIx xs.length xs.length hi - HT.sIx xs.length 0 lo)
theorem IsDs.cut {K : PySem.W.Frag} {F : Hp} {ds : List Dt} {vs : List V} (h : IsDs K F ds vs) (lo hi : Option Int) : IsDs K F (cutD ds lo hi) (cutV vs lo hi) := by
  unfold cutD cutV
  rw [h.length]
  exact (h.drop _).take _
abbrev DSl := Dt → Option Int → Option Int → Mem → DK → Prop
def lSl (K : PySem.W.Frag) (o : DSl) : V → Option Int → Option Int → Hp → VK → Prop := fun x lo hi H Q => ∃ G F M dx P, Rep K G F H M ∧ IsD K F dx x ∧ o dx lo hi M P ∧ KOk K G F P Q
theorem SlR.imp {r r' : V → Option Int → Option Int → Hp → VK → Prop} (h : L2.SlR X r) (i : ∀ x lo hi H Q, r' x lo hi H Q → r x lo hi H Q) : L2.SlR X r' :=
  fun pins s σ H x v vl vu lo hi sl Q I rx hs pl pu q => h pins s σ H x v vl vu lo hi sl Q I rx hs pl pu (i _ _ _ _ _ q)
def oCut : DSl := fun x lo hi M P => match x with
  | .tup ds => P (.tup (cutD ds lo hi)) M
  | .lst ds => nwL (cutD ds lo hi) M P
  | .ref a => match M a with
    | some (.lst ds) => nwL (cutD ds lo hi) M P
    | _ => False
  | _ => False
theorem sIx_le' (n : Nat) (lo hi : Option Int) (h : HT.sIx n 0 lo = 0 ∧ HT.sIx n n hi = n) {α : Type} (xs : List α) (e : xs.length = n) : cutD xs lo hi = xs := by
  unfold cutD
  rw [e, h.1, h.2, List.drop_zero, Nat.sub_zero, ← e, List.take_length]
theorem slD_seq : L2.SlR X (lSl X.K oCut) := by
  refine SlR.imp (sl_tupA.or sl_list) fun x lo hi H Q q => ?_
  obtain ⟨G, F, M, dx, P, R, ix, ho, k⟩ := q
  cases dx with
  | tup ds =>
    obtain ⟨a, vs, rfl, hq, hd⟩ := ix
    refine .inl ⟨a, vs, rfl, seqT_mono R.sub hq, fun e => ?_, fun _ p hp => ?_⟩
    · rw [hd.length] at e
      have z : cutD ds lo hi = ds := sIx_le' _ lo hi e ds rfl
      exact k _ M F H _ ho (Same.refl F) R ⟨a, vs, rfl, hq, by rw [z]; exact hd⟩
    · obtain ⟨s', R', _⟩ := R.tupNew (o := .tup (cutV vs lo hi)) hp
      exact k _ M _ _ _ ho s' R' ⟨p, _, rfl, SqT.of upd_same, IsDs.mono s' _ _ (hd.cut lo hi)⟩
  | lst ds =>
    obtain ⟨a, vs, rfl, hq, hd⟩ := ix
    exact .inr ⟨a, vs, rfl, SqL.of (R.sub _ _ hq), fun p hp => nwL_ok R hp (hd.cut lo hi) k ho⟩
  | ref a =>
    cases (show x = _ from ix)
    dsimp only [oCut] at ho
    cases q : M a with
    | none => rw [q] at ho; exact ho.elim
    | some o =>
      rw [q] at ho
      cases o with
      | lst ds =>
        obtain ⟨vs, hv, hd⟩ := R.mem a _ q
        exact .inr ⟨a, vs, rfl, SqL.of hv, fun p hp => nwL_ok R hp (hd.cut lo hi) k ho⟩
      | _ => exact ho.elim
  | _ => exact ho.elim
abbrev WO := EX → DEnv → Mem → (Option Int → Mem → Prop) → Prop
def lP (K : PySem.W.Frag) (W : WX) (w : WO) : TO := fun σ H Q => ∃ ρ M G F P ex, Rep K G F H M ∧ EnvR K F ρ σ ∧ w ex ρ M P ∧ (∀ o M' F' H', P o M' → Same F F' → Rep K G F' H' M' → Q o H') ∧ XOk K W G F ex σ
def JP (X : Cx) (W : WX) (e : Option Expr) (w : WO) : Prop := PO X e (lP X.K W w)
theorem PO.imp {e : Option Expr} {t t' : TO} (h : PO X e t) (i : ∀ σ H Q, t' σ H Q → t σ H Q) : PO X e t' := ⟨fun pins s σ H Q I q => h.run pins s σ H Q I (i σ H Q q)⟩
def wP0 : WO := fun _ _ M P => P none M
def wP1 (w : WE) : WO := fun ex ρ M P => w ex ρ M fun d M1 => match d with
  | .int i => P (some i) M1
  | _ => False
def wSl (o : DSl) (w : WE) (a b : WO) : WE := fun ex ρ M P => w ex ρ M fun d M1 => a ex ρ M1 fun i M2 => b ex ρ M2 fun j M3 => o d i j M3 P
variable {W : WX} {e : Expr} {lo hi : Option Expr} {w : WE} {wl wh : WO} {pos p2 : Pos}
theorem jp_none : JP X W none wP0 := by
  refine PO.imp po_none fun σ H Q h => ?_
  obtain ⟨ρ, M, G, F, P, ex, R, E, h, k, kx⟩ := h
  exact k none M F H h (Same.refl F) R
theorem jp_some (h : JE X W e w) : JP X W (some e) (wP1 w) := by
  refine PO.imp (po_some h) fun σ H Q h => ?_
  obtain ⟨ρ, M, G, F, P, ex, R, E, h, k, kx⟩ := h
  refine ⟨ρ, M, G, F, _, ex, R, E, h, fun d M1 F1 H1 v1 h1 le1 R1 i1 => ?_, kx⟩
  cases d with
  | int i => exact ⟨i, i1, k _ M1 F1 H1 h1 le1 R1⟩
  | _ => exact h1.elim
theorem je_slice {o : DSl} (hr : L2.SlR X (lSl X.K o)) (he : JE X W e w) (hl : JP X W lo wl) (hu : JP X W hi wh) : JE X W (.Subscript e (.Slice lo hi none p2) pos) (wSl o w wl wh) := by
  refine PE.imp (pe_slice hr he hl hu) fun σ H Q h => ?_
  obtain ⟨ρ, M, G, F, P, ex, R, E, h, k, kx⟩ := h
  refine ⟨ρ, M, G, F, _, ex, R, E, h, fun d M1 F1 H1 v1 h1 le1 R1 i1 => ?_, kx⟩
  refine ⟨ρ, M1, G, F1, _, ex, R1, E.mono le1, h1, fun i M2 F2 H2 h2 le2 R2 => ?_, kx.mono le1⟩
  refine ⟨ρ, M2, G, F2, _, ex, R2, E.mono (le1.trans le2), h2, fun j M3 F3 H3 h3 le3 R3 => ?_, kx.mono (le1.trans le2)⟩
  exact ⟨G, F3, M3, d, P, R3, IsD.mono (le2.trans le3) _ _ i1, h3, k.mono ((le1.trans le2).trans le3)⟩
end
end Fs
set_option maxHeartbeats 4000000
/-! Fs4: targets, for, list comprehensions, what is walked. -/
namespace Fs
open PySem PySem.Spec PyProof.Rows L2

/-! ### targets -/
abbrev DG := Dt → DEnv → Mem → (DEnv → Mem → Prop) → Prop
abbrev DGs := List Dt → DEnv → Mem → (DEnv → Mem → Prop) → Prop
/-- .. where all slots but those at is are as they were -/
def GOk (K : PySem.W.Frag) (G F : Hp) (is : List Nat) (σ : L2.St) (P : DEnv → Mem → Prop) (Q : L2.St → Hp → Prop) : Prop := ∀ ρ' M' F' H' σ', P ρ' M' → Same F F' → Rep K G F' H' M' → EnvR K F' ρ' σ' → wipe σ' is = wipe σ is → Q σ' H'
theorem NOk.g {K : PySem.W.Frag} {G F : Hp} {is : List Nat} {σ : L2.St} {P : DEnv → Mem → Prop} {Q : L2.St → Hp → Prop} (h : NOk K G F P Q) : GOk K G F is σ P Q := fun ρ' M' F' H' σ' a b c d _ => h ρ' M' F' H' σ' a b c d
def lG (K : PySem.W.Frag) (g : DG) (is : List Nat) : TG := fun v σ H Q => ∃ ρ M G F d P, Rep K G F H M ∧ EnvR K F ρ σ ∧ IsD K F d v ∧ g d ρ M P ∧ GOk K G F is σ P Q
def lGs (K : PySem.W.Frag) (g : DGs) (is : List Nat) : TGs := fun vs σ H Q => ∃ ρ M G F ds P, Rep K G F H M ∧ EnvR K F ρ σ ∧ IsDs K F ds vs ∧ g ds ρ M P ∧ GOk K G F is σ P Q
def JG (X : Cx) (t : Expr) (g : DG) (is : List Nat) : Prop := PG X t (lG X.K g is)
def JGs (X : Cx) (t : List Expr) (g : DGs) (is : List Nat) : Prop := PGs X t (lGs X.K g is)
theorem wipe_set (σ : L2.St) (i : Nat) (v : Option V) : ∀ is : List Nat, wipe (σ.set i v) is = (wipe σ is).set i (if i ∈ is then none else v)
  | [] => by simp [wipe]
  | j :: is => by
    unfold wipe
    rw [wipe_set σ i v is]
    by_cases h : i = j
    · subst h
      rw [List.set_set, List.set_set, if_pos (List.mem_cons_self ..)]
    · rw [List.set_comm _ _ h]
      congr 1
      by_cases h2 : i ∈ is
      · rw [if_pos h2, if_pos (List.mem_cons_of_mem _ h2)]
      · rw [if_neg h2, if_neg (by simp [h, h2])]
theorem wipe_self (σ : L2.St) {i : Nat} {v : Option V} {is : List Nat} (h : i ∈ is) : wipe (σ.set i v) is = wipe σ is := by
  have key : ∀ (is : List Nat) (τ : L2.St), i ∈ is → (wipe τ is).set i none = wipe τ is := by
    intro is
    induction is with
    | nil => intro τ h; simp at h
    | cons j is ih =>
      intro τ h
      unfold wipe
      by_cases e : i = j
      · subst e; rw [List.set_set]
      · rw [List.set_comm _ _ (Ne.symm e), ih τ (by simpa [e] using h)]
  rw [wipe_set, if_pos h, key is σ h]
theorem wipe_comm (σ : L2.St) (a : List Nat) : ∀ b : List Nat, wipe (wipe σ a) b = wipe (wipe σ b) a
  | [] => rfl
  | j :: b => by
    show (wipe (wipe σ a) b).set j none = wipe ((wipe σ b).set j none) a
    rw [wipe_comm σ a b, wipe_set]
    congr 1
    split <;> rfl
theorem wipe_app (σ : L2.St) (b : List Nat) : ∀ a : List Nat, wipe σ (a ++ b) = wipe (wipe σ b) a
  | [] => rfl
  | j :: a => by
    show (wipe σ (a ++ b)).set j none = (wipe (wipe σ b) a).set j none
    rw [wipe_app σ b a]
theorem wipe_two {σ σ1 σ2 : L2.St} {a b : List Nat} (h1 : wipe σ1 a = wipe σ a) (h2 : wipe σ2 b = wipe σ1 b) : wipe σ2 (a ++ b) = wipe σ (a ++ b) := by
  rw [wipe_app, wipe_app, h2, ← wipe_comm, h1, wipe_comm]
theorem wipe_sub {σ : L2.St} {a : List Nat} : ∀ {b : List Nat}, (∀ i ∈ b, i ∈ a) → wipe (wipe σ b) a = wipe σ a
  | [], _ => rfl
  | j :: b, h => by
    show wipe ((wipe σ b).set j none) a = wipe σ a
    rw [wipe_self _ (h j (List.mem_cons_self ..)), wipe_sub fun i hi => h i (List.mem_cons_of_mem _ hi)]
theorem wipe_more {σ σ' : L2.St} {a b : List Nat} (h : wipe σ' b = wipe σ b) (s : ∀ i ∈ b, i ∈ a) : wipe σ' a = wipe σ a := by
  rw [← wipe_sub (σ := σ') s, h, wipe_sub s]
theorem PG.imp {X : Cx} {e : Expr} {t t' : TG} (h : PG X e t) (i : ∀ v σ H Q, t' v σ H Q → t v σ H Q) : PG X e t' := ⟨fun pins s σ H v u Q I r q => h.run pins s σ H v u Q I r (i v σ H Q q)⟩
theorem PGs.imp {X : Cx} {e : List Expr} {t t' : TGs} (h : PGs X e t) (i : ∀ v σ H Q, t' v σ H Q → t v σ H Q) : PGs X e t' := ⟨fun pins s σ H v u Q I r q => h.run pins s σ H v u Q I r (i v σ H Q q)⟩
def dgN (i : Nat) : DG := fun d ρ M P => P (eset ρ i (some d)) M
def dgNil : DGs := fun ds ρ M P => match ds with
  | [] => P ρ M
  | _ => False
def dgCons (g : DG) (r : DGs) : DGs := fun ds ρ M P => match ds with
  | d :: ds => g d ρ M fun ρ' M' => r ds ρ' M' P
  | [] => False
def dgTup (n : Nat) (r : DGs) : DG := fun d ρ M P => match d with
  | .tup ds => ds.length = n ∧ r ds ρ M P
  | .lst ds => ds.length = n ∧ r ds ρ M P
  | _ => False
section
variable {X : Cx} {pos : Pos} {e : Expr} {es : List Expr} {g : DG} {r : DGs}
theorem jg_name {i : Nat} {x : Str} (hN : X.N.Nodup) (hi : X.N[i]? = some x) (hx : Loc X.env.scope x) (hf : X.fn x = true ∨ X.env.scope.names.lookup x = some .local) : JG X (.Name x pos) (dgN i) [i] := by
  refine PG.imp (pg_name hN hi hx hf) fun v σ H Q h => ?_
  obtain ⟨ρ, M, G, F, d, P, R, E, i1, h, k⟩ := h
  exact k _ M F H _ h (Same.refl F) R (E.set i1) (wipe_self σ (List.mem_cons_self ..))
theorem jgs_nil : JGs X [] dgNil [] := by
  refine PGs.imp pgs_nil fun v σ H Q h => ?_
  obtain ⟨ρ, M, G, F, ds, P, R, E, i1, h, k⟩ := h
  cases ds with
  | nil => exact ⟨i1, k _ M F H _ h (Same.refl F) R E rfl⟩
  | cons => exact h.elim
theorem jgs_cons {is js : List Nat} (h1 : JG X e g is) (h2 : JGs X es r js) (hs : (assignEach (e :: es) X.env).map (·.2) = assign e X.env :: (assignEach es X.env).map (·.2)) : JGs X (e :: es) (dgCons g r) (is ++ js) := by
  refine PGs.imp (pgs_cons h1 h2 hs) fun v σ H Q h => ?_
  obtain ⟨ρ, M, G, F, ds, P, R, E, i1, h, k⟩ := h
  cases ds with
  | nil => exact h.elim
  | cons d ds =>
    obtain ⟨v1, vr, rfl, i2, i3⟩ := i1
    refine ⟨v1, vr, rfl, ρ, M, G, F, d, _, R, E, i2, h, fun ρ1 M1 F1 H1 σ1 h1 le R1 E1 w1 => ?_⟩
    exact ⟨ρ1, M1, G, F1, ds, P, R1, E1, IsDs.mono le _ _ i3, h1, fun ρ2 M2 F2 H2 σ2 h2 le2 R2 E2 w2 => k ρ2 M2 F2 H2 σ2 h2 (le.trans le2) R2 E2 (wipe_two w1 w2)⟩
theorem jg_tup {k : Nat} {n : Nat} {is : List Nat} (hc : X.calm = true) (h : JGs X es r is) (hn : (assignEach es X.env).length = n) (hst : (assignEach es X.env).findIdx? (·.1) = none) : JG X (.Tuple es k pos) (dgTup n r) is := by
  refine ⟨fun pins s σ H v u Q I rv hh => ?_⟩
  obtain ⟨ρ, M, G, F, d, P, R, E, i1, hh, k⟩ := hh
  cases d with
  | tup ds =>
    obtain ⟨a, vs, rfl, hq, hd⟩ := i1
    exact (pg_tup hc h hn hst).run pins s σ H _ u Q I rv ⟨a, vs, rfl, seqT_mono R.sub hq, by rw [hd.length]; exact hh.1, ρ, M, G, F, ds, P, R, E, hd, hh.2, k⟩
  | lst ds =>
    obtain ⟨a, vs, rfl, hq, hd⟩ := i1
    exact (pg_unl hc h hn hst).run pins s σ H _ u Q I rv ⟨a, vs, rfl, SqL.of (R.sub _ _ hq), by rw [hd.length]; exact hh.1, ρ, M, G, F, ds, P, R, E, hd, hh.2, k⟩
  | _ => exact hh.elim
/-- target = value -/
def wAsg (w : WE) (g : DG) : WS := fun ex D ρ M => w (fun x d M' => ex x d ρ M') ρ M fun d M1 => g d ρ M1 D.nx
variable {W : WX} {tg : Expr} {w : WE}
theorem js_asg {is : List Nat} (he : JE X W e w) (hg : JG X tg g is) (hs : swapsWithSole [tg] e pos.line X.env = pure false) (hw : swappedStores [tg] e X.env = pure none)
    (h1 : (assignEach [tg] X.env).map (·.2) = [assign tg X.env]) : JS X W (.Assign [tg] e pos) (wAsg w g) := by
  refine PS.imp (ps_asg he hg hs hw h1) fun D σ H h => ?_
  obtain ⟨ρ, M, G, F, Dd, ex, R, E, h, k, kx⟩ := h
  refine ⟨ρ, M, G, F, _, _, R, E, h, fun d M1 F1 H1 v1 h1 le1 R1 i1 => ?_, kx.at E⟩
  exact ⟨ρ, M1, G, F1, d, _, R1, E.mono le1, i1, h1, (k.mono le1).nx.g⟩
/-- a, b = x, y -/
def wPar (i j : Nat) (r : WA) : WS := fun ex D ρ M => r (fun x d M' => ex x d ρ M') ρ M fun ds M1 => match ds with
  | [d, e] => D.nx (eset (eset ρ i (some d)) j (some e)) M1
  | _ => False
theorem js_par {i j : Nat} {x y : Str} {a b : Expr} {r : WA} {px py pt : Pos} {kt k2 pt2} (hc : X.calm = true) (hN : X.N.Nodup) (hi : X.N[i]? = some x) (hj : X.N[j]? = some y) (hij : i ≠ j)
    (hx : X.env.scope.names.lookup x = some .local) (hy : X.env.scope.names.lookup y = some .local) (ha : JA X W [a, b] r)
    (hw : swappedStores [.Tuple [.Name x px, .Name y py] kt pt] (.Tuple [a, b] k2 pt2) X.env = pure (some [x, y]))
    (hs : swapsWithSole [.Tuple [.Name x px, .Name y py] kt pt] (.Tuple [a, b] k2 pt2) pos.line X.env = pure false) :
    JS X W (.Assign [.Tuple [.Name x px, .Name y py] kt pt] (.Tuple [a, b] k2 pt2) pos) (wPar i j r) := by
  refine PS.imp (ps_par hc hN hi hj hij hx hy ha hw hs) fun D σ H h => ?_
  obtain ⟨ρ, M, G, F, Dd, ex, R, E, h, k, kx⟩ := h
  refine ⟨ρ, M, G, F, _, _, R, E, h, fun ds M1 F1 H1 vs h1 le1 R1 i1 => ?_, kx.at E⟩
  match ds, h1, i1 with
  | [d, e], h1, ⟨v, r, e1, i2, u, r', e2, i3, e3⟩ =>
    subst e1; subst e2
    cases (show r' = [] from e3)
    exact ⟨v, u, rfl, k.nx _ M1 F1 H1 _ h1 le1 R1 (((E.mono le1).set i2).set i3)⟩
end

/-! ### what is walked -/
/-- a list that may change stands as it stood -/
abbrev Gd := Option (Addr × List Dt)
def gd (g : Gd) (M : Mem) (A : Prop) : Prop := match g with
  | none => A
  | some (a, ds) => M a = some (.lst ds) ∧ A
theorem gd.of {g : Gd} {M : Mem} {A : Prop} (h : gd g M A) : gd g M True ∧ A := by
  cases g with
  | none => exact ⟨True.intro, h⟩
  | some p => obtain ⟨a, ds⟩ := p; exact ⟨⟨h.1, True.intro⟩, h.2⟩
def WalkD (K : PySem.W.Frag) (J : It) (F : Hp) (items : List Dt) (g : Gd) : Prop := ∀ G F' H' M', Same F F' → Rep K G F' H' M' → gd g M' True →
  ∀ i, (i = items.length → J.stop i H') ∧ ∀ d, items[i]? = some d → J.go i H' ∧ ∀ x H'', J.yld i H' x H'' → ∃ F'', Same F' F'' ∧ Rep K G F'' H'' M' ∧ IsD K F'' d x
theorem WalkD.mono {K : PySem.W.Frag} {J : It} {F F1 : Hp} {items : List Dt} {g : Gd} (h : WalkD K J F items g) (e : Same F F1) : WalkD K J F1 items g := fun G F' H' M' le => h G F' H' M' (e.trans le)
abbrev WI := EX → DEnv → Mem → (List Dt → Gd → Mem → Prop) → Prop
def lI (K : PySem.W.Frag) (W : WX) (w : WI) : TI := fun σ H Q => ∃ ρ M G F P ex, Rep K G F H M ∧ EnvR K F ρ σ ∧ w ex ρ M P ∧
  (∀ items g M' F' H' J, P items g M' → Same F F' → Rep K G F' H' M' → WalkD K J F' items g → Q J H') ∧ XOk K W G F ex σ
def JI (X : Cx) (W : WX) (tg e : Expr) (w : WI) : Prop := PI X tg e (lI X.K W w)
theorem PI.imp {X : Cx} {tg e : Expr} {t t' : TI} (h : PI X tg e t) (i : ∀ σ H Q, t' σ H Q → t σ H Q) : PI X tg e t' := ⟨fun pins s σ H R I q => h.run pins s σ H R I (i σ H R q)⟩
theorem walkD_lst {K : PySem.W.Frag} {F : Hp} {a : Addr} {vs : List V} {ds : List Dt} (h : F a = some (.lst vs)) (hd : IsDs K F ds vs) : WalkD K (Itl K a) F ds none := by
  intro G F' H' M' le R _ i
  have q : SqL K H' a vs := SqL.of (R.sub _ _ (le _ _ h))
  refine ⟨fun hi => ⟨vs, q, by rw [hd.length]; exact Nat.le_of_eq hi.symm⟩, fun d e => ?_⟩
  obtain ⟨v, e1, e2⟩ := hd.get e
  refine ⟨⟨vs, v, q, e1⟩, fun x H'' y => ?_⟩
  obtain ⟨rfl, y⟩ := y
  have z := y vs q
  rw [e1] at z; cases z
  exact ⟨F', Same.refl F', R, IsD.mono le _ _ e2⟩
theorem walkD_tup {K : PySem.W.Frag} {F : Hp} {a : Addr} {vs : List V} {ds : List Dt} (h : SqT K F a vs) (hd : IsDs K F ds vs) : WalkD K (Itt K a) F ds none := by
  intro G F' H' M' le R _ i
  have q : SqT K H' a vs := seqT_mono (le.trans R.sub) h
  refine ⟨fun hi => ⟨vs, q, by rw [hd.length]; exact Nat.le_of_eq hi.symm⟩, fun d e => ?_⟩
  obtain ⟨v, e1, e2⟩ := hd.get e
  refine ⟨⟨vs, v, q, e1⟩, fun x H'' y => ?_⟩
  obtain ⟨rfl, y⟩ := y
  have z := y vs q
  rw [e1] at z; cases z
  exact ⟨F', Same.refl F', R, IsD.mono le _ _ e2⟩
theorem sqL_inj {K : PySem.W.Frag} {H : Hp} {a : Addr} {xs : List V} (h : H a = some (.lst xs)) : True := True.intro
/-- a list that may change -/
theorem walkD_ref {K : PySem.W.Frag} {F : Hp} {a : Addr} {ds : List Dt} : WalkD K (Itl K a) F ds (some (a, ds)) := by
  intro G F' H' M' le R hg i
  obtain ⟨vs, hv, hd⟩ := R.mem a _ hg.1
  have q : SqL K H' a vs := SqL.of hv
  refine ⟨fun hi => ⟨vs, q, by rw [hd.length]; exact Nat.le_of_eq hi.symm⟩, fun d e => ?_⟩
  obtain ⟨v, e1, e2⟩ := hd.get e
  refine ⟨⟨vs, v, q, e1⟩, fun x H'' y => ?_⟩
  obtain ⟨rfl, y⟩ := y
  have z := y vs q
  rw [e1] at z; cases z
  exact ⟨F', Same.refl F', R, e2⟩
theorem walkD_scr {K : PySem.W.Frag} {F : Hp} {a : Addr} {ns : List Int} (h : SqL K F a (ns.map V.int)) : WalkD K (Itl K a) F (ns.map Dt.int) none := by
  intro G F' H' M' le R _ i
  have q : SqL K H' a (ns.map V.int) := (le.trans R.sub).seq h
  refine ⟨fun hi => ⟨_, q, by simp [hi]⟩, fun d e => ?_⟩
  rw [List.getElem?_map, Option.map_eq_some_iff] at e
  obtain ⟨n, e, rfl⟩ := e
  have e1 : (ns.map V.int)[i]? = some (.int n) := by rw [List.getElem?_map, e]; rfl
  refine ⟨⟨_, _, q, e1⟩, fun x H'' y => ?_⟩
  obtain ⟨rfl, y⟩ := y
  have z := y _ q
  rw [e1] at z; cases z
  exact ⟨F', Same.refl F', R, rfl⟩
/-- the ints of a range -/
def rangeD (lo : Int) (n : Nat) : List Dt := (List.range n).map fun i => .int (lo + (i : Nat))
theorem walkD_range {K : PySem.W.Frag} {F : Hp} {lo : Int} {n : Nat} : WalkD K (Itr lo n) F (rangeD lo n) none := by
  intro G F' H' M' le R _ i
  have hl : (rangeD lo n).length = n := by simp [rangeD]
  refine ⟨fun hi => by rw [hl] at hi; exact Nat.le_of_eq hi.symm, fun d e => ?_⟩
  obtain ⟨hi, e⟩ := List.getElem?_eq_some_iff.mp e
  have hi' : i < n := by rw [hl] at hi; exact hi
  refine ⟨hi', fun x H'' y => ?_⟩
  obtain ⟨rfl, rfl⟩ := y
  refine ⟨F', Same.refl F', R, ?_⟩
  rw [← e]
  simp [rangeD, IsD]
/-- the items of a value that is walked -/
def wIt (w : WE) : WI := fun ex ρ M P => w ex ρ M fun d M1 => match d with
  | .tup ds => P ds none M1
  | .lst ds => P ds none M1
  | .scr ns => P (ns.map .int) none M1
  | .ref a => match M1 a with
    | some (.lst ds) => P ds (some (a, ds)) M1
    | _ => False
  | _ => False
section
variable {X : Cx} {W : WX} {tg e : Expr} {w : WE}
def iSeq (K : PySem.W.Frag) (tl : TE) : TI := fun σ H R => tl σ H fun x H1 => ∃ a, x = .ref a ∧ (((∃ xs, SqL K H1 a xs) ∧ R (Itl K a) H1) ∨ ((∃ xs, SqT K H1 a xs) ∧ R (Itt K a) H1))
theorem pi_seq {l : Expr} {tl : TE} (hl : PE X l tl) : PI X tg l (iSeq X.K tl) := by
  refine ⟨fun pins s σ H R I h => ?_⟩
  refine thn (hl.run pins s σ H _ I h) fun v s1 ⟨x, H1, I1, r1, q1⟩ => ?_
  obtain ⟨a, e, q | q⟩ := q1
  · obtain ⟨⟨xs, hq⟩, q⟩ := q
    subst e
    cases r1
    obtain ⟨its, rv, p, hz⟩ := I1.list hq
    refine wpAny_pyIter_list p.isList ?_
    refine ⟨s1.heap.objs.size, [s1.heap.objs.size], _, _, H1, rfl, I1.kept (t' := s1.toks) fun b o e => Heap.get?_push_of_some _ e, turn_list a _, ⟨_, Heap.get?_push_size _ rfl, rfl, rfl⟩, fun b hb => ?_, q⟩
    have e : b = s1.heap.objs.size := by simpa using hb
    subst e
    exact I1.fpOk (Nat.le_refl _) (I1.hok.fresh (Nat.le_refl _))
  · obtain ⟨⟨xs, hq⟩, q⟩ := q
    subst e
    cases r1
    obtain ⟨its, rv, p, hz⟩ := I1.tuple hq
    refine wpAny_pyIter_tuple (show s1.heap.IsTuple a its.toArray from p) ?_
    refine ⟨s1.heap.objs.size, [s1.heap.objs.size], _, _, H1, rfl, I1.kept (t' := s1.toks) fun b o e => Heap.get?_push_of_some _ e, turn_tuple a _, ⟨_, Heap.get?_push_size _ rfl, rfl, rfl⟩, fun b hb => ?_, q⟩
    have e : b = s1.heap.objs.size := by simpa using hb
    subst e
    exact I1.fpOk (Nat.le_refl _) (I1.hok.fresh (Nat.le_refl _))
theorem ji_val (he : JE X W e w) : JI X W tg e (wIt w) := by
  refine PI.imp (pi_seq he) fun σ H Q h => ?_
  obtain ⟨ρ, M, G, F, P, ex, R, E, h, k, kx⟩ := h
  refine ⟨ρ, M, G, F, _, ex, R, E, h, fun d M1 F1 H1 v1 h1 le1 R1 i1 => ?_, kx⟩
  cases d with
  | tup ds =>
    obtain ⟨a, vs, rfl, hq, hd⟩ := i1
    exact ⟨a, rfl, .inr ⟨⟨vs, seqT_mono R1.sub hq⟩, k ds none M1 F1 H1 _ h1 le1 R1 (walkD_tup hq hd)⟩⟩
  | lst ds =>
    obtain ⟨a, vs, rfl, hq, hd⟩ := i1
    exact ⟨a, rfl, .inl ⟨⟨vs, SqL.of (R1.sub _ _ hq)⟩, k ds none M1 F1 H1 _ h1 le1 R1 (walkD_lst hq hd)⟩⟩
  | scr ns =>
    obtain ⟨a, rfl, hq⟩ := i1
    exact ⟨a, rfl, .inl ⟨⟨_, R1.sub.seq hq⟩, k _ none M1 F1 H1 _ h1 le1 R1 (walkD_scr hq)⟩⟩
  | ref a =>
    cases (show v1 = _ from i1)
    dsimp only at h1
    cases q : M1 a with
    | none => rw [q] at h1; exact h1.elim
    | some o =>
      rw [q] at h1
      cases o with
      | lst ds =>
        obtain ⟨vs, hv, hd⟩ := R1.mem a _ q
        exact ⟨a, rfl, .inl ⟨⟨vs, SqL.of hv⟩, k ds _ M1 F1 H1 _ h1 le1 R1 walkD_ref⟩⟩
      | _ => exact h1.elim
  | _ => exact h1.elim
/-- range(n), range(a, b) -/
def rgOk (i : Int) : Prop := -(2 ^ 62) ≤ i ∧ i < 2 ^ 62
def wRng1 (r : WA) : WI := fun ex ρ M P => r ex ρ M fun ds M1 => match ds with
  | [.int j] => rgOk j ∧ P (rangeD 0 j.toNat) none M1
  | _ => False
def wRng2 (r : WA) : WI := fun ex ρ M P => r ex ρ M fun ds M1 => match ds with
  | [.int i, .int j] => (rgOk i ∧ rgOk j) ∧ P (rangeD i (j - i).toNat) none M1
  | _ => False
variable {a b : Expr} {r : WA} {p pos : Pos}
theorem ji_range1 (hg : Gl X "range") (hm : X.mg "range" = none) (ha : JA X W [a] r) (hs : starEach [a] X.env = [(false, eval a X.env)]) : JI X W tg (.Call (.Name "range" p) [a] [] pos) (wRng1 r) := by
  refine PI.imp (pi_range1 hg hm ha hs) fun σ H Q h => ?_
  obtain ⟨ρ, M, G, F, P, ex, R, E, h, k, kx⟩ := h
  refine ⟨ρ, M, G, F, _, ex, R, E, h, fun ds M1 F1 H1 vs h1 le1 R1 i1 => ?_, kx⟩
  match ds, h1, i1 with
  | [.int j], h1, ⟨v, r, e1, i2, e2⟩ =>
    subst e1
    cases (show r = [] from e2)
    cases (show v = _ from i2)
    exact ⟨j, rfl, h1.1.1, h1.1.2, k _ none M1 F1 H1 _ h1.2 le1 R1 walkD_range⟩
theorem ji_range2 (hg : Gl X "range") (hm : X.mg "range" = none) (ha : JA X W [a, b] r) (hs : starEach [a, b] X.env = [(false, eval a X.env), (false, eval b X.env)]) (hs2 : starEach [b] X.env = [(false, eval b X.env)]) :
    JI X W tg (.Call (.Name "range" p) [a, b] [] pos) (wRng2 r) := by
  refine PI.imp (pi_range2 hg hm ha hs hs2) fun σ H Q h => ?_
  obtain ⟨ρ, M, G, F, P, ex, R, E, h, k, kx⟩ := h
  refine ⟨ρ, M, G, F, _, ex, R, E, h, fun ds M1 F1 H1 vs h1 le1 R1 i1 => ?_, kx⟩
  match ds, h1, i1 with
  | [.int i, .int j], h1, ⟨v, r, e1, i2, u, r', e2, i3, e3⟩ =>
    subst e1; subst e2
    cases (show r' = [] from e3)
    cases (show v = _ from i2)
    cases (show u = _ from i3)
    exact ⟨i, j, rfl, ⟨h1.1.1.1, h1.1.1.2, h1.1.2.1, h1.1.2.2⟩, k _ none M1 F1 H1 _ h1.2 le1 R1 walkD_range⟩
end

/-! ### for -/
def forL (b : DG) (body : WS) (ex : EXS) (D : DEnds) (g : Gd) : List Dt → DEnv → Mem → Prop
  | [], ρ, M => gd g M (D.nx ρ M)
  | d :: ds, ρ, M => gd g M (b d ρ M fun ρ1 M1 => body ex { D with nx := forL b body ex D g ds, ct := forL b body ex D g ds, bk := D.nx } ρ1 M1)
def wFor (it : WI) (b : DG) (body : WS) : WS := fun ex D ρ M => it (fun x d M' => ex x d ρ M') ρ M fun ds g M1 => forL b body ex D g ds ρ M1
section
variable {X : Cx} {W : WX} {tg iter : Expr} {body : List Stmt} {wi : WI} {b : DG} {u : WS} {pos : Pos}
theorem js_for {is : List Nat} (hp : PassesOwn (model X.prog X.w) X.A X.env X.xe) (hc : X.calm = true) (hi : JI X W tg iter wi) (hg : JG X tg b is) (hb : JSs X W body u) (hs : ∀ x, foldedSetIterable iter X.env x = pure x) :
    JS X W (.For tg iter body [] pos) (wFor wi b u) := by
  refine PS.imp (ps_for hp hc hi hg hb hs) fun D σ H h => ?_
  obtain ⟨ρ, M, G, F, Dd, ex, R, E, h, k, kx⟩ := h
  refine ⟨ρ, M, G, F, _, _, R, E, h, fun items g M1 F1 H1 J h1 le1 R1 wk => ?_, kx.at E⟩
  refine ⟨fun i m σ H => ∃ ρ M F, i + m = items.length ∧ Rep X.K G F H M ∧ EnvR X.K F ρ σ ∧ Same F1 F ∧ forL b u ex Dd g (items.drop i) ρ M, ⟨items.length, ρ, M1, F1, Nat.zero_add _, R1, E.mono le1, Same.refl F1, h1⟩, ?_⟩
  rintro i m σ' H' ⟨ρ', M', F', hi, R', E', le', h'⟩
  cases q : items[i]? with
  | none =>
    have hl : items.length ≤ i := List.getElem?_eq_none_iff.mp q
    rw [List.drop_eq_nil_of_le hl] at h'
    obtain ⟨hgd, h'⟩ := gd.of (show gd g M' (Dd.nx ρ' M') from h')
    exact .inl ⟨(wk G F' H' M' le' R' hgd i).1 (by omega), k.nx ρ' M' F' H' σ' h' (le1.trans le') R' E'⟩
  | some d =>
    obtain ⟨hl, ed⟩ := List.getElem?_eq_some_iff.mp q
    rw [List.drop_eq_getElem_cons hl, ed] at h'
    obtain ⟨hgd, h'⟩ := gd.of (show gd g M' _ from h')
    obtain ⟨hgo, hy⟩ := (wk G F' H' M' le' R' hgd i).2 d q
    refine .inr ⟨hgo, fun σ H => ∃ ρ M F, Rep X.K G F H M ∧ EnvR X.K F ρ σ ∧ Same F1 F ∧ forL b u ex Dd g (items.drop (i + 1)) ρ M, fun σ2 H2 ⟨ρ2, M2, F2, R2, E2, le2, h2⟩ => ⟨m - 1, by omega, ρ2, M2, F2, by omega, R2, E2, le2, h2⟩, fun x H2 y => ?_⟩
    obtain ⟨F2, le2, R2, i2⟩ := hy x H2 y
    refine ⟨ρ', M', G, F2, d, _, R2, E'.mono le2, i2, h', fun ρ3 M3 F3 H3 σ3 h3 le3 R3 E3 _ => ?_⟩
    have le := ((le1.trans le').trans le2).trans le3
    have again : NOk X.K G F3 (forL b u ex Dd g (items.drop (i + 1))) fun σ H => ∃ ρ M F, Rep X.K G F H M ∧ EnvR X.K F ρ σ ∧ Same F1 F ∧ forL b u ex Dd g (items.drop (i + 1)) ρ M :=
      fun ρ4 M4 F4 H4 σ4 h4 le4 R4 E4 => ⟨ρ4, M4, F4, R4, E4, ((le'.trans le2).trans le3).trans le4, h4⟩
    exact ⟨ρ3, M3, G, F3, _, ex, R3, E3, h3, ⟨again, (k.mono le).rt, (k.mono le).nx, again⟩, kx.mono le⟩
end

/-! ### [e for x in ..] -/
def noX : EX := fun _ _ _ => False
def dwipe (ρ : DEnv) : List Nat → DEnv
  | [] => ρ
  | i :: is => eset (dwipe ρ is) i none
def lcL (b : DG) (t : WT) (e : WE) (P : List Dt → Mem → Prop) (ρ : DEnv) (g : Gd) : List Dt → List Dt → Mem → Prop
  | [], acc, M => gd g M (P acc M)
  | d :: ds, acc, M => gd g M (b d ρ M fun ρ1 M1 => t noX ρ1 M1 fun k M2 => Br k (e noX ρ1 M2 fun y M3 => acc.length < sizeLine ∧ lcL b t e P ρ g ds (acc ++ [y]) M3) (lcL b t e P ρ g ds acc M2))
def wLc (it : WI) (b : DG) (t : WT) (e : WE) (own : List Nat) : WE := fun ex ρ M P => it ex ρ M fun ds g M1 => lcL b t e (fun acc M2 => nwL acc M2 P) (dwipe ρ own) g ds [] M1
def wYes : WT := fun _ _ M P => P true M
def JTs (X : Cx) (W : WX) (ifs : List Expr) (t : WT) : Prop := PTs X ifs (lT X.K W t)
theorem jts_nil {X : Cx} {W : WX} : JTs X W [] wYes := by
  refine ⟨fun pins s σ H Q I h => pts_nil.run pins s σ H Q I ?_⟩
  obtain ⟨ρ, M, G, F, P, ex, R, E, h, k, kx⟩ := h
  exact k true M F H h (Same.refl F) R
theorem jts_one {X : Cx} {W : WX} {c : Expr} {t : WT} (h : JT X W c t) : JTs X W [c] t := pts_one h

theorem EnvR.unset {K : PySem.W.Frag} {F : Hp} {ρ : DEnv} {σ : L2.St} (r : EnvR K F ρ σ) (i : Nat) : EnvR K F (eset ρ i none) (σ.set i none) := by
  refine ⟨by rw [List.length_set, eset_length]; exact r.len, fun j e q => ?_⟩
  rw [eget_eset] at q
  by_cases hj : j = i ∧ i < ρ.length
  · rw [if_pos hj] at q; cases q
  · rw [if_neg hj] at q
    obtain ⟨u, h1, h2⟩ := r.val j e q
    refine ⟨u, ?_, h2⟩
    by_cases e1 : j = i
    · have hl : i < σ.length := by
        obtain ⟨hh, _⟩ := List.getElem?_eq_some_iff.mp h1
        rw [← e1]; exact hh
      exact absurd ⟨e1, by rw [← r.len]; exact hl⟩ hj
    · rw [List.getElem?_set_ne (fun z => e1 z.symm)]; exact h1
theorem EnvR.wipe {K : PySem.W.Frag} {F : Hp} {ρ : DEnv} {σ : L2.St} (r : EnvR K F ρ σ) : ∀ is : List Nat, EnvR K F (dwipe ρ is) (L2.wipe σ is)
  | [] => r
  | i :: is => (EnvR.wipe r is).unset i
/-- a list that stands aside -/
theorem Rep.aside {K : PySem.W.Frag} {G F H : Hp} {M : Mem} {p : Addr} {xs0 : List V} (R : Rep K G F H M) (h : H p = none) : Rep K (upd G p (.lst xs0)) F (upd H p (.lst xs0)) M ∧ G p = none ∧ F p = none ∧ M p = none := by
  obtain ⟨s, R', hM⟩ := R.tupNew (o := .lst xs0) h
  have hG : G p = none := by
    cases q : G p with
    | none => rfl
    | some u => rw [R.frm p u q] at h; cases h
  have hF : F p = none := by
    cases q : F p with
    | none => rfl
    | some u => rw [R.sub p u q] at h; cases h
  refine ⟨⟨fun b u q => ?_, fun b u q => ?_, fun b u q => ?_, fun b u q => ?_, fun b u q => ?_, R.free, fun b u q => ?_⟩, hG, hF, hM⟩
  · by_cases hb : b = p
    · subst hb; rw [upd_same] at q ⊢; exact q
    · rw [upd_ne hb] at q ⊢; exact R.frm b u q
  · by_cases hb : b = p
    · subst hb; exact hF
    · rw [upd_ne hb] at q; exact R.frF b u q
  · by_cases hb : b = p
    · subst hb; exact hM
    · rw [upd_ne hb] at q; exact R.frM b u q
  · by_cases hb : b = p
    · subst hb; rw [upd_same] at q; cases q; exact ⟨_, rfl⟩
    · rw [upd_ne hb] at q; exact R.frL b u q
  · rw [upd_ne (ne_of_none q hF)]; exact R.sub b u q
  · have hb : b ≠ p := fun z => by rw [z, hM] at q; cases q
    have z := R.mem b u q
    cases u with
    | lst ds => obtain ⟨vs, e, hd⟩ := z; exact ⟨vs, by rw [upd_ne hb]; exact e, hd⟩
    | slt c ds =>
      refine SltM.move z (Same.refl F) (fun u e => by rw [upd_ne hb]; exact e) fun dx u e _ _ => ?_
      have hdx : dx ≠ p := fun z => by rw [z, h] at e; cases e
      exact ⟨by rw [upd_ne hdx]; exact e, fun _ f => f⟩
    | _ => exact z.elim
/-- it is written -/
theorem Rep.asideSet {K : PySem.W.Frag} {G F H : Hp} {M : Mem} {p : Addr} {xs ys : List V} (R : Rep K (upd G p (.lst xs)) F H M) : Rep K (upd G p (.lst ys)) F (upd H p (.lst ys)) M := by
  have hF : F p = none := R.frF p _ upd_same
  have hM : M p = none := R.frM p _ upd_same
  have hH : H p = some (.lst xs) := R.frm p _ upd_same
  refine ⟨fun b u q => ?_, fun b u q => ?_, fun b u q => ?_, fun b u q => ?_, fun b u q => ?_, R.free, fun b u q => ?_⟩
  · by_cases hb : b = p
    · subst hb; rw [upd_same] at q ⊢; exact q
    · rw [upd_ne hb] at q ⊢; exact R.frm b u (by rw [upd_ne hb]; exact q)
  · by_cases hb : b = p
    · subst hb; exact hF
    · rw [upd_ne hb] at q; exact R.frF b u (by rw [upd_ne hb]; exact q)
  · by_cases hb : b = p
    · subst hb; exact hM
    · rw [upd_ne hb] at q; exact R.frM b u (by rw [upd_ne hb]; exact q)
  · by_cases hb : b = p
    · subst hb; rw [upd_same] at q; cases q; exact ⟨_, rfl⟩
    · rw [upd_ne hb] at q; exact R.frL b u (by rw [upd_ne hb]; exact q)
  · rw [upd_ne (ne_of_none q hF)]; exact R.sub b u q
  · have hb : b ≠ p := fun z => by rw [z, hM] at q; cases q
    have z := R.mem b u q
    cases u with
    | lst ds => obtain ⟨vs, e, hd⟩ := z; exact ⟨vs, by rw [upd_ne hb]; exact e, hd⟩
    | slt c ds =>
      refine SltM.move z (Same.refl F) (fun u e => by rw [upd_ne hb]; exact e) fun dx u e k _ => ?_
      have hdx : dx ≠ p := fun z => by rw [z, hH] at e; cases e; rcases k with k | k <;> cases k
      exact ⟨by rw [upd_ne hdx]; exact e, fun _ f => f⟩
    | _ => exact z.elim
/-- it is handed on -/
theorem nwL_aside {K : PySem.W.Frag} {G F H : Hp} {M : Mem} {p : Addr} {vs : List V} {ds : List Dt} {P : DK} {Q : VK} (R : Rep K (upd G p (.lst vs)) F H M) (hG : G p = none) (hd : IsDs K F ds vs) (k : KOk K G F P Q) (w : nwL ds M P) : Q (.ref p) H := by
  have hF : F p = none := R.frF p _ upd_same
  have hM : M p = none := R.frM p _ upd_same
  have hH : H p = some (.lst vs) := R.frm p _ upd_same
  have up : ∀ b u, G b = some u → upd G p (.lst vs) b = some u := fun b u q => by rw [upd_ne (ne_of_none q hG)]; exact q
  rcases w with w | w
  · have s : Same F (upd F p (.lst vs)) := fun b u q => by rw [upd_ne (ne_of_none q hF)]; exact q
    refine k _ M (upd F p (.lst vs)) H _ w s ⟨fun b u q => R.frm b u (up b u q), fun b u q => by rw [upd_ne (ne_of_none q hG)]; exact R.frF b u (up b u q), fun b u q => R.frM b u (up b u q), fun b u q => R.frL b u (up b u q), fun b u q => ?_, fun b u q => ?_, fun b u q => ?_⟩ ⟨p, vs, rfl, upd_same, IsDs.mono s _ _ hd⟩
    · by_cases hb : b = p
      · subst hb; rw [upd_same] at q; rw [hH]; exact q
      · rw [upd_ne hb] at q; exact R.sub b u q
    · have hb : b ≠ p := fun z => by rw [z, hM] at q; cases q
      rw [upd_ne hb]; exact R.free b u q
    · have hb : b ≠ p := fun z => by rw [z, hM] at q; cases q
      have z := R.mem b u q
      cases u with
      | lst ds => obtain ⟨us, e, hd⟩ := z; exact ⟨us, e, IsDs.mono s _ _ hd⟩
      | slt c ds =>
        refine SltM.move z s (fun u e => e) fun dx u e k _ => ?_
        have hdx : dx ≠ p := fun z => by rw [z, hH] at e; cases e; rcases k with k | k <;> cases k
        exact ⟨e, fun _ f => by rw [upd_ne hdx]; exact f⟩
      | _ => exact z.elim
  · refine k _ (M.put p (.lst ds)) F H _ (w p hM) (Same.refl F) ⟨fun b u q => R.frm b u (up b u q), fun b u q => R.frF b u (up b u q), fun b u q => by rw [Mem.put_ne (ne_of_none q hG)]; exact R.frM b u (up b u q), fun b u q => R.frL b u (up b u q), R.sub, fun b u q => ?_, fun b u q => ?_⟩ rfl
    · by_cases hb : b = p
      · rw [hb]; exact hF
      · rw [Mem.put_ne hb] at q; exact R.free b u q
    · by_cases hb : b = p
      · subst hb; rw [Mem.put_same] at q; cases q; exact ⟨vs, hH, hd⟩
      · rw [Mem.put_ne hb] at q
        have z := R.mem b u q
        cases u with
        | slt c ds =>
          refine SltM.move z (Same.refl F) (fun u e => e) fun dx u e k _ => ?_
          have hdx : dx ≠ p := fun z => by rw [z, hH] at e; cases e; rcases k with k | k <;> cases k
          exact ⟨e, fun _ f => f⟩
        | lst ds => exact z
        | _ => exact z.elim
section
variable {X : Cx} {W : WX} {elt tg iter : Expr} {ifs : List Expr} {scope : Scope} {own : List (Str × Nat)} {pos : Pos} {wi : WI} {b : DG} {t : WT} {w : WE} {is : List Nat}
/-- the walk of a comprehension -/
theorem lc_lift {σ : L2.St} {H : Hp} {Q : VK} {vs : List Nat} {W0 : WX} (hs : ∀ i ∈ is, i ∈ vs) (h : lE X.K W (wLc wi b t w vs) σ H Q) : tLc (lI X.K W wi) (lG X.K b is) (lT X.K W0 t) (lE X.K W0 w) vs σ H Q := by
  obtain ⟨ρ, M, G, F, P, ex, R, E, h, k, kx⟩ := h
  refine ⟨ρ, M, G, F, _, ex, R, E, h, fun items g M1 F1 H1 J h1 le1 R1 wk D hD => ?_, kx⟩
  have no : ∀ (G F : Hp) (σ : L2.St), XOk X.K W0 G F noX σ := fun _ _ _ _ _ _ _ _ _ z => z.elim
  obtain ⟨R2, hG, hF, hM⟩ := R1.aside (xs0 := []) hD
  refine ⟨fun i m H => i + m = items.length ∧ ∃ M F accV acc, Rep X.K (upd G D (.lst accV)) F H M ∧ IsDs X.K F acc accV ∧ Same F1 F ∧ lcL b t w (fun acc M2 => nwL acc M2 P) (dwipe ρ vs) g (items.drop i) acc M, ⟨items.length, Nat.zero_add _, M1, F1, [], [], R2, rfl, Same.refl F1, h1⟩, ?_⟩
  rintro i m H' ⟨hi, M', F', accV, acc, R', hacc, le', h'⟩
  cases q : items[i]? with
  | none =>
    have hl : items.length ≤ i := List.getElem?_eq_none_iff.mp q
    rw [List.drop_eq_nil_of_le hl] at h'
    obtain ⟨hgd, h'⟩ := gd.of (show gd g M' (nwL acc M' P) from h')
    exact .inl ⟨(wk _ F' H' M' le' R' hgd i).1 (by omega), nwL_aside R' hG hacc (k.mono (le1.trans le')) h'⟩
  | some d =>
    obtain ⟨hl, ed⟩ := List.getElem?_eq_some_iff.mp q
    rw [List.drop_eq_getElem_cons hl, ed] at h'
    obtain ⟨hgd, h'⟩ := gd.of (show gd g M' _ from h')
    obtain ⟨hgo, hy⟩ := (wk _ F' H' M' le' R' hgd i).2 d q
    refine .inr ⟨hgo, fun H => ∃ M F accV acc, Rep X.K (upd G D (.lst accV)) F H M ∧ IsDs X.K F acc accV ∧ Same F1 F ∧ lcL b t w (fun acc M2 => nwL acc M2 P) (dwipe ρ vs) g (items.drop (i + 1)) acc M, fun H2 z => ⟨m - 1, by omega, by omega, z⟩, fun x H2 y => ?_⟩
    obtain ⟨F2, le2, R3, i2⟩ := hy x H2 y
    refine ⟨dwipe ρ vs, M', _, F2, d, _, R3, ((E.mono (le1.trans (le'.trans le2))).wipe vs), i2, h', fun ρ3 M3 F3 H3 σ3 h3 le3 R4 E3 w3 => ⟨?_, ?_⟩⟩
    · have e1 := wipe_more w3 hs
      rw [e1]
      exact wipe_sub (fun i hi => hi)
    · refine ⟨ρ3, M3, _, F3, _, noX, R4, E3, h3, fun kk M4 F4 H4 h4 le4 R5 => ?_, no _ _ _⟩
      cases kk with
      | true =>
        rw [if_pos rfl]
        refine ⟨ρ3, M4, _, F4, _, noX, R5, E3.mono le4, h4.1 rfl, fun y M5 F5 H5 v5 h5 le5 R6 i6 => ?_, no _ _ _⟩
        have hacc' : IsDs X.K F5 acc accV := IsDs.mono (le2.trans (le3.trans (le4.trans le5))) _ _ hacc
        refine ⟨accV, R6.frm D _ upd_same, by rw [hacc'.length]; exact h5.1, ?_⟩
        exact ⟨M5, F5, accV ++ [v5], acc ++ [y], R6.asideSet, hacc'.append ⟨v5, [], rfl, i6, rfl⟩, le'.trans (le2.trans (le3.trans (le4.trans le5))), h5.2⟩
      | false =>
        rw [if_neg Bool.false_ne_true]
        exact ⟨M4, F4, accV, acc, R5, IsDs.mono (le2.trans (le3.trans le4)) _ _ hacc, le'.trans (le2.trans (le3.trans le4)), h4.2 rfl⟩
theorem je_lc {W0 : WX} (hc : X.calm = true) (hN : X.N.Nodup) (hi : JI X W tg iter wi) (ok : BlkOk X.N X.env.scope scope own) (his : ∀ i ∈ is, i ∈ own.map (·.2))
    (hg : ∀ (s : Shared) (H : Hp) (C : Addr) (cl : List (Str × Addr)) (fp : List Addr), JG (X.blk s H scope (compEnvC scope cl C X.env) fp) tg b is)
    (ht : ∀ (s : Shared) (H : Hp) (C : Addr) (cl : List (Str × Addr)) (fp : List Addr), JTs (X.blk s H scope (compEnvC scope cl C X.env) fp) W0 ifs t)
    (he : ∀ (s : Shared) (H : Hp) (C : Addr) (cl : List (Str × Addr)) (fp : List Addr), JE (X.blk s H scope (compEnvC scope cl C X.env) fp) W0 elt w) (hs : ∀ x, foldedSetIterable iter X.env x = pure x) :
    JE X W (.ListComp elt [⟨tg, iter, ifs, 0⟩] scope pos) (wLc wi b t w (own.map (·.2))) :=
  PE.imp (pe_lc (g := lG X.K b is) (tt := lT X.K W0 t) (te := lE X.K W0 w) hc hN hi ok hg ht he hs) fun _ _ _ h => lc_lift his h
theorem js_setLc {W0 : WX} {i : Nat} {y : Str} {py spos : Pos} (hc : X.calm = true) (hN : X.N.Nodup) (hy : X.N[i]? = some y) (hyl : X.env.scope.names.lookup y = some .local)
    (hsw : swapsWith (.ListComp elt [⟨tg, iter, ifs, 0⟩] scope pos) (some (.Name y py)) spos.line X.env = pure true) (hi : JI X W tg iter wi) (ok : BlkOk X.N X.env.scope scope own) (his : ∀ i ∈ is, i ∈ own.map (·.2))
    (hg : ∀ (s : Shared) (H : Hp) (C : Addr) (cl : List (Str × Addr)) (fp : List Addr), JG (X.blk s H scope (compEnvC scope cl C X.env) fp) tg b is)
    (ht : ∀ (s : Shared) (H : Hp) (C : Addr) (cl : List (Str × Addr)) (fp : List Addr), JTs (X.blk s H scope (compEnvC scope cl C X.env) fp) W0 ifs t)
    (he : ∀ (s : Shared) (H : Hp) (C : Addr) (cl : List (Str × Addr)) (fp : List Addr), JE (X.blk s H scope (compEnvC scope cl C X.env) fp) W0 elt w) (hs : ∀ x, foldedSetIterable iter X.env x = pure x) :
    JS X W (.Assign [.Name y py] (.ListComp elt [⟨tg, iter, ifs, 0⟩] scope pos) spos) (wSet i (wLc wi b t w (own.map (·.2)))) := by
  refine PS.imp (ps_setLc (g := lG X.K b is) (tt := lT X.K W0 t) (te := lE X.K W0 w) hc hN hy hyl hsw hi ok hg ht he hs) fun D σ H h => ?_
  obtain ⟨ρ, M, G, F, Dd, ex, R, E, h, k, kx⟩ := h
  refine lc_lift (W := W) his ⟨ρ, M, G, F, _, _, R, E, h, fun d M1 F1 H1 v1 h1 le1 R1 i1 => ?_, kx.at E⟩
  exact k.nx _ M1 F1 H1 _ h1 le1 R1 ((E.mono le1).set i1)
end
end Fs
set_option maxHeartbeats 4000000
/-! Fs5: calls: promises over data, defs, built-ins. -/
namespace Fs
open PySem PySem.Spec PyProof.Rows L2

/-! ### promises -/
abbrev DSp := List Dt → Mem → DK → EX → Prop
def XKOk (K : PySem.W.Frag) (G F : Hp) (ex : EX) (E : XK) : Prop := ∀ x d M' F' H' dd, ex x d M' → Same F F' → Rep K G F' H' M' → XdOk K F' dd d x → E (x.v K) dd H'
def toSp (K : PySem.W.Frag) (sp : DSp) : Sp := fun vs H Q E => ∃ G F ds M P ex, Rep K G F H M ∧ IsDs K F ds vs ∧ sp ds M P ex ∧ KOk K G F P Q ∧ XKOk K G F ex E
/-- the object at f may be called, at any body -/
def Clb (P : Program) (w : World) (K : PySem.W.Frag) (mg : Str → Option Value) (base : Heap) (k : Nat) (f : Addr) (sp : Sp) : Prop :=
  ∀ (X : Cx), X.prog = P → X.w = w → X.K = K → X.mg = mg → X.base = base → Room k X.A → ∀ (E : XK) (pins : List (Addr × Obj)) (σ : L2.St) (H : Hp) (s : Shared) (us : List Value) (vs : List V) (Q : VK),
    PassesAt (L2.CX P w) X σ E → Inv X pins σ H s → Vals vs us → sp vs H Q E → wpAny (model P w) X.A (call (.ref f) us) (EP X pins σ Q) X.xe s
theorem Clb.mono {P : Program} {w : World} {K : PySem.W.Frag} {mg : Str → Option Value} {base : Heap} {j k : Nat} {f : Addr} {sp : Sp} (F : Clb P w K mg base j f sp) (h : j ≤ k) : Clb P w K mg base k f sp :=
  fun X h1 h2 h3 h4 h5 hr => F X h1 h2 h3 h4 h5 (hr.mono h)
/-- f: a def, a class; m: a method of a class; p: a property of a class -/
inductive SK where
  | f (x : Str) | m (c m : Str) | p (c f : Str) | c (c : Str)
deriving DecidableEq
abbrev Sps := SK → Option DSp
/-- the places of slots -/
def slotIx (c f : Str) : Option Nat :=
  if c = "Stairs" then (if f = "own_pieces" then some 0 else none)
  else if c = "Case" then (if f = "own_behind" then some 0 else if f = "own_bills" then some 1 else if f = "own_kinds" then some 2 else if f = "own_text" then some 3 else if f = "own_things" then some 4 else if f = "own_told" then some 5 else none)
  else if c = "Standing" then (if f = "case_then" then some 0 else if f = "line" then some 1 else if f = "out_then" then some 2 else if f = "paid_then" then some 3 else if f = "visit_then" then some 4 else none)
  else none
/-- a class with slots -/
structure ClsF (K : PySem.W.Frag) (c : Str) : Prop where
  cls : SlX.SCls K (He.ga K c)
  isi : SlX.SIsi K (He.ga K c)
  first : PySem.W.selfFirst K (He.ga K c) = true
  slot : ∀ f i, slotIx c f = some i → ∃ p, SlX.Slot1 K (He.ga K c) f p i
  ty : PySem.W.typeIn K (.ref (He.ga K c)) = some (.type "type")
  no : ∀ T ∈ ["NoneType", "bool", "int", "str", "tuple", "list", "dict"], PySem.W.kitOne K (.ref (He.ga K c)) (.type T) = some false
  ne : PySem.W.findIn K (.ref (He.ga K c)) "__ne__" = some (some (.builtin "object.__ne__"))
  ni : PySem.W.mroIn K (He.ga K c) (.type "int") = some false
/-- a property of a class: the descriptor at p, the getter at g -/
structure PrpF (K : PySem.W.Frag) (C : Addr) (f : Str) (p g : Addr) : Prop where
  at_ : PySem.W.findIn K (.ref C) f = some (some (.ref p))
  get : PySem.W.specialIn K (.ref p) "__get__" = some (some (.builtin "property.__get__"))
  tk : PySem.W.takesIn K (.ref p) = some true
  rc : ∃ rest, PySem.W.recIn K p "property" = some (.ref g :: rest)
/-- what is callable keeps its promise -/
structure SOk (P : Program) (w : World) (K : PySem.W.Frag) (mg : Str → Option Value) (base : Heap) (S : Sps) (k : Nat) : Prop where
  f : ∀ x sp, S (.f x) = some sp → mg x = some (.ref (He.ga K x)) ∧ PySem.W.keepIn K (.ref (He.ga K x)) = true ∧ Clb P w K mg base k (He.ga K x) (toSp K sp)
  m : ∀ c m sp, S (.m c m) = some sp → ClsF K c ∧ PySem.W.fnIn K (He.ma K (He.ga K c) m) = true ∧ Meth K (He.ga K c) m (He.ma K (He.ga K c) m) ∧ FnR P w K mg base (L2.CX P w) k (He.ma K (He.ga K c) m) (toSp K sp)
  p : ∀ c f sp, S (.p c f) = some sp → ClsF K c ∧ ∃ p g, PrpF K (He.ga K c) f p g ∧ FnR P w K mg base (L2.CX P w) k g (toSp K sp)
  c : ∀ c sp, S (.c c) = some sp → ClsF K c
def oS (o : Option DSp) (f : DSp → Prop) : Prop := match o with
  | some sp => f sp
  | none => False
theorem oS.of {o : Option DSp} {f : DSp → Prop} (h : oS o f) : ∃ ds, o = some ds ∧ f ds := by
  cases o with
  | none => exact h.elim
  | some ds => exact ⟨ds, rfl, h⟩
theorem oS.mk {o : Option DSp} {f : DSp → Prop} {sp : DSp} (e : o = some sp) (h : f sp) : oS o f := by rw [e]; exact h
theorem SOk.mono {P : Program} {w : World} {K : PySem.W.Frag} {mg : Str → Option Value} {base : Heap} {S : Sps} {j k : Nat} (h : SOk P w K mg base S j) (le : j ≤ k) : SOk P w K mg base S k :=
  ⟨fun x sp e => let ⟨a, b, c⟩ := h.f x sp e; ⟨a, b, c.mono le⟩, fun c m sp e => let ⟨a, q, r, t⟩ := h.m c m sp e; ⟨a, q, r, t.mono le⟩, fun c m sp e => let ⟨a, p, g, q, r⟩ := h.p c m sp e; ⟨a, p, g, q, r.mono le⟩, h.c⟩

section
variable {X : Cx} {W : WX} {k : Nat}
/-- the callee runs; what it raises is wished for at the caller's slots -/
theorem run_fnRS {CX : CXT} {f : Addr} {sp : Sp} {E : XK} {Q : VK} {pins : List (Addr × Obj)} {σ : L2.St} {H : Hp} {s : Shared} {us : List Value} {vs : List V} (F : FnR X.prog X.w X.K X.mg X.base CX k f sp) (hr : Room k X.A) (hx : PassesAt CX X σ E) (I : Inv X pins σ H s) (r : Vals vs us) (h : sp vs H Q E) :
    codeAny (model X.prog X.w) X.A (.call (.ref f) ⟨us, []⟩) (fun r s' => match r with | .ok (.ret v) => EP X pins σ Q v s' | .ok _ => False | .error e => X.xe e s') s := by
  refine codeAny_mono (F X.A X.stack s H us vs Q E hr I.env0 r h) fun r s' hq => ?_
  cases r with
  | error e => exact hx pins H s e s' I hq
  | ok fl =>
    cases fl with
    | ret u => exact I.after hq
    | next => exact False.elim hq
    | brk => exact False.elim hq
    | cont => exact False.elim hq
/-- a promise over data, at a caller -/
theorem call_sp {f : Addr} {sp : DSp} {Q : VK} {pins : List (Addr × Obj)} {σ : L2.St} {H G F : Hp} {M : Mem} {P : DK} {ex : EX} {s : Shared} {us : List Value} {vs : List V} {ds : List Dt} (Fn : Clb X.prog X.w X.K X.mg X.base k f (toSp X.K sp)) (hr : Room k X.A) (tk : Takes X W)
    (I : Inv X pins σ H s) (r : Vals vs us) (R : Rep X.K G F H M) (id : IsDs X.K F ds vs) (h : sp ds M P ex) (hk : KOk X.K G F P Q) (hx : XOk X.K W G F ex σ) : wpAny (model X.prog X.w) X.A (call (.ref f) us) (EP X pins σ Q) X.xe s :=
  Fn X rfl rfl rfl rfl rfl hr (fun cls d H' => W cls d σ H') pins σ H s us vs Q (passAt tk σ) I r ⟨G, F, ds, M, P, ex, R, id, h, hk, hx⟩

def wCall (S : Sps) (x : Str) (r : WA) : WE := fun ex ρ M P => oS (S (.f x)) fun sp => r ex ρ M fun ds M1 => sp ds M1 P ex
variable {x : Str} {S : Sps} {r : WA} {e : Expr} {es : List Expr} {p pos : Pos}
theorem je_call (hS : SOk X.prog X.w X.K X.mg X.base S k) (hr : Room k X.A) (tk : Takes X W) (hg : Gl X x) (ha : JA X W (e :: es) r) (hdb : (x == ("__debug__" : Str)) = false)
    (he : starEach (e :: es) X.env = (false, eval e X.env) :: starEach es X.env) (hpl : (backTo pos (starEach es X.env)).any (·.1) = false) : JE X W (.Call (.Name x p) (e :: es) [] pos) (wCall S x r) := by
  refine ⟨fun pins s σ H Q I h => ?_⟩
  obtain ⟨ρ, M, G, F, P, ex, R, E, h, hK, kx⟩ := h
  obtain ⟨sp, q, h⟩ := h.of
  obtain ⟨hm, hk, Fn⟩ := hS.f x sp q
  refine wpAny_Call_Name_kw (ld_glob I hg hm ?_ hdb)
  refine PySem.W.callWith_K (h₀ := X.base) I.ok.mod.kin hk (thn (PA.run ha pos pins s σ H (fun vs H1 => ∃ ds M1 F1, Same F F1 ∧ Rep X.K G F1 H1 M1 ∧ IsDs X.K F1 ds vs ∧ sp ds M1 P ex) I ?_) fun us s1 ⟨vs, H1, I1, r, ds, M1, F1, le, R1, i1, h1⟩ => ⟨I1.kIn, ?_⟩) he hpl
  · exact ⟨ρ, M, G, F, _, ex, R, E, h, fun ds M1 F1 H1 vs h1 le1 R1 i1 => ⟨ds, M1, F1, le1, R1, i1, h1⟩, kx⟩
  · exact call_sp Fn hr tk I1 r R1 i1 h1 (hK.mono le) (kx.mono le)
theorem je_call0 (hS : SOk X.prog X.w X.K X.mg X.base S k) (hr : Room k X.A) (tk : Takes X W) (hg : Gl X x) (hdb : (x == ("__debug__" : Str)) = false) : JE X W (.Call (.Name x p) [] [] pos) (wCall S x wNil) := by
  refine ⟨fun pins s σ H Q I h => ?_⟩
  obtain ⟨ρ, M, G, F, P, ex, R, E, h, hK, kx⟩ := h
  obtain ⟨sp, q, h⟩ := h.of
  obtain ⟨hm, hk, Fn⟩ := hS.f x sp q
  refine wpAny_Call_Name_kw (ld_glob I hg hm ?_ hdb)
  exact PySem.W.callWith_K0 I.kIn hk (call_sp Fn hr tk I .nil R (ds := []) rfl h hK kx)

/-! ### built-ins by name -/
abbrev DCall := List Dt → Mem → DK → Prop
def lC (K : PySem.W.Frag) (r : DCall) : List V → Hp → VK → Prop := fun xs H Q => ∃ G F M ds P, Rep K G F H M ∧ IsDs K F ds xs ∧ r ds M P ∧ KOk K G F P Q
def CallB (X : Cx) (f : Value) (r : DCall) : Prop := CallR X f (lC X.K r)
def wB (d : DCall) (r : WA) : WE := fun ex ρ M P => r ex ρ M fun ds M1 => d ds M1 P
theorem lcb {d : DCall} {σ : L2.St} {H : Hp} {Q : VK} (h : lE X.K W (wB d r) σ H Q) : tCB (lC X.K d) (lA X.K W r) σ H Q := by
  obtain ⟨ρ, M, G, F, P, ex, R, E, h, hK, kx⟩ := h
  exact ⟨ρ, M, G, F, _, ex, R, E, h, fun ds M1 F1 H1 vs h1 le1 R1 i1 => ⟨G, F1, M1, ds, P, R1, i1, h1, hK.mono le1⟩, kx⟩
theorem je_callB {id : String} {d : DCall} (hc : CallB X (.builtin id) d) (hg : Gl X x) (hm : X.mg x = none) (hv : bootBuiltins x = some (.builtin id)) (ha : JA X W (e :: es) r) (hn : x ≠ "__name__") (hdb : (x == ("__debug__" : Str)) = false)
    (hs : starEach (e :: es) X.env = (false, eval e X.env) :: starEach es X.env) (hpl : (backTo pos (starEach es X.env)).any (·.1) = false) : JE X W (.Call (.Name x p) (e :: es) [] pos) (wB d r) :=
  PE.imp (pe_callB hc hg hm hv ha hn hdb hs hpl) fun _ _ _ h => lcb h
theorem je_callTy {T : String} {d : DCall} (hc : CallB X (.type T) d) (hg : Gl X x) (hm : X.mg x = none) (hv : bootBuiltins x = some (.type T)) (ha : JA X W (e :: es) r) (hn : x ≠ "__name__") (hdb : (x == ("__debug__" : Str)) = false)
    (hs : starEach (e :: es) X.env = (false, eval e X.env) :: starEach es X.env) (hpl : (backTo pos (starEach es X.env)).any (·.1) = false) : JE X W (.Call (.Name x p) (e :: es) [] pos) (wB d r) :=
  PE.imp (pe_callTy hc hg hm hv ha hn hdb hs hpl) fun _ _ _ h => lcb h
end

/-! ### what a def's body must give -/
/-- at a def's end: less is told, a list that may change no longer does -/
inductive Exit : Dt → Mem → Dt → Mem → Prop where
  | refl {d M} : Exit d M d M
  | drop {d M M' d' M''} : Mem.Le M' M → Exit d M' d' M'' → Exit d M d' M''
  | frz {a ds M d' M''} : M a = some (.lst ds) → Exit (.lst ds) (M.del a) d' M'' → Exit (.ref a) M d' M''
  | ins {a c ds M d' M''} : M a = some (.slt c (ds.map some)) → ds ≠ [] → Exit (.ins c ds) (M.del a) d' M'' → Exit (.ref a) M d' M''
theorem Mem.del_le (M : Mem) (a : Addr) : Mem.Le (M.del a) M := fun b u q => by
  unfold Mem.del at q
  split at q
  · cases q
  · exact q
theorem Mem.del_same {M : Mem} {a : Addr} : M.del a a = none := if_pos rfl
theorem Mem.del_ne {M : Mem} {a b : Addr} (h : b ≠ a) : M.del a b = M b := if_neg h
theorem isOs_some {K : PySem.W.Frag} {F : Hp} : ∀ {ds : List Dt} {vs : List (Option V)}, IsOs K F (ds.map some) vs → ∃ us, vs = us.map some ∧ IsDs K F ds us
  | [], _, .nil => ⟨[], rfl, rfl⟩
  | d :: ds, _, .some h q => let ⟨us, e, r⟩ := isOs_some q; ⟨_ :: us, by rw [e]; rfl, ⟨_, us, rfl, h, r⟩⟩
/-- an object no longer changes -/
theorem Rep.freeze {K : PySem.W.Frag} {G F H : Hp} {M : Mem} {a : Addr} {o : HO} (R : Rep K G F H M) (hH : H a = some o) (hm : ∃ u, M a = some u) : Same F (upd F a o) ∧ Rep K G (upd F a o) H (M.del a) := by
  obtain ⟨u, hm⟩ := hm
  have hF : F a = none := R.free a u hm
  have hG : G a = none := by
    cases q : G a with
    | none => rfl
    | some u' => rw [R.frM a _ q] at hm; cases hm
  have s : Same F (upd F a o) := fun b u q => by rw [upd_ne (ne_of_none q hF)]; exact q
  refine ⟨s, ⟨R.frm, fun b u q => by rw [upd_ne (ne_of_none q hG)]; exact R.frF b u q, fun b u q => by rw [Mem.del_ne (ne_of_none q hG)]; exact R.frM b u q, R.frL, fun b u q => ?_, fun b u q => ?_, fun b u q => ?_⟩⟩
  · by_cases hb : b = a
    · subst hb; rw [upd_same] at q; rw [hH]; exact q
    · rw [upd_ne hb] at q; exact R.sub b u q
  · have hb : b ≠ a := fun z => by rw [z, Mem.del_same] at q; cases q
    rw [Mem.del_ne hb] at q
    rw [upd_ne hb]; exact R.free b u q
  · have hb : b ≠ a := fun z => by rw [z, Mem.del_same] at q; cases q
    rw [Mem.del_ne hb] at q
    have z := R.mem b u q
    cases u with
    | lst ds => obtain ⟨us, e, hd⟩ := z; exact ⟨us, e, IsDs.mono s _ _ hd⟩
    | slt c ds =>
      refine SltM.move z s (fun u e => e) fun dx u e k _ => ?_
      obtain ⟨u', e', n1, n2⟩ := (R.mem a _ hm).there
      have hdx : dx ≠ a := fun z => by
        rw [z, e'] at e
        cases e
        rcases k with k | k
        · exact n1 _ k
        · exact n2 k
      exact ⟨e, fun _ f => by rw [upd_ne hdx]; exact f⟩
    | _ => exact z.elim
/-- .. the dict of an instance, too -/
theorem Rep.freezeXd {K : PySem.W.Frag} {G F H : Hp} {M : Mem} {a : Addr} (R : Rep K G F H M) (hH : H a = some (.xd [])) : Same F (upd F a (.xd [])) ∧ Rep K G (upd F a (.xd [])) H M := by
  have hG : G a = none := by
    cases q : G a with
    | none => rfl
    | some o =>
      obtain ⟨xs, rfl⟩ := R.frL a o q
      have z := R.frm a _ q
      rw [hH] at z; cases z
  have s : Same F (upd F a (.xd [])) := fun b u q => by
    by_cases hb : b = a
    · subst hb
      have z := R.sub b u q
      rw [hH] at z; cases z
      exact upd_same
    · rw [upd_ne hb]; exact q
  have nM : M a = none := by
    cases q : M a with
    | none => rfl
    | some u =>
      obtain ⟨u', e, _, n⟩ := (R.mem a u q).there
      rw [hH] at e; cases e
      exact absurd rfl n
  refine ⟨s, ⟨R.frm, fun b u q => by rw [upd_ne (ne_of_none q hG)]; exact R.frF b u q, R.frM, R.frL, fun b u q => ?_, fun b u q => ?_, fun b u q => ?_⟩⟩
  · by_cases hb : b = a
    · subst hb; rw [upd_same] at q; rw [hH]; exact q
    · rw [upd_ne hb] at q; exact R.sub b u q
  · have hb : b ≠ a := fun z => by rw [z, nM] at q; cases q
    rw [upd_ne hb]; exact R.free b u q
  · have z := R.mem b u q
    cases u with
    | lst ds => obtain ⟨us, e, hd⟩ := z; exact ⟨us, e, IsDs.mono s _ _ hd⟩
    | slt c ds =>
      refine SltM.move z s (fun u e => e) fun dx u e k _ => ⟨e, fun ku f => ?_⟩
      have hdx : dx ≠ a := fun z => by
        rw [z, hH] at e
        cases e
        cases ku
      rw [upd_ne hdx]; exact f
    | _ => exact z.elim
theorem Exit.ok {K : PySem.W.Frag} {G : Hp} : ∀ {d : Dt} {M : Mem} {d' : Dt} {M' : Mem}, Exit d M d' M' → ∀ {F H : Hp} {v : V}, Rep K G F H M → IsD K F d v → ∃ F', Same F F' ∧ Rep K G F' H M' ∧ IsD K F' d' v
  | _, _, _, _, .refl, F, _, _, R, i => ⟨F, Same.refl F, R, i⟩
  | _, _, _, _, .drop le x, _, _, _, R, i => x.ok (R.less le) i
  | _, _, _, _, .frz e x, F, H, v, R, i => by
    cases (show v = _ from i)
    obtain ⟨vs, hv, hd⟩ := R.mem _ _ e
    obtain ⟨s, R'⟩ := R.freeze hv ⟨_, e⟩
    obtain ⟨F', s', R'', i'⟩ := x.ok R' ⟨_, vs, rfl, upd_same, IsDs.mono s _ _ hd⟩
    exact ⟨F', s.trans s', R'', i'⟩
  | _, _, _, _, .ins (a := a) (c := c) e ne x, F, H, v, R, i => by
    cases (show v = _ from i)
    obtain ⟨dx, vs, u, hs, hu, hk, nd, hd⟩ := R.mem _ _ e
    obtain ⟨us, rfl, hdd⟩ := isOs_some hd
    rcases hs with ⟨_, h0⟩ | ⟨h1, h2⟩
    · have := hdd.length
      rw [List.map_eq_nil_iff] at h0
      rw [h0] at this
      exact absurd (List.length_eq_zero_iff.mp this.symm) ne
    · obtain ⟨s, R'⟩ := R.freeze h1 ⟨_, e⟩
      obtain ⟨s2, R2⟩ := R'.freezeXd h2
      obtain ⟨F', s', R'', i'⟩ := x.ok R2 ⟨a, dx, us, rfl, ⟨by rw [upd_ne nd.symm, upd_same], upd_same⟩, IsDs.mono (s.trans s2) _ _ hdd⟩
      exact ⟨F', (s.trans s2).trans s', R'', i'⟩

/-! ### a def keeps its promise by its body -/
def startD (N : List Str) (ds : List Dt) : DEnv := ds.map some ++ List.replicate (N.length - ds.length) none
def exitP (P : DK) : DK := fun d M => ∃ d' M', Exit d M d' M' ∧ P d' M'
/-- the body's reading, from the arguments -/
def wBody (N : List Str) (w : WS) (ds : List Dt) (M : Mem) (P : DK) (ex : EX) : Prop := w (fun x d _ M' => ex x d M') { nx := fun _ M' => exitP P .non M', rt := exitP P } (startD N ds) M
theorem eget_get : ∀ (ρ : DEnv) (i : Nat) (d : Dt), eget ρ i = some d ↔ ρ[i]? = some (some d)
  | [], i, d => by simp [eget]
  | e :: r, 0, d => by simp [eget]
  | e :: r, i + 1, d => by simp only [eget, List.getElem?_cons_succ]; exact eget_get r i d
theorem start_ok {K : PySem.W.Frag} {F : Hp} {N : List Str} {ds : List Dt} {vs : List V} (h : IsDs K F ds vs) : EnvR K F (startD N ds) (L2.start N vs) := by
  have hl := h.length
  refine ⟨by simp [startD, L2.start, hl], fun i d e => ?_⟩
  rw [eget_get] at e
  unfold startD at e
  unfold L2.start
  by_cases hi : i < ds.length
  · rw [List.getElem?_append_left (by simpa using hi), List.getElem?_map] at e
    rw [List.getElem?_append_left (by simpa [hl] using hi), List.getElem?_map]
    cases q : ds[i]? with
    | none => rw [q] at e; cases e
    | some d' =>
      rw [q] at e
      cases e
      obtain ⟨v, e1, e2⟩ := h.get q
      exact ⟨v, by rw [e1]; rfl, e2⟩
  · rw [List.getElem?_append_right (by simpa using hi)] at e
    have z := List.mem_of_getElem? e
    simp at z
theorem body_ok {X : Cx} {body : List Stmt} {w : WS} {E : XK} {N : List Str} {sp : DSp} (hN : X.N = N) (hb : JSs X (fun cls d _ H => E cls d H) body w) (spec : ∀ ds M P ex, sp ds M P ex → wBody N w ds M P ex) (vs : List V) (H : Hp) (Q : VK) (h : toSp X.K sp vs H Q E) :
    ∃ t, PSs X body t ∧ t { nx := fun _ H' => Q .non H', rt := Q } (L2.start N vs) H := by
  obtain ⟨G, F, ds, M, P, ex, R, i, h, k, kx⟩ := h
  refine ⟨_, hb, startD N ds, M, G, F, _, _, R, start_ok i, spec ds M P ex h, ⟨fun ρ' M' F' H' σ' q le R' E' => ?_, fun d M' F' H' v q le R' i' => ?_, fun _ _ _ _ _ z => z.elim, fun _ _ _ _ _ z => z.elim⟩, fun x d ρ' M' F' H' σ' dd q le R' E' xd => kx x d M' F' H' dd q le R' xd⟩
  · obtain ⟨d', M'', e, p⟩ := q
    obtain ⟨F'', s, R'', i''⟩ := e.ok R' (v := .non) rfl
    exact k d' M'' F'' H' _ p (le.trans s) R'' i''
  · obtain ⟨d', M'', e, p⟩ := q
    obtain ⟨F'', s, R'', i''⟩ := e.ok R' i'
    exact k d' M'' F'' H' _ p (le.trans s) R'' i''
/-- THE RULE for a def -/
theorem fn_ok {P : Program} {w : World} {K : PySem.W.Frag} {mg : Str → Option Value} {base : Heap} {x qual : Str} {params : Arguments} {body : List Stmt} {scope : Scope} {dvs : List V} {kws : List (Str × V)} {f : Addr} {fd : FuncData} {N ps : List Str} {k : Nat} {sp : DSp} {u : WS}
    (F : FunD K x qual params body scope dvs kws f fd) (Sc : FnScope N ps scope) (len : ∀ ds M P ex, sp ds M P ex → ds.length = ps.length)
    (hb : ∀ (cdv : Value) (A : Around) (outer : List Env) (s : Shared) (H : Hp) (E : XK), Room k (A.deeper (envOfC qual scope s.heap.objs.size f cdv)) →
      JSs (cxOf (L2.CX P w) P w K mg base N qual scope f cdv A outer s H E) (fun cls d _ H => E cls d H) body u)
    (spec : ∀ ds M P ex, sp ds M P ex → wBody N u ds M P ex) : FnOk P w K mg base (L2.CX P w) (k + 1) f fd ps (toSp K sp) := by
  refine fnOk_of F Sc (fun vs H Q E h => ?_) (fun cdv A outer s H vs Q E hr h => body_ok (X := cxOf (L2.CX P w) P w K mg base N qual scope f cdv A outer s H E) rfl (hb cdv A outer s H E hr) spec vs H Q h)
  obtain ⟨G, Ff, ds, M, Pp, ex, R, i, h, _⟩ := h
  rw [i.length, len _ _ _ _ h]
end Fs
set_option maxHeartbeats 4000000
/-! Fs6: instances: made, their attributes, methods, operators; built-ins. -/
namespace Fs
open PySem PySem.Spec PyProof.Rows L2

/-! ### what calls an object -/
theorem clb_fn {P : Program} {w : World} {K : PySem.W.Frag} {mg : Str → Option Value} {base : Heap} {k : Nat} {f : Addr} {sp : Sp} (F : FnR P w K mg base (L2.CX P w) k f sp) : Clb P w K mg base k f sp := by
  intro X h1 h2 h3 h4 h5 hr E pins σ H s us vs Q hx I r h
  subst h1 h2 h3 h4 h5
  exact wpAny_call (run_fnRS F hr hx I r h)
/-- a class is called: a new instance, then __init__ -/
theorem clb_mk {P : Program} {w : World} {K : PySem.W.Frag} {mg : Str → Option Value} {base : Heap} {k : Nat} {C f : Addr} {sp : Sp} (M : Mk K C f) (F : FnR P w K mg base (L2.CX P w) k f sp) :
    Clb P w K mg base (k + 1) C fun vs H Q E => ∀ x dx, H x = none → H dx = none → dx ≠ x → sp (.ref x :: vs) (upd (upd H dx (.own x)) x (.ins C dx [])) (fun v H2 => v = .non ∧ Q (.ref x) H2) E := by
  intro X h1 h2 h3 h4 h5 hr E pins σ H s us vs Q hx I r h
  subst h1 h2 h3 h4 h5
  have hq := h (s.heap.objs.size + 1) s.heap.objs.size (I.hok.fresh (Nat.le_succ _)) (I.hok.fresh (Nat.le_refl _)) (Nat.ne_of_lt (Nat.lt_succ_self _))
  have I2 := Inv.made (C := C) I
  have r2 : Vals (V.ref (s.heap.objs.size + 1) :: vs) (Value.ref (s.heap.objs.size + 1) :: us) := .cons rfl r
  refine wpAny_call (make_map (f := f) I.kIn M.makes M.init (beq_iff_eq.mp M.fn) (codeAny_mono (F _ X.stack _ _ (Value.ref (s.heap.objs.size + 1) :: us) _ _ E (hr.make C us []) (I2.env0.make C us []) r2 hq) fun r s' hq' => ?_))
  cases r with
  | error e => exact hx pins _ _ e s' I2 hq'
  | ok fl =>
    cases fl with
    | ret u =>
      obtain ⟨v, H', I3, rv, ev, q3⟩ := I2.after hq'
      subst ev
      exact ⟨rv, ⟨V.ref (s.heap.objs.size + 1), H', I3, rfl, q3⟩⟩
    | next => exact False.elim hq'
    | brk => exact False.elim hq'
    | cont => exact False.elim hq'
/-- .. over data: __init__ gets a slotted instance that may change, and hands back None -/
def mkSp (c : Str) (n : Nat) (sp : DSp) : DSp := fun ds M P ex => ∀ a, M a = none → sp (.ref a :: ds) (M.put a (.slt c (List.replicate n none))) (fun d M' => d = .non ∧ exitP P (.ref a) M') ex
theorem clb_mkD {P : Program} {w : World} {K : PySem.W.Frag} {mg : Str → Option Value} {base : Heap} {k : Nat} {c : Str} {f : Addr} {sp : DSp} (M : Mk K (He.ga K c) f) (F : FnR P w K mg base (L2.CX P w) k f (toSp K sp)) :
    Clb P w K mg base (k + 1) (He.ga K c) (toSp K (mkSp c 0 sp)) := by
  intro X h1 h2 h3 h4 h5 hr E pins σ H s us vs Q hx I r h
  refine clb_mk M F X h1 h2 h3 h4 h5 hr E pins σ H s us vs Q hx I r ?_
  intro x dx nx ndx ne
  obtain ⟨G, Ff, ds, Mm, Pp, ex, R, i, h, hk, hkx⟩ := h
  have hFd : Ff dx = none := by
    cases q : Ff dx with
    | none => rfl
    | some u => rw [R.sub dx u q] at ndx; cases ndx
  have hFx : Ff x = none := by
    cases q : Ff x with
    | none => rfl
    | some u => rw [R.sub x u q] at nx; cases nx
  have hGd : G dx = none := by
    cases q : G dx with
    | none => rfl
    | some u => rw [R.frm dx u q] at ndx; cases ndx
  have hGx : G x = none := by
    cases q : G x with
    | none => rfl
    | some u => rw [R.frm x u q] at nx; cases nx
  have hMx : Mm x = none := by
    cases q : Mm x with
    | none => rfl
    | some u => obtain ⟨u', e, _⟩ := (R.mem x u q).there; rw [nx] at e; cases e
  have hMd : Mm dx = none := by
    cases q : Mm dx with
    | none => rfl
    | some u => obtain ⟨u', e, _⟩ := (R.mem dx u q).there; rw [ndx] at e; cases e
  have grow : ∀ b u, H b = some u → upd (upd H dx (.own x)) x (.ins (He.ga K c) dx []) b = some u := fun b u q => by rw [upd_ne (ne_of_none q nx), upd_ne (ne_of_none q ndx)]; exact q
  have R2 : Rep K G Ff (upd (upd H dx (.own x)) x (.ins (He.ga K c) dx [])) (Mm.put x (.slt c [])) := by
    refine ⟨fun b u q => grow b u (R.frm b u q), R.frF, fun b u q => by rw [Mem.put_ne (ne_of_none q hGx)]; exact R.frM b u q, R.frL, fun b u q => grow b u (R.sub b u q), fun b u q => ?_, fun b u q => ?_⟩
    · by_cases hb : b = x
      · rw [hb]; exact hFx
      · rw [Mem.put_ne hb] at q; exact R.free b u q
    · by_cases hb : b = x
      · subst hb
        rw [Mem.put_same] at q
        cases q
        refine ⟨dx, [], .own b, .inl ⟨upd_same, rfl⟩, by rw [upd_ne ne, upd_same], .inl ⟨rfl, hFd⟩, ne, .nil⟩
      · rw [Mem.put_ne hb] at q
        have z := R.mem b u q
        cases u with
        | lst ds => obtain ⟨vs, e, hd⟩ := z; exact ⟨vs, grow _ _ e, hd⟩
        | slt c' ds => exact SltM.move z (Same.refl Ff) (fun u e => grow _ _ e) fun dx' u e _ _ => ⟨grow _ _ e, fun _ f => f⟩
        | _ => exact z.elim
  refine ⟨G, Ff, .ref x :: ds, _, _, ex, R2, ⟨.ref x, vs, rfl, rfl, i⟩, h x hMx, fun d M' F' H' v q le R' i' => ?_, hkx⟩
  obtain ⟨rfl, d', M'', e, p⟩ := q
  refine ⟨i', ?_⟩
  obtain ⟨F'', s', R'', i''⟩ := e.ok R' (v := .ref x) rfl
  exact hk d' M'' F'' H' _ p (le.trans s') R'' i''
end Fs
set_option maxHeartbeats 4000000
/-! Fs7: attributes, methods, operators of instances. -/
namespace Fs
open PySem PySem.Spec PyProof.Rows L2

/-! ### an instance that no longer changes -/
theorem ins_slt {K : PySem.W.Frag} {G F H : Hp} {M : Mem} {c : Str} {ds : List Dt} {v : V} (R : Rep K G F H M) (h : IsD K F (.ins c ds) v) :
    ∃ a dx vs, v = .ref a ∧ SlX.Slt H a (He.ga K c) dx (vs.map some) ∧ IsDs K F ds vs := by
  obtain ⟨a, dx, vs, rfl, ⟨h1, h2⟩, hd⟩ := h
  exact ⟨a, dx, vs, rfl, .inr ⟨R.sub _ _ h1, R.sub _ _ h2⟩, hd⟩
theorem isOs_get {K : PySem.W.Frag} {F : Hp} : ∀ {ds : List (Option Dt)} {vs : List (Option V)} {i : Nat} {d : Dt}, IsOs K F ds vs → ds[i]? = some (some d) → ∃ v, vs[i]? = some (some v) ∧ IsD K F d v
  | _, _, _, _, .nil, e => by simp at e
  | _, _, 0, _, .none _, e => by simp at e
  | _, _, 0, _, .some q _, e => by simp at e; subst e; exact ⟨_, rfl, q⟩
  | _, _, i + 1, _, .none h, e => isOs_get (i := i) h (by simpa using e)
  | _, _, i + 1, _, .some _ h, e => isOs_get (i := i) h (by simpa using e)

/-! ### x.f -/
def attrO (S : Sps) (f : Str) (d : Dt) (M : Mem) (P : DK) (ex : EX) : Prop := match d with
  | .ins c ds => (match slotIx c f with
    | some i => oS (S (.c c)) fun _ => oD ds[i]? fun d' => P d' M
    | none => oS (S (.p c f)) fun sp => sp [.ins c ds] M P noX)
  | .ref a => (match M a with
    | some (.slt c ds) => (match slotIx c f with
      | some i => oS (S (.c c)) fun _ => oD (ds[i]?).join fun d' => P d' M
      | none => False)
    | _ => False)
  | _ => False
def wAttr (S : Sps) (f : Str) (w : WE) : WE := fun ex ρ M P => w ex ρ M fun d M1 => attrO S f d M1 P ex
section
variable {X : Cx} {W : WX} {S : Sps} {k : Nat}
/-- a property is asked for -/
theorem getprop_d {b : Bool} {Q : VK} {pins : List (Addr × Obj)} {σ : L2.St} {H : Hp} {s : Shared} {a C dx p g : Addr} {vs : List (Option V)} {f : Str} {sp : Sp} {E : XK} (I : Inv X pins σ H s) (h : SlX.Slt H a C dx vs) (c : SlX.SCls X.K C)
    (hp : PrpF X.K C f p g) (F : FnR X.prog X.w X.K X.mg X.base (L2.CX X.prog X.w) k g sp) (hr : Room (k + 1) X.A) (hx : ∀ (H : Hp) (s : Shared) (e : Value) (s' : Shared), L2.CX X.prog X.w X.stack H s E e s' → False) (q : sp [.ref a] H Q E) :
    wpAny (model X.prog X.w) X.A (getAttr (.ref a) f b) (EP X pins σ Q) X.xe s := by
  obtain ⟨sl, od, _, J, _⟩ := SlX.slt_inst I h
  obtain ⟨rest, hrec⟩ := hp.rc
  have I1 : Inv X pins σ H { s with toks := s.toks + 1 } := I.tok (s.toks + 1)
  refine PySem.W.get_bind I.kIn J (PySem.W.plainGet_of (c.get f)).1 (PySem.W.findObj_data c.ic hp.at_ hp.get hp.tk) (PySem.W.plainGet_of (c.get f)).2 (wpAny_call (PySem.W.prop_get (s := { s with toks := s.toks + 1 }) I.kIn hrec ?_))
  refine codeAny_mono (F X.A.in1 X.stack { s with toks := s.toks + 1 } H [.ref a] [.ref a] Q E hr.in1 I1.env0.in1 (.cons rfl .nil) q) fun r s' hq => ?_
  cases r with
  | error e => exact (hx _ _ _ _ hq).elim
  | ok fl =>
    cases fl with
    | ret u =>
      obtain ⟨v, H', I2, rv, q⟩ := I1.after hq
      exact wpAny_of_eq (PySem.W.handedOut_of (handed_of rv)) ⟨v, H', I2, rv, q⟩
    | next => exact False.elim hq
    | brk => exact False.elim hq
    | cont => exact False.elim hq
theorem cx_none {P : Program} {w : World} {st : List Env} : ∀ (H : Hp) (s : Shared) (e : Value) (s' : Shared), L2.CX P w st H s (fun _ _ _ => False) e s' → False := by
  intro H s e s' h
  obtain ⟨_, _, _, _, _, _, _, _, _, _, _, _, z⟩ := h
  exact z
theorem attrO_ok (hS : SOk X.prog X.w X.K X.mg X.base S k) (hr : Room (k + 1) X.A) (tk : Takes X W) {b : Bool} {Q : VK} {pins : List (Addr × Obj)} {σ : L2.St} {G F H : Hp} {M : Mem} {s : Shared} {d : Dt} {v : V} {u : Value} {f : Str} {P : DK} {ex : EX} (I : Inv X pins σ H s) (ru : RelV v u)
    (R : Rep X.K G F H M) (i : IsD X.K F d v) (h : attrO S f d M P ex) (hK : KOk X.K G F P Q) (hX : XOk X.K W G F ex σ) : wpAny (model X.prog X.w) X.A (getAttr u f b) (EP X pins σ Q) X.xe s := by
  cases d with
  | ins c ds =>
    have i0 := i
    obtain ⟨a, dx, vs, rfl, hs, hd⟩ := ins_slt R i
    obtain rfl : u = Value.ref a := ru
    unfold attrO at h
    dsimp only at h
    cases e : slotIx c f with
    | some j =>
      rw [e] at h
      obtain ⟨_, hc, h⟩ := h.of
      obtain ⟨d', ed, h⟩ := h.of
      have cf := hS.c c _ hc
      obtain ⟨p, t⟩ := cf.slot f j e
      obtain ⟨w, ew, iw⟩ := hd.get ed
      refine SlX.getslot_ok I hs cf.cls t (v := w) (by rw [List.getElem?_map, ew]; rfl) fun u' s2 I2 ru2 => ⟨w, H, I2, ru2, hK d' M F H w h (Same.refl F) R iw⟩
    | none =>
      rw [e] at h
      obtain ⟨sp, hc, h⟩ := h.of
      obtain ⟨cf, p, g, hp, Fn⟩ := hS.p c f sp hc
      exact getprop_d (E := fun _ _ _ => False) I hs cf.cls hp Fn hr cx_none ⟨G, F, [.ins c ds], M, P, noX, R, ⟨_, [], rfl, i0, rfl⟩, h, hK, fun _ _ _ _ _ _ z => z.elim⟩
  | ref a =>
    cases (show v = _ from i)
    obtain rfl : u = Value.ref a := ru
    unfold attrO at h
    dsimp only at h
    cases q : M a with
    | none => rw [q] at h; exact h.elim
    | some o =>
      rw [q] at h
      cases o with
      | slt c ds =>
        dsimp only at h
        cases e : slotIx c f with
        | none => rw [e] at h; exact h.elim
        | some j =>
          rw [e] at h
          obtain ⟨_, hc, h⟩ := h.of
          obtain ⟨d', ed, h⟩ := h.of
          have cf := hS.c c _ hc
          obtain ⟨p, t⟩ := cf.slot f j e
          obtain ⟨dx, vs, uu, hs, _, _, _, ho⟩ := R.mem a _ q
          have ed' : ds[j]? = some (some d') := by
            cases z : ds[j]? with
            | none => rw [z] at ed; cases ed
            | some y => rw [z] at ed; exact congrArg some ed
          obtain ⟨w, ew, iw⟩ := isOs_get ho ed'
          exact SlX.getslot_ok I hs cf.cls t (v := w) ew fun u' s2 I2 ru2 => ⟨w, H, I2, ru2, hK d' M F H w h (Same.refl F) R iw⟩
      | _ => exact h.elim
  | _ => exact h.elim
variable {e : Expr} {f : Str} {w : WE} {pos : Pos}
theorem je_attr (hS : SOk X.prog X.w X.K X.mg X.base S k) (hr : Room (k + 1) X.A) (tk : Takes X W) (he : JE X W e w) (hb : attributeBase e f X.env (eval e X.env) = eval e X.env) : JE X W (.Attribute e f pos) (wAttr S f w) := by
  refine ⟨fun pins s σ H Q I h => ?_⟩
  obtain ⟨ρ, M, G, F, P, ex, R, E, h, hK, hX⟩ := h
  refine attr_of hb (thn (PE.run he pins s σ H (fun v H1 => ∃ d M1 F1, Same F F1 ∧ Rep X.K G F1 H1 M1 ∧ IsD X.K F1 d v ∧ attrO S f d M1 P ex) I ?_) fun u s1 ⟨x, H1, I1, rx, d, M1, F1, le, R1, i1, h1⟩ => ?_)
  · exact ⟨ρ, M, G, F, _, ex, R, E, h, fun d M1 F1 H1 v h1 le1 R1 i1 => ⟨d, M1, F1, le1, R1, i1, h1⟩, hX⟩
  · exact attrO_ok hS hr tk I1 rx R1 i1 h1 (hK.mono le) (hX.mono le)
end

/-! ### x.m(..) -/
/-- the class of an instance -/
def clsD (M : Mem) : Dt → Option Str
  | .ins c _ => some c
  | .ref a => match M a with
    | some (.slt c _) => some c
    | _ => none
  | _ => none
theorem clsD_ok {K : PySem.W.Frag} {G F H : Hp} {M : Mem} {d : Dt} {v : V} {c : Str} (R : Rep K G F H M) (i : IsD K F d v) (e : clsD M d = some c) : ∃ a dx vs, v = .ref a ∧ SlX.Slt H a (He.ga K c) dx vs := by
  cases d with
  | ins c' ds =>
    cases e
    obtain ⟨a, dx, vs, rfl, hs, _⟩ := ins_slt R i
    exact ⟨a, dx, _, rfl, hs⟩
  | ref a =>
    cases (show v = _ from i)
    dsimp only [clsD] at e
    cases q : M a with
    | none => rw [q] at e; cases e
    | some o =>
      rw [q] at e
      cases o with
      | slt c' ds =>
        cases e
        obtain ⟨dx, vs, uu, hs, _⟩ := R.mem a _ q
        exact ⟨a, dx, vs, rfl, hs⟩
      | _ => cases e
  | _ => cases e
def oC (o : Option Str) (f : Str → Prop) : Prop := match o with
  | some b => f b
  | none => False
theorem oC.of {o : Option Str} {f : Str → Prop} (h : oC o f) : ∃ ds, o = some ds ∧ f ds := by
  cases o with
  | none => exact h.elim
  | some ds => exact ⟨ds, rfl, h⟩
def wMeth (S : Sps) (m : Str) (w : WE) (r : WA) : WE := fun ex ρ M P => w ex ρ M fun d M1 => oC (clsD M1 d) fun c => oS (S (.m c m)) fun sp => r ex ρ M1 fun ds M2 => sp (d :: ds) M2 P ex
section
variable {X : Cx} {W : WX} {S : Sps} {k : Nat} {o e : Expr} {es : List Expr} {m : Str} {w : WE} {r : WA} {pos apos : Pos} {pl : Sem Bool}
theorem je_meth (hS : SOk X.prog X.w X.K X.mg X.base S k) (hr : Room k X.A) (tk : Takes X W) (he : JE X W o w) (ha : JA X W (e :: es) r)
    (hst : starEach (e :: es) X.env = (false, eval e X.env) :: starEach es X.env) (hpl : (backTo pos (starEach es X.env)).any (·.1) = false)
    (ht : eval (.Call (.Attribute o m apos) (e :: es) [] pos) X.env = (do
      let ov ← eval o X.env
      standAt apos.atName
      let (f, first) ← holding [ov] (getMethod ov m pl)
      callWith pos f first (backTo pos (starEach (e :: es) X.env)) (backToKw pos (keywordEach [] X.env)))) :
    JE X W (.Call (.Attribute o m apos) (e :: es) [] pos) (wMeth S m w r) := by
  refine ⟨fun pins s σ H Q I h => ?_⟩
  obtain ⟨ρ, M, G, F, P, ex, R, E, h, hK, hX⟩ := h
  refine PySem.W.methodCall_KW (pl := pl) (thn (PE.run he pins s σ H (fun v H1 => ∃ d M1 F1, Same F F1 ∧ Rep X.K G F1 H1 M1 ∧ IsD X.K F1 d v ∧ oC (clsD M1 d) fun c => oS (S (.m c m)) fun sp => r ex ρ M1 fun ds M2 => sp (d :: ds) M2 P ex) I ?_) fun u s1 ⟨x, H1, I1, rx, d, M1, F1, le, R1, i1, h1⟩ => ?_) ht
  · exact ⟨ρ, M, G, F, _, ex, R, E, h, fun d M1 F1 H1 v h1 le1 R1 i1 => ⟨d, M1, F1, le1, R1, i1, h1⟩, hX⟩
  obtain ⟨c, ec, h1⟩ := h1.of
  obtain ⟨sp, hc, h1⟩ := h1.of
  obtain ⟨a, dx, vs, rfl, hsl⟩ := clsD_ok R1 i1 ec
  obtain rfl : u = Value.ref a := rx
  obtain ⟨cf, _, hm, Fn⟩ := hS.m c m sp hc
  refine SlX.getmethsl_ok I1 hsl cf.cls hm ?_
  refine PySem.W.callWith_K (first := [.ref a]) (h₀ := X.base) I.ok.mod.kin hm.kp (thn (PA.run ha pos pins s1 σ H1 (fun vs H2 => ∃ ds M2 F2, Same F1 F2 ∧ Rep X.K G F2 H2 M2 ∧ IsDs X.K F2 ds vs ∧ sp (d :: ds) M2 P ex) I1 ?_) fun us s2 ⟨ws, H2, I2, rr, ds, M2, F2, le2, R2, i2, h2⟩ => ⟨I2.kIn, ?_⟩) hst hpl
  · exact ⟨ρ, M1, G, F1, _, ex, R1, E.mono le, h1, fun ds M2 F2 H2 vs h2 le2 R2 i2 => ⟨ds, M2, F2, le2, R2, i2, h2⟩, hX.mono le⟩
  · have i3 : IsDs X.K F2 (d :: ds) (.ref a :: ws) := ⟨_, ws, rfl, IsD.mono le2 _ _ i1, i2⟩
    exact call_sp (clb_fn Fn) hr tk I2 (us := .ref a :: us) (vs := .ref a :: ws) (.cons rfl rr) R2 i3 h2 (hK.mono (le.trans le2)) (hX.mono (le.trans le2))
theorem je_meth0 (hS : SOk X.prog X.w X.K X.mg X.base S k) (hr : Room k X.A) (tk : Takes X W) (he : JE X W o w)
    (ht : eval (.Call (.Attribute o m apos) [] [] pos) X.env = (do
      let ov ← eval o X.env
      standAt apos.atName
      let (f, first) ← holding [ov] (getMethod ov m pl)
      callWith pos f first (backTo pos (starEach [] X.env)) (backToKw pos (keywordEach [] X.env)))) :
    JE X W (.Call (.Attribute o m apos) [] [] pos) (wMeth S m w wNil) := by
  refine ⟨fun pins s σ H Q I h => ?_⟩
  obtain ⟨ρ, M, G, F, P, ex, R, E, h, hK, hX⟩ := h
  refine PySem.W.methodCall_KW (pl := pl) (thn (PE.run he pins s σ H (fun v H1 => ∃ d M1 F1, Same F F1 ∧ Rep X.K G F1 H1 M1 ∧ IsD X.K F1 d v ∧ oC (clsD M1 d) fun c => oS (S (.m c m)) fun sp => sp [d] M1 P ex) I ?_) fun u s1 ⟨x, H1, I1, rx, d, M1, F1, le, R1, i1, h1⟩ => ?_) ht
  · exact ⟨ρ, M, G, F, _, ex, R, E, h, fun d M1 F1 H1 v h1 le1 R1 i1 => ⟨d, M1, F1, le1, R1, i1, h1⟩, hX⟩
  obtain ⟨c, ec, h1⟩ := h1.of
  obtain ⟨sp, hc, h1⟩ := h1.of
  obtain ⟨a, dx, vs, rfl, hsl⟩ := clsD_ok R1 i1 ec
  obtain rfl : u = Value.ref a := rx
  obtain ⟨cf, _, hm, Fn⟩ := hS.m c m sp hc
  refine SlX.getmethsl_ok I1 hsl cf.cls hm ?_
  exact PySem.W.callWith_K0 (first := [.ref a]) I1.kIn hm.kp (call_sp (clb_fn Fn) hr tk I1 (us := [.ref a]) (vs := [.ref a]) (.cons rfl .nil) R1 (ds := [d]) ⟨_, [], rfl, i1, rfl⟩ h1 (hK.mono le) (hX.mono le))
end

/-! ### operations that may raise -/
abbrev DOpX := Dt → Dt → Mem → DK → EX → Prop
def OpX (X : Cx) (W : WX) (f : Value → Value → Sem Value) (o : DOpX) : Prop :=
  ∀ (pins : List (Addr × Obj)) (s : Shared) (σ : L2.St) (H G F : Hp) (M : Mem) (dx dy : Dt) (P : DK) (ex : EX) (x y : V) (v u : Value) (Q : VK), Inv X pins σ H s → RelV x v → RelV y u → Rep X.K G F H M → IsD X.K F dx x → IsD X.K F dy y → o dx dy M P ex → KOk X.K G F P Q → XOk X.K W G F ex σ →
    wpAny (model X.prog X.w) X.A (f v u) (EP X pins σ Q) X.xe s
theorem OpD.x {X : Cx} {W : WX} {f : Value → Value → Sem Value} {o : DOp} (h : OpD X f o) : OpX X W f fun x y M P _ => o x y M P :=
  fun pins s σ H G F M dx dy P ex x y v u Q I rx ry R ix iy ho hK _ => h pins s σ H x y v u Q I rx ry ⟨G, F, M, dx, dy, P, R, ix, iy, ho, hK⟩
def wOpX (o : DOpX) (wa wb : WE) : WE := fun ex ρ M P => wa ex ρ M fun x M1 => wb ex ρ M1 fun y M2 => o x y M2 P ex
def nsl : Expr → Bool
  | .Slice _ _ _ _ => false
  | _ => true
def IxX (X : Cx) (W : WX) (o : DOpX) : Prop :=
  ∀ (value slice : Expr) (pins : List (Addr × Obj)) (s : Shared) (σ : L2.St) (H G F : Hp) (M : Mem) (dx dy : Dt) (P : DK) (ex : EX) (x y : V) (v u : Value) (Q : VK), nsl slice = true → Inv X pins σ H s → RelV x v → RelV y u → Rep X.K G F H M → IsD X.K F dx x → IsD X.K F dy y → o dx dy M P ex → KOk X.K G F P Q → XOk X.K W G F ex σ →
    wpAny (model X.prog X.w) X.A (subscriptTail value slice v u) (EP X pins σ Q) X.xe s
section
variable {X : Cx} {W : WX} {S : Sps} {k : Nat} {a b : Expr} {wa wb : WE} {pos : Pos}
/-- two expressions one after the other -/
theorem two_d {Φ : Value → Value → Shared → Prop} {o : DOpX} {pins : List (Addr × Obj)} {s : Shared} {σ : L2.St} {H : Hp} {Q : VK} (ha : JE X W a wa) (hb : JE X W b wb) (I : Inv X pins σ H s) (h : lE X.K W (wOpX o wa wb) σ H Q)
    (ho : ∀ (s : Shared) (H G F : Hp) (M : Mem) (dx dy : Dt) (P : DK) (ex : EX) (x y : V) (v u : Value), Inv X pins σ H s → RelV x v → RelV y u → Rep X.K G F H M → IsD X.K F dx x → IsD X.K F dy y → o dx dy M P ex → KOk X.K G F P Q → XOk X.K W G F ex σ → Φ v u s) :
    wpAny (model X.prog X.w) X.A (eval a X.env) (fun v s1 => wpAny (model X.prog X.w) X.A (eval b X.env) (fun u s2 => Φ v u s2) X.xe s1) X.xe s := by
  obtain ⟨ρ, M, G, F, P, ex, R, E, h, hK, hX⟩ := h
  refine thn (PE.run ha pins s σ H (fun v H1 => ∃ d M1 F1, Same F F1 ∧ Rep X.K G F1 H1 M1 ∧ IsD X.K F1 d v ∧ wb ex ρ M1 fun y M2 => o d y M2 P ex) I ?_) fun u s1 ⟨x, H1, I1, rx, d, M1, F1, le, R1, i1, h1⟩ => ?_
  · exact ⟨ρ, M, G, F, _, ex, R, E, h, fun d M1 F1 H1 v h1 le1 R1 i1 => ⟨d, M1, F1, le1, R1, i1, h1⟩, hX⟩
  refine thn (PE.run hb pins s1 σ H1 (fun v H2 => ∃ d2 M2 F2, Same F1 F2 ∧ Rep X.K G F2 H2 M2 ∧ IsD X.K F2 d2 v ∧ o d d2 M2 P ex) I1 ?_) fun u2 s2 ⟨y, H2, I2, ry, d2, M2, F2, le2, R2, i2, h2⟩ => ?_
  · exact ⟨ρ, M1, G, F1, _, ex, R1, E.mono le, h1, fun d M2 F2 H2 v h2 le2 R2 i2 => ⟨d, M2, F2, le2, R2, i2, h2⟩, hX.mono le⟩
  exact ho s2 H2 G F2 M2 d d2 P ex x y u u2 I2 rx ry R2 (IsD.mono le2 _ _ i1) i2 h2 (hK.mono (le.trans le2)) (hX.mono (le.trans le2))
theorem je_binX {op : Operator} {o : DOpX} (ho : OpX X W (binaryOp op) o) (ha : JE X W a wa) (hb : JE X W b wb) : JE X W (.BinOp a op b pos) (wOpX o wa wb) :=
  ⟨fun pins s σ H Q I h => wpAny_BinOp (two_d ha hb I h fun s H G F M dx dy P ex x y v u I rx ry R ix iy q hK hX => ho pins s σ H G F M dx dy P ex x y v u Q I rx ry R ix iy q hK hX)⟩
theorem je_cmpX {op : CmpOp} {o : DOpX} (ho : OpX X W (compareOp op) o) (ha : JE X W a wa) (hb : JE X W b wb) (hm : behindInMarks op b = false) : JE X W (.Compare a [op] [b] pos) (wOpX o wa wb) :=
  ⟨fun pins s σ H Q I h => wpAny_Compare1 (two_d ha hb I h fun s H G F M dx dy P ex x y v u I rx ry R ix iy q hK hX => ho pins s σ H G F M dx dy P ex x y v u Q I rx ry R ix iy q hK hX) hm⟩
theorem je_ixX {o : DOpX} (ho : IxX X W o) (ha : JE X W a wa) (hb : JE X W b wb) (hs : nsl b = true) : JE X W (.Subscript a b pos) (wOpX o wa wb) :=
  ⟨fun pins s σ H Q I h => Subscript_ (two_d ha hb I h fun s H G F M dx dy P ex x y v u I rx ry R ix iy q hK hX => ho a b pins s σ H G F M dx dy P ex x y v u Q hs I rx ry R ix iy q hK hX)⟩
end
end Fs
set_option maxHeartbeats 4000000
/-! Fn1: != of instances whose class has an own == alone. -/
namespace FZ
open PySem PySem.W PySem.Calls PySem.Spec PyProof.Rows
theorem on_bind (self : Value) : bindSpecial (.builtin "object.__ne__") self = pure (.builtin "object.__ne__", [self]) :=
  (Slot.of (T := "object") (name := "__ne__") (owner := "object") (n := "__ne__") (by rw [typeLookup_type, builtinLookup_eq_fast]; kernel_rfl) (by decide +kernel) (by decide +kernel) (by decide +kernel)
    (.inl (by decide +kernel)) (by rw [isSubtype_type]; kernel_rfl)).bind self
theorem on_plain : plainId "object.__ne__" = true := by decide +kernel
section
variable {prog : Program} {w : World} {A : Around} {E : Value → Shared → Prop} {s : Shared} {K : Frag} {x C L f : Addr} {h₀ : Heap} {m : Str → Option Value} {ox : Obj} {od : Option Obj} {b tb : Value}
theorem ne_K {Q : Value → Shared → Prop} (hu : A.units + 1 < cLine) (F : Fr h₀ L s.heap m) (X₀ : K.In h₀) (I : InstAt s.heap x ox C od) (hb : Looks (model prog w) s.heap (typeOf b) tb) (hn : notFirst K C tb = true)
    (hs : findIn K (.ref C) "__ne__" = some (some (.builtin "object.__ne__"))) (he : findIn K (.ref C) "__eq__" = some (some (.ref f))) (hf : isFn K (.ref f) = true) (hm : mroIn K C (.type "object") = some true)
    (h : wpAny (model prog w) A.in1 (call (.ref f) [.ref x, b]) (fun v s' => ∃ k, v = .bool k ∧ Q (.bool (!k)) s') E s) : wpAny (model prog w) A (richCompare .NotEq (.ref x) b) Q E s := by
  have X := X₀.keeps F.keep
  have hi : Looks (model prog w) s.heap (isInstance (.ref x) (.type "object")) true := I.type.andThen (looks_mroIn X hm)
  have body : wpAny (model prog w) A.in1 (Builtin.«object.__ne__» ⟨[.ref x, b], []⟩) (fun fin s' => ∃ v, fin = .done (.ret v) ∧ (∃ k, v = .bool k) ∧ Q v s') E s := by
    unfold Builtin.«object.__ne__»
    refine wpAny_bind (wpAny_pure ?_)
    refine wpAny_bind (wpAny_cRoomFor hu ?_)
    refine wpAny_bind (ifBound_K X I he hf (wpAny_mono h (fun v s' z => ?_) fun _ _ e => e))
    obtain ⟨k, rfl, q⟩ := z
    refine wpAny_bind (wpAny_truthy_bool ?_)
    exact wpAny_pure ⟨_, rfl, ⟨_, rfl⟩, q⟩
  have one : wpAny (model prog w) A (tryCompare (.ref x) "__ne__" b) (fun r s' => ∃ v, r = some v ∧ Q v s') E s := by
    unfold tryCompare
    refine wpAny_bind (?_ : wpAny (model prog w) A (callSpecialIfBound? (.ref x) "__ne__" [b]) _ E s)
    simp only [callSpecialIfBound?, bindSpecialIfBound?]
    refine wpAny_holding (wpAny_bind (wpAny_bind (wpAny_bind (I.type.here ((looks_findIn X hs).here ?_)))))
    refine wpAny_bind (wpAny_askSetting (wpAny_ite ?_))
    have fin : wpAny (model prog w) A (call (.builtin "object.__ne__") ([.ref x] ++ [b]) >>= fun v => pure (some v)) (fun r s' => ∃ k, r = some (.bool k) ∧ Q (.bool k) s') E s := by
      refine wpAny_bind (wpAny_call (codeAny_call_builtin on_plain PySem.F.cmpEntry_ne (check_slot (i := "object.__ne__") (owner := "object") (n := "__ne__") PySem.F.cmpKind_ne PySem.F.cmpSplit_ne hi (PySem.F.cmpArgs_ne _ _) ?_)))
      refine wpAny_mono body (fun fin s' z => ?_) fun _ _ e => e
      obtain ⟨v, rfl, ⟨k, rfl⟩, q⟩ := z
      exact wpAny_pure ⟨_, rfl, q⟩
    split
    · refine wpAny_bind ?_
      rw [on_bind]
      refine wpAny_pure (wpAny_pure (wpAny_mono (by exact fin) (fun r s' z => ?_) fun _ _ e => e))
      obtain ⟨k, rfl, q⟩ := z
      exact wpAny_pure ⟨_, rfl, q⟩
    · refine wpAny_tryCatch (wpAny_bind ?_)
      rw [on_bind]
      refine wpAny_pure (wpAny_pure (wpAny_mono (by exact fin) (fun r s' z => ?_) fun _ _ e => e))
      obtain ⟨k, rfl, q⟩ := z
      exact wpAny_pure ⟨_, rfl, q⟩
  unfold richCompare
  simp only [oneThing_ref]
  refine wpAny_holding (wpAny_bind (wpAny_cRoomFor (by omega) ?_))
  refine wpAny_bind (I.type.here (wpAny_bind (hb.here ?_)))
  split
  · rename_i q
    have e : subIn K tb (.ref C) = some false := by
      rcases Bool.or_eq_true_iff.mp hn with e | e
      · rw [beq_iff_eq.mp e] at q; simp at q
      · exact beq_iff_eq.mp e
    refine wpAny_bind ((looks_subIn X e).here ?_)
    simp only [Bool.false_eq_true, if_false]
    refine wpAny_bind (wpAny_mono one (fun r s' z => ?_) fun _ _ e => e)
    obtain ⟨v, rfl, q⟩ := z
    exact wpAny_pure q
  · refine wpAny_bind (wpAny_pure ?_)
    simp only [Bool.false_eq_true, if_false]
    refine wpAny_bind (wpAny_mono one (fun r s' z => ?_) fun _ _ e => e)
    obtain ⟨v, rfl, q⟩ := z
    exact wpAny_pure q
end
end FZ
set_option maxHeartbeats 4000000
/-! Fn2: an instance times an int, an int times an instance. -/
namespace FZ
open PySem PySem.W PySem.Calls PySem.Spec PyProof.Rows
theorem int_mul_at (K : Frag) : findIn K (.type "int") (PySem.dunder "mul") = some (some (.builtin "int.__mul__")) := by kernel_rfl
theorem int_rmul_at (K : Frag) : findIn K (.type "int") (dunderR "mul") = some (some (.builtin "int.__rmul__")) := by kernel_rfl
theorem int_not (K : Frag) (C : Addr) : subIn K (.type "int") (.ref C) = some false := by kernel_rfl
section
variable {prog : Program} {w : World} {A : Around} {E : Value → Shared → Prop} {s : Shared} {K : Frag} {x C L f g : Addr} {h₀ : Heap} {m : Str → Option Value} {ox : Obj} {od : Option Obj} {n : Int} {t : Tok}
theorem mul_int {Q : Value → Shared → Prop} (F : Fr h₀ L s.heap m) (X₀ : K.In h₀) (I : InstAt s.heap x ox C od) (hc : selfFirst K C = true) (hs : findIn K (.ref C) "__mul__" = some (some (.ref f))) (hf : isFn K (.ref f) = true) (hr : findIn K (.ref C) "__rmul__" = some (some (.ref g)))
    (h : wpAny (model prog w) A (call (.ref f) [.ref x, .int n t]) (W.CmpBack Q) E s) : wpAny (model prog w) A (binaryOp .Mult (.ref x) (.int n t)) Q E s :=
  ksp_binT (T := "int") F X₀ I rfl hc hs hf hr (.inr ⟨g, rfl⟩) (int_mul_at K) (int_rmul_at K) (int_not K C) h
/-- int.__mul__ declines -/
theorem int_declines (n : Int) (t : Tok) (x : Addr) (oc : Value) (oi : Option Addr) (osl : Array (Option Value)) :
    Meets (Builtin.«int.__mul__» ⟨[.int n t, .ref x], []⟩) (fun _ R s => s.heap.get? x = some { cls := oc, dict := oi, data := .plain, slots := osl } ∧ R (.ok (.ret Value.notImplemented)) s) :=
  .of_wp fun prog w A R s h => by obtain ⟨hp, g, d, tk, os⟩ := s; obtain ⟨hl, h⟩ := h; wp_walk; exact ⟨_, rfl, h⟩
theorem int_mul_ins {Q : Value → Shared → Prop} (F : Fr h₀ L s.heap m) (X₀ : K.In h₀) (I : InstAt s.heap x ox C od) (hp : ox.data = .plain) (hc : selfFirst K C = true) (hs : findIn K (.ref C) "__mul__" = some (some (.ref f))) (hr : findIn K (.ref C) "__rmul__" = some (some (.ref g))) (hg : isFn K (.ref g) = true) (hsub : mroIn K C (.type "int") = some false)
    (h : wpAny (model prog w) A (call (.ref g) [.ref x, .int n t]) (W.CmpBack Q) E s) : wpAny (model prog w) A (binaryOp .Mult (.int n t) (.ref x)) Q E s := by
  have X := X₀.keeps F.keep
  obtain ⟨cd, rest, hcd, hm⟩ := ksp_first hc
  have one : wpAny (model prog w) A (tryMethod (.ref x) "__rmul__" (.int n t)) (fun r s' => ∃ v, r = some v ∧ Q v s') E s := ksp_try X I hr hg h
  have decl : wpAny (model prog w) A (tryMethod (.int n t) "__mul__" (.ref x)) (fun r s' => r = none ∧ s' = s) E s := by
    obtain ⟨oc, oi, od', osl⟩ := ox
    simp only at hp
    subst hp
    unfold tryMethod
    refine wpAny_bind (wpAny_callSpecial?_slot (name := Str.ofString "__mul__") (typeIs_int s n t) PySem.F.slot_int_mul
      (wpAny_mono (call_meets PySem.F.slot_int_mul (typeIs_int s n t) PySem.F.entry_int_mul (PySem.F.args_int_mul_2 _ _) (int_declines n t x oc oi osl) (Q := fun v s' => v = .notImplemented ∧ s' = s) ⟨I.at_, rfl, rfl⟩) (fun v s' z => ?_) fun _ _ e => e))
    obtain ⟨rfl, rfl⟩ := z
    exact wpAny_pure ⟨rfl, rfl⟩
  obtain ⟨hh, gg, d, tt, os⟩ := s
  have L1 : Looks (model prog w) hh (typeOf (.ref x)) (.ref C) := I.type
  have L2 : Looks (model prog w) hh (typeOf (.int n t)) (.type "int") := Looks.of_pure rfl
  have L3 : Looks (model prog w) hh (fillsNumberSlot (.ref C) "mul") true := fills_K X hcd hm hs
  have L4 : Looks (model prog w) hh (fillsNumberSlot (.type "int") "mul") true := ksp_fillsT X (int_mul_at K) (int_rmul_at K)
  have L5 : Looks (model prog w) hh (isSubtype (.ref C) (.type "int")) false := looks_subIn X hsub
  have L7 : Looks (model prog w) hh (numberSlotInPython (.type "int") "mul") false := Looks.of_pure rfl
  have hne : (Value.type "int" == Value.ref C) = false := Bool.eq_false_iff.mpr fun q => by cases beq_iff_eq.mp q
  simp only [binaryOp]
  refine wpAny_holding (wpAny_bind ?_)
  show wpAny _ _ (binaryOp1 "mul" (.int n t) (.ref x)) _ _ _
  unfold binaryOp1
  refine wpAny_bind (L2.at (wpAny_bind (L1.at (wpAny_bind (L4.at ?_)))))
  simp only [hne, Bool.false_eq_true, if_false]
  ksp_lk
  refine wpAny_mono decl (fun r s' z => ?_) fun _ _ e => e
  obtain ⟨rfl, rfl⟩ := z
  ksp_lk
  refine wpAny_mono one (fun r s' hr' => ?_) fun _ _ e => e
  obtain ⟨v, rfl, hq⟩ := hr'
  ksp_lk
  exact hq
end
end FZ
set_option maxHeartbeats 4000000
/-! Fs8: the operators of the language, by what stands at their sides. -/
namespace Fs
open PySem PySem.Spec PyProof.Rows L2

/-! ### two instances -/
def insO (S : Sps) (m : Str) : DOpX := fun x y M P ex => match x with
  | .ins c _ => (match y with
    | .ins c' _ => c = c' ∧ oS (S (.m c m)) fun sp => sp [x, y] M P ex
    | _ => False)
  | _ => False
theorem insO.of {S : Sps} {m : Str} {x y : Dt} {M : Mem} {P : DK} {ex : EX} (h : insO S m x y M P ex) : ∃ c ds es sp, x = .ins c ds ∧ y = .ins c es ∧ S (.m c m) = some sp ∧ sp [x, y] M P ex := by
  cases x with
  | ins c ds =>
    cases y with
    | ins c' es =>
      obtain ⟨rfl, h⟩ := h
      obtain ⟨sp, e, h⟩ := h.of
      exact ⟨c, ds, es, sp, rfl, rfl, e, h⟩
    | _ => exact h.elim
  | _ => exact h.elim
section
variable {X : Cx} {W : WX} {S : Sps} {k : Nat}
theorem OpX.imp {f : Value → Value → Sem Value} {o o' : DOpX} (h : OpX X W f o) (i : ∀ x y M P ex, o' x y M P ex → o x y M P ex) : OpX X W f o' :=
  fun pins s σ H G F M dx dy P ex x y v u Q I rx ry R ix iy ho hK hX => h pins s σ H G F M dx dy P ex x y v u Q I rx ry R ix iy (i _ _ _ _ _ ho) hK hX
/-- the callee of an operator at an instance -/
theorem ins_call (hS : SOk X.prog X.w X.K X.mg X.base S k) (hr : Room k X.A) (tk : Takes X W) {c m : Str} {sp : DSp} (e : S (.m c m) = some sp) {pins : List (Addr × Obj)} {s : Shared} {σ : L2.St} {H G F : Hp} {M : Mem} {ds : List Dt} {P : DK} {ex : EX} {us : List Value} {vs : List V} {Q : VK}
    (I : Inv X pins σ H s) (r : Vals vs us) (R : Rep X.K G F H M) (i : IsDs X.K F ds vs) (h : sp ds M P ex) (hK : KOk X.K G F P Q) (hX : XOk X.K W G F ex σ) :
    wpAny (model X.prog X.w) X.A (call (.ref (He.ma X.K (He.ga X.K c) m)) us) (PySem.W.CmpBack (EP X pins σ Q)) X.xe s := by
  obtain ⟨cf, _, hm, Fn⟩ := hS.m c m sp e
  refine wpAny_mono (call_sp (clb_fn Fn) hr tk I r R i h hK hX) (fun w s' z => ?_) fun _ _ x => x
  obtain ⟨z', H', I', rz, qz⟩ := z
  exact SlX.cmpback rz ⟨z', H', I', rz, qz⟩
theorem op_ins (hS : SOk X.prog X.w X.K X.mg X.base S k) (hr : Room k X.A) (tk : Takes X W) {op : Operator} {m : Str} (hm : PySem.dunder op.info.2 = m) : OpX X W (binaryOp op) (insO S m) := by
  intro pins s σ H G F M dx dy P ex x y v u Q I rx ry R ix iy ho hK hX
  obtain ⟨c, ds, es, sp, rfl, rfl, e, ho⟩ := ho.of
  have i1 := ix
  have i2 := iy
  obtain ⟨a, d1, vs, rfl, ha, _⟩ := ins_slt R ix
  obtain ⟨b, d2, ws, rfl, hb, _⟩ := ins_slt R iy
  obtain rfl : v = Value.ref a := rx
  obtain rfl : u = Value.ref b := ry
  obtain ⟨cf, _, hmm, Fn⟩ := hS.m c m sp e
  obtain ⟨sl, od, _, J, _⟩ := SlX.slt_inst I ha
  obtain ⟨sl', od', _, J', _⟩ := SlX.slt_inst I hb
  obtain ⟨mm, hF⟩ := I.fr
  refine PySem.W.binop_K hF I.ok.mod.kin J J'.type cf.first (by rw [hm]; exact hmm.at_) hmm.fn ?_
  exact ins_call hS hr tk e (us := [.ref a, .ref b]) (vs := [.ref a, .ref b]) I (.cons rfl (.cons rfl .nil)) R (ds := [.ins c ds, .ins c es]) ⟨_, _, rfl, i1, _, _, rfl, i2, rfl⟩ ho hK hX
/-- x == y -/
theorem op_insC (hS : SOk X.prog X.w X.K X.mg X.base S k) (hr : Room k X.A) (tk : Takes X W) {op : CmpOp} {m : Str} (hop : ∀ a b, compareOp op a b = richCompare op a b) (hm : (cmpInfo op).2.1 = m) : OpX X W (compareOp op) (insO S m) := by
  intro pins s σ H G F M dx dy P ex x y v u Q I rx ry R ix iy ho hK hX
  obtain ⟨c, ds, es, sp, rfl, rfl, e, ho⟩ := ho.of
  have i1 := ix
  have i2 := iy
  obtain ⟨a, d1, vs, rfl, ha, _⟩ := ins_slt R ix
  obtain ⟨b, d2, ws, rfl, hb, _⟩ := ins_slt R iy
  obtain rfl : v = Value.ref a := rx
  obtain rfl : u = Value.ref b := ry
  obtain ⟨cf, _, hmm, Fn⟩ := hS.m c m sp e
  obtain ⟨sl, od, _, J, _⟩ := SlX.slt_inst I ha
  obtain ⟨sl', od', _, J', _⟩ := SlX.slt_inst I hb
  obtain ⟨mm, hF⟩ := I.fr
  rw [hop]
  refine PySem.W.cmp_K (op := op) (tb := .ref (He.ga X.K c)) hr.units0 hF I.ok.mod.kin J J'.type (by unfold PySem.W.notFirst; simp) (by rw [hm]; exact hmm.at_) hmm.fn ?_
  exact ins_call hS hr tk e (us := [.ref a, .ref b]) (vs := [.ref a, .ref b]) I (.cons rfl (.cons rfl .nil)) R (ds := [.ins c ds, .ins c es]) ⟨_, _, rfl, i1, _, _, rfl, i2, rfl⟩ ho hK hX
/-- -x -/
def DUnX := Dt → Mem → DK → EX → Prop
end

/-! ### + - * // % ** | & -/
def addO (S : Sps) : DOpX := fun x y M P ex => match x with
  | .int _ => oII x y fun i j => P (.int (i + j)) M
  | .str _ => oSS x y fun i j => i.length + j.length ≤ sizeLine ∧ P (.str (i ++ j)) M
  | .tup _ => oTT x y fun xs ys => xs.length + ys.length ≤ sizeLine ∧ P (.tup (xs ++ ys)) M
  | .ins _ _ => insO S "__add__" x y M P ex
  | _ => oL (lstOf M x) fun xs => oL (lstOf M y) fun ys => xs.length + ys.length ≤ sizeLine ∧ nwL (xs ++ ys) M P
def subO (S : Sps) : DOpX := fun x y M P ex => match x with
  | .int _ => oII x y fun i j => P (.int (i - j)) M
  | .ins _ _ => insO S "__sub__" x y M P ex
  | _ => False
def repO : DOp := fun x y M P => oL (lstOf M x) fun xs => match y with
  | .int k => -(2 ^ 63) ≤ k ∧ k < 2 ^ 63 ∧ xs.length * k.toNat ≤ sizeLine ∧ nwL (List.replicate k.toNat xs).flatten M P
  | _ => False
def mulO (S : Sps) : DOpX := fun x y M P ex => match x with
  | .int _ => (match y with
    | .ins c _ => (S (.m c "__mul__")).isSome = true ∧ oS (S (.m c "__rmul__")) fun sp => sp [y, x] M P ex
    | _ => oII x y fun i j => MulOk i j ∧ P (.int (i * j)) M)
  | .ins c _ => (match y with
    | .int _ => (S (.m c "__rmul__")).isSome = true ∧ oS (S (.m c "__mul__")) fun sp => sp [x, y] M P ex
    | _ => False)
  | _ => repO x y M P
def fdivO : DOpX := fun x y M P _ => oII x y fun i j => DivOk j ∧ P (.int (i.fdiv j)) M
def modO : DOpX := fun x y M P _ => oII x y fun i j => j ≠ 0 ∧ P (.int (i.fmod j)) M
def powO : DOpX := fun x y M P _ => oII x y fun i j => PowOk i j ∧ P (.int (i ^ j.toNat)) M
def noO : DOpX := fun _ _ _ _ _ => False
def binO (S : Sps) : Operator → DOpX
  | .Add => addO S
  | .Sub => subO S
  | .Mult => mulO S
  | .FloorDiv => fdivO
  | .Mod => modO
  | .Pow => powO
  | .BitOr => insO S "__or__"
  | .BitAnd => insO S "__and__"
  | _ => noO
theorem IsDs.flat {K : PySem.W.Frag} {F : Hp} {ds : List Dt} {vs : List V} (h : IsDs K F ds vs) : ∀ n : Nat, IsDs K F (List.replicate n ds).flatten (List.replicate n vs).flatten
  | 0 => rfl
  | n + 1 => by
    simp only [List.replicate_succ, List.flatten_cons]
    exact h.append (h.flat n)
section
variable {X : Cx} {W : WX} {S : Sps} {k : Nat}
theorem opD_rep : OpD X (binaryOp .Mult) repO := by
  intro pins s σ H x y v u Q I rx ry q
  obtain ⟨G, F, M, dx, dy, P, R, ix, iy, ho, hK⟩ := q
  obtain ⟨xs, e1, ho⟩ := ho.of
  obtain ⟨a, vs, rfl, ha, hd⟩ := lstOf_ok R ix e1
  cases dy with
  | int k =>
    cases (show y = _ from iy)
    exact op_rep pins s σ H _ _ v u Q I rx ry ⟨a, k, vs, rfl, rfl, ha, ho.1, ho.2.1, by rw [hd.length]; exact ho.2.2.1, fun p hp => nwL_ok R hp (hd.flat _) hK ho.2.2.2⟩
  | _ => exact ho.elim
theorem op_addX (hS : SOk X.prog X.w X.K X.mg X.base S k) (hr : Room k X.A) (tk : Takes X W) : OpX X W (binaryOp .Add) (addO S) := by
  intro pins s σ H G F M dx dy P ex x y v u Q I rx ry R ix iy ho hK hX
  have l := fun (e : oL (lstOf M dx) fun xs => oL (lstOf M dy) fun ys => xs.length + ys.length ≤ sizeLine ∧ nwL (xs ++ ys) M P) => opD_cat.x (X := X) (W := W) pins s σ H G F M dx dy P ex x y v u Q I rx ry R ix iy e hK hX
  cases dx with
  | int i =>
    have ho' : oII (.int i) dy fun i j => True ∧ P (.int (i + j)) M := by
      replace ho : oII (.int i) dy fun i j => P (.int (i + j)) M := ho
      cases dy <;> first | exact ho.elim | exact ⟨True.intro, ho⟩
    exact (opD_ii (X := X) (C := fun _ _ => True) (fun pins s σ H x y v u Q I rx ry ⟨i, j, a, b, _, q⟩ => op_add pins s σ H x y v u Q I rx ry ⟨i, j, a, b, q⟩)).x (W := W) pins s σ H G F M _ dy P ex x y v u Q I rx ry R ix iy ho' hK hX
  | str z => exact opD_str.x (X := X) (W := W) pins s σ H G F M _ dy P ex x y v u Q I rx ry R ix iy ho hK hX
  | tup z => exact opD_catT.x (X := X) (W := W) pins s σ H G F M _ dy P ex x y v u Q I rx ry R ix iy ho hK hX
  | ins c z => exact op_ins hS hr tk (m := "__add__") rfl pins s σ H G F M _ dy P ex x y v u Q I rx ry R ix iy ho hK hX
  | _ => exact l ho
theorem op_subX (hS : SOk X.prog X.w X.K X.mg X.base S k) (hr : Room k X.A) (tk : Takes X W) : OpX X W (binaryOp .Sub) (subO S) := by
  intro pins s σ H G F M dx dy P ex x y v u Q I rx ry R ix iy ho hK hX
  cases dx with
  | int i =>
    have ho' : oII (.int i) dy fun i j => True ∧ P (.int (i - j)) M := by
      replace ho : oII (.int i) dy fun i j => P (.int (i - j)) M := ho
      cases dy <;> first | exact ho.elim | exact ⟨True.intro, ho⟩
    exact (opD_ii (X := X) (C := fun _ _ => True) (fun pins s σ H x y v u Q I rx ry ⟨i, j, a, b, _, q⟩ => op_sub pins s σ H x y v u Q I rx ry ⟨i, j, a, b, q⟩)).x (W := W) pins s σ H G F M _ dy P ex x y v u Q I rx ry R ix iy ho' hK hX
  | ins c z => exact op_ins hS hr tk (m := "__sub__") rfl pins s σ H G F M _ dy P ex x y v u Q I rx ry R ix iy ho hK hX
  | _ => exact ho.elim
theorem op_mulX (hS : SOk X.prog X.w X.K X.mg X.base S k) (hr : Room k X.A) (tk : Takes X W) : OpX X W (binaryOp .Mult) (mulO S) := by
  intro pins s σ H G F M dx dy P ex x y v u Q I rx ry R ix iy ho hK hX
  have l := fun (e : repO dx dy M P) => opD_rep.x (X := X) (W := W) pins s σ H G F M dx dy P ex x y v u Q I rx ry R ix iy e hK hX
  cases dx with
  | int i =>
    have ii := fun (e : oII (.int i) dy fun i j => MulOk i j ∧ P (.int (i * j)) M) => (opD_ii (X := X) op_mulW).x (W := W) pins s σ H G F M _ dy P ex x y v u Q I rx ry R ix iy e hK hX
    cases dy with
    | ins c es =>
      obtain ⟨sp0, e0⟩ := Option.isSome_iff_exists.mp ho.1
      obtain ⟨sp, e, ho⟩ := ho.2.of
      have i2 := iy
      obtain ⟨b, d2, ws, rfl, hb, _⟩ := ins_slt R iy
      cases (show x = _ from ix)
      obtain ⟨t, rfl⟩ := rx
      obtain rfl : u = Value.ref b := ry
      obtain ⟨cf, _, hmm, Fn⟩ := hS.m c _ sp e
      obtain ⟨_, _, hm0, _⟩ := hS.m c _ sp0 e0
      obtain ⟨sl, od, _, J, _⟩ := SlX.slt_inst I hb
      obtain ⟨mm, hF⟩ := I.fr
      refine FZ.int_mul_ins hF I.ok.mod.kin J rfl cf.first hm0.at_ hmm.at_ hmm.fn cf.ni ?_
      exact ins_call hS hr tk e (us := [.ref b, .int i t]) (vs := [.ref b, .int i]) I (.cons rfl (.cons ⟨t, rfl⟩ .nil)) R (ds := [.ins c es, .int i]) ⟨_, _, rfl, i2, _, _, rfl, rfl, rfl⟩ ho hK hX
    | _ => exact ii ho
  | ins c ds =>
    cases dy with
    | int j =>
      obtain ⟨sp0, e0⟩ := Option.isSome_iff_exists.mp ho.1
      obtain ⟨sp, e, ho⟩ := ho.2.of
      have i1 := ix
      obtain ⟨a, d1, vs, rfl, ha, _⟩ := ins_slt R ix
      cases (show y = _ from iy)
      obtain ⟨t, rfl⟩ := ry
      obtain rfl : v = Value.ref a := rx
      obtain ⟨cf, _, hmm, Fn⟩ := hS.m c _ sp e
      obtain ⟨_, _, hm0, _⟩ := hS.m c _ sp0 e0
      obtain ⟨sl, od, _, J, _⟩ := SlX.slt_inst I ha
      obtain ⟨mm, hF⟩ := I.fr
      refine FZ.mul_int hF I.ok.mod.kin J cf.first hmm.at_ hmm.fn hm0.at_ ?_
      exact ins_call hS hr tk e (us := [.ref a, .int j t]) (vs := [.ref a, .int j]) I (.cons rfl (.cons ⟨t, rfl⟩ .nil)) R (ds := [.ins c ds, .int j]) ⟨_, _, rfl, i1, _, _, rfl, rfl, rfl⟩ ho hK hX
    | _ => exact ho.elim
  | _ => exact l ho
theorem op_binX (hS : SOk X.prog X.w X.K X.mg X.base S k) (hr : Room k X.A) (tk : Takes X W) : ∀ op : Operator, OpX X W (binaryOp op) (binO S op)
  | .Add => op_addX hS hr tk
  | .Sub => op_subX hS hr tk
  | .Mult => op_mulX hS hr tk
  | .FloorDiv => (opD_ii op_fdivA).x
  | .Mod => (opD_ii op_modN).x
  | .Pow => (opD_ii op_powA).x
  | .BitOr => op_ins hS hr tk rfl
  | .BitAnd => op_ins hS hr tk rfl
  | .Div => fun _ _ _ _ _ _ _ _ _ _ _ _ _ _ _ _ _ _ _ _ _ _ h => h.elim
  | .MatMult => fun _ _ _ _ _ _ _ _ _ _ _ _ _ _ _ _ _ _ _ _ _ _ h => h.elim
  | .LShift => fun _ _ _ _ _ _ _ _ _ _ _ _ _ _ _ _ _ _ _ _ _ _ h => h.elim
  | .RShift => fun _ _ _ _ _ _ _ _ _ _ _ _ _ _ _ _ _ _ _ _ _ _ h => h.elim
  | .BitXor => fun _ _ _ _ _ _ _ _ _ _ _ _ _ _ _ _ _ _ _ _ _ _ h => h.elim
end

/-! ### == != < <= > >= is in -/
/-- the answer of an own == turned about -/
def notK (P : DK) : DK := fun d M => match d with
  | .bl b => P (.bl (!b)) M
  | _ => False
def eqO (S : Sps) : DOpX := fun x y M P ex => match x with
  | .ins _ _ => insO S "__eq__" x y M P ex
  | .str a => (match y with
    | .str b => P (.bl (decide (a = b))) M
    | _ => eqD M x y fun b => P (.bl b) M)
  | _ => eqD M x y fun b => P (.bl b) M
def neO (S : Sps) : DOpX := fun x y M P ex => match x with
  | .ins _ _ => insO S "__eq__" x y M (notK P) ex
  | .str a => (match y with
    | .str b => P (.bl (!decide (a = b))) M
    | _ => eqD M x y fun b => P (.bl (!b)) M)
  | _ => eqD M x y fun b => P (.bl (!b)) M
def relO (g : Int → Int → Bool) : DOpX := fun x y M P _ => oII x y fun i j => P (.bl (g i j)) M
def isO (neg : Bool) : DOpX := fun x y M P _ => match y with
  | .bl b => (match x with
    | .bl a => P (.bl (if neg then !decide (a = b) else decide (a = b))) M
    | _ => False)
  | _ => isNon y = true ∧ P (.bl (if neg then !isNon x else isNon x)) M
/-- the items of a list that is asked for one -/
def inO (neg : Bool) : DOpX := fun x y M P _ => match y with
  | .str z => (match x with
    | .str c => c.length = 1 ∧ P (.bl (if neg then !decide (c.cps.getD 0 0 ∈ z.cps.toList) else decide (c.cps.getD 0 0 ∈ z.cps.toList))) M
    | _ => False)
  | _ => ∃ d ds, pyOf M x = some d ∧ pyOf M y = some (.list ds) ∧ SeqAt.shaped d = true ∧ SeqAt.shaped (.list ds) = true ∧ P (.bl (if neg then !ds.any fun z => PyData.eqv z d else ds.any fun z => PyData.eqv z d)) M
def cmpO (S : Sps) : CmpOp → DOpX
  | .Eq => eqO S
  | .NotEq => neO S
  | .Lt => relO fun i j => decide (i < j)
  | .LtE => relO fun i j => decide (i ≤ j)
  | .Gt => relO fun i j => decide (j < i)
  | .GtE => relO fun i j => decide (j ≤ i)
  | .Is => isO false
  | .IsNot => isO true
  | .In => inO false
  | .NotIn => inO true
section
variable {X : Cx} {W : WX} {S : Sps} {k : Nat}
/-- x != y of instances: by their == -/
theorem op_insN (hS : SOk X.prog X.w X.K X.mg X.base S k) (hr : Room (k + 1) X.A) (tk : Takes X W) : OpX X W (compareOp .NotEq) (fun x y M P ex => insO S "__eq__" x y M (notK P) ex) := by
  intro pins s σ H G F M dx dy P ex x y v u Q I rx ry R ix iy ho hK hX
  obtain ⟨c, ds, es, sp, rfl, rfl, e, ho⟩ := ho.of
  have i1 := ix
  have i2 := iy
  obtain ⟨a, d1, vs, rfl, ha, _⟩ := ins_slt R ix
  obtain ⟨b, d2, ws, rfl, hb, _⟩ := ins_slt R iy
  obtain rfl : v = Value.ref a := rx
  obtain rfl : u = Value.ref b := ry
  obtain ⟨cf, hfn, hmm, Fn⟩ := hS.m c _ sp e
  obtain ⟨sl, od, _, J, _⟩ := SlX.slt_inst I ha
  obtain ⟨sl', od', _, J', _⟩ := SlX.slt_inst I hb
  obtain ⟨mm, hF⟩ := I.fr
  show wpAny _ _ (richCompare .NotEq (.ref a) (.ref b)) _ _ _
  refine FZ.ne_K (tb := .ref (He.ga X.K c)) (by have := hr.un; omega) hF I.ok.mod.kin J J'.type (by unfold PySem.W.notFirst; simp) cf.ne hmm.at_ hmm.fn cf.isi.cm ?_
  refine wpAny_call (codeAny_mono (Fn X.A.in1 X.stack s H [.ref a, .ref b] [.ref a, .ref b] (fun v H' => ∃ t, v = .bl t ∧ Q (.bl (!t)) H') (fun cls d H' => W cls d σ H') hr.in1 I.env0.in1 (.cons rfl (.cons rfl .nil)) ⟨G, F, [.ins c ds, .ins c es], M, notK P, ex, R, ⟨_, _, rfl, i1, _, _, rfl, i2, rfl⟩, ho, fun d M' F' H' v hp le R' id => ?_, hX⟩) fun r s' hq => ?_)
  · cases d with
    | bl t =>
      cases (show v = _ from id)
      exact ⟨t, rfl, hK (.bl (!t)) M' F' H' _ hp le R' rfl⟩
    | _ => exact False.elim hp
  · cases r with
    | error e => exact passAt tk σ pins H s e s' I hq
    | ok fl =>
      cases fl with
      | ret u =>
        obtain ⟨z, H', J', rz, t, rfl, qz⟩ := I.after hq
        cases (show u = Value.bool t from rz)
        exact ⟨t, rfl, .bl (!t), H', J', rfl, qz⟩
      | next => exact False.elim hq
      | brk => exact False.elim hq
      | cont => exact False.elim hq
theorem str1 {c : Str} (h : c.length = 1) : c = ⟨#[c.cps.getD 0 0]⟩ := by
  obtain ⟨⟨l⟩⟩ := c
  match l, h with
  | [a], _ => rfl
theorem op_cmpX (hS : SOk X.prog X.w X.K X.mg X.base S k) (hr : Room (k + 1) X.A) (tk : Takes X W) : ∀ op : CmpOp, OpX X W (compareOp op) (cmpO S op)
  | .Eq => by
    intro pins s σ H G F M dx dy P ex x y v u Q I rx ry R ix iy ho hK hX
    have l := fun (e : eqD M dx dy fun b => P (.bl b) M) => (opD_eqD (X := X) hr.units).x (W := W) pins s σ H G F M dx dy P ex x y v u Q I rx ry R ix iy e hK hX
    cases dx with
    | str z =>
      cases dy with
      | str z' =>
        cases (show x = _ from ix)
        cases (show y = _ from iy)
        exact op_eq pins s σ H _ _ v u Q I rx ry ⟨rfl, hK _ M F H _ ho (Same.refl F) R (by simp [IsD])⟩
      | _ => exact l ho
    | ins c z => exact op_insC hS (hr.mono (Nat.le_succ _)) tk (op := .Eq) (m := "__eq__") (fun _ _ => rfl) rfl pins s σ H G F M _ dy P ex x y v u Q I rx ry R ix iy ho hK hX
    | _ => exact l ho
  | .NotEq => by
    intro pins s σ H G F M dx dy P ex x y v u Q I rx ry R ix iy ho hK hX
    have l := fun (e : eqD M dx dy fun b => P (.bl (!b)) M) => (opD_neD (X := X) hr.units).x (W := W) pins s σ H G F M dx dy P ex x y v u Q I rx ry R ix iy e hK hX
    cases dx with
    | str z =>
      cases dy with
      | str z' =>
        cases (show x = _ from ix)
        cases (show y = _ from iy)
        exact op_ne pins s σ H _ _ v u Q I rx ry ⟨rfl, hK _ M F H _ ho (Same.refl F) R (by simp [IsD])⟩
      | _ => exact l ho
    | ins c z => exact op_insN hS hr tk pins s σ H G F M _ dy P ex x y v u Q I rx ry R ix iy ho hK hX
    | _ => exact l ho
  | .Lt => (opD_ib op_lt).x
  | .LtE => (opD_ib op_le).x
  | .Gt => (opD_ib op_gt).x
  | .GtE => (opD_ib op_ge).x
  | .Is => by
    intro pins s σ H G F M dx dy P ex x y v u Q I rx ry R ix iy ho hK hX
    have l := fun (e : isNon dy = true ∧ P (.bl (isNon dx)) M) => (opD_isN (X := X)).x (W := W) pins s σ H G F M dx dy P ex x y v u Q I rx ry R ix iy e hK hX
    cases dy with
    | bl b =>
      cases dx with
      | bl a =>
        cases (show x = _ from ix)
        cases (show y = _ from iy)
        exact op_isBl pins s σ H _ _ v u Q I rx ry ⟨a, b, rfl, rfl, hK _ M F H _ ho (Same.refl F) R rfl⟩
      | _ => exact ho.elim
    | _ => exact l ho
  | .IsNot => by
    intro pins s σ H G F M dx dy P ex x y v u Q I rx ry R ix iy ho hK hX
    have l := fun (e : isNon dy = true ∧ P (.bl (!isNon dx)) M) => (opD_notN (X := X)).x (W := W) pins s σ H G F M dx dy P ex x y v u Q I rx ry R ix iy e hK hX
    cases dy with
    | bl b =>
      cases dx with
      | bl a =>
        cases (show x = _ from ix)
        cases (show y = _ from iy)
        exact op_notBl pins s σ H _ _ v u Q I rx ry ⟨a, b, rfl, rfl, hK _ M F H _ ho (Same.refl F) R rfl⟩
      | _ => exact ho.elim
    | _ => exact l ho
  | .In => by
    intro pins s σ H G F M dx dy P ex x y v u Q I rx ry R ix iy ho hK hX
    have l := fun (e : ∃ d ds, pyOf M dx = some d ∧ pyOf M dy = some (.list ds) ∧ SeqAt.shaped d = true ∧ SeqAt.shaped (.list ds) = true ∧ P (.bl (ds.any fun z => PyData.eqv z d)) M) => show wpAny (model X.prog X.w) X.A (compareOp .In v u) (EP X pins σ Q) X.xe s from by
      obtain ⟨d, ds, e1, e2, s1, s2, h⟩ := e
      have hu : X.A.units + 65 < cLine := by have := hr.un; have := hr.units; have := (hr.un : _); omega
      exact op_inD hu pins s σ H x y v u Q I rx ry ⟨d, ds, pyOf_ok R ix e1, pyOf_ok R iy e2, s1, s2, hK _ M F H _ h (Same.refl F) R rfl⟩
    cases dy with
    | str z =>
      cases dx with
      | str c =>
        cases (show x = _ from ix)
        cases (show y = _ from iy)
        refine op_in_sign pins s σ H _ _ v u Q I rx ry ⟨c.cps.getD 0 0, z, congrArg V.str (str1 ho.1), rfl, hK _ M F H _ ho.2 (Same.refl F) R rfl⟩
      | _ => exact ho.elim
    | _ => exact l ho
  | .NotIn => by
    intro pins s σ H G F M dx dy P ex x y v u Q I rx ry R ix iy ho hK hX
    have l := fun (e : ∃ d ds, pyOf M dx = some d ∧ pyOf M dy = some (.list ds) ∧ SeqAt.shaped d = true ∧ SeqAt.shaped (.list ds) = true ∧ P (.bl (!ds.any fun z => PyData.eqv z d)) M) => show wpAny (model X.prog X.w) X.A (compareOp .NotIn v u) (EP X pins σ Q) X.xe s from by
      obtain ⟨d, ds, e1, e2, s1, s2, h⟩ := e
      have hu : X.A.units + 65 < cLine := by have := hr.un; have := hr.units; omega
      exact op_notInD hu pins s σ H x y v u Q I rx ry ⟨d, ds, pyOf_ok R ix e1, pyOf_ok R iy e2, s1, s2, hK _ M F H _ h (Same.refl F) R rfl⟩
    cases dy with
    | str z =>
      cases dx with
      | str c =>
        cases (show x = _ from ix)
        cases (show y = _ from iy)
        refine op_notIn_sign pins s σ H _ _ v u Q I rx ry ⟨c.cps.getD 0 0, z, congrArg V.str (str1 ho.1), rfl, hK _ M F H _ ho.2 (Same.refl F) R rfl⟩
      | _ => exact ho.elim
    | _ => exact l ho
end
end Fs
set_option maxHeartbeats 4000000
/-! Fs9: zip of lists and tuples, two and three. -/
namespace Fs
open PySem PySem.Spec PyProof.Rows L2

/-! ### a list (true) or a tuple -/
def SqB (K : PySem.W.Frag) : Bool → Hp → Addr → List V → Prop
  | true => SqL K
  | false => SqT K
def ItB : Bool → Heap → Addr → Addr → Nat → Prop
  | true => fun h it l i => h.IsListIter it l i
  | false => fun h it l i => h.IsTupleIter it l i
def SeqB : Bool → Heap → Addr → Array Value → Prop
  | true => fun h l xs => h.IsList l xs
  | false => fun h l xs => h.IsTuple l xs
def itoB : Bool → Addr → Obj
  | true => fun l => { cls := .type "list_iterator", data := .fields #[.ref l, .int 0 0] }
  | false => fun l => { cls := .type "tuple_iterator", data := .fields #[.ref l, .int 0 0] }
theorem drawsB {prog : Program} {w : World} {A : Around} (hh : A.handled = none) (b : Bool) (it l : Addr) (hne : l ≠ it) (items : Array Value) :
    Draws prog w A it [it, l] items.size (fun i v => items[i]? = some v) (fun i h => ItB b h it l i ∧ SeqB b h l items) := by
  cases b with
  | true => exact Draws.list hh it l hne items
  | false => exact Draws.tuple hh it l hne items
theorem beginsB (b : Bool) (l : Addr) (items : Array Value) : Begins (.ref l) (itoB b l) fun h => SeqB b h l items := by
  cases b with
  | true => exact begins_list l items
  | false => exact begins_tuple l items
theorem itB_at {b : Bool} {h h' : Heap} {it l : Addr} {i : Nat} (x : ItB b h it l i) (k : ∀ o, h.get? it = some o → h'.get? it = some o) : ItB b h' it l i := by
  cases b with
  | true => exact Heap.IsListIter.at x k
  | false => exact Heap.IsTupleIter.at x k
theorem itB_obj {b : Bool} {h : Heap} {it l : Addr} {i : Nat} (x : ItB b h it l i) : ∃ o, h.get? it = some o ∧ ∃ vs, o.data = .fields vs := by
  cases b with
  | true => obtain ⟨o, e, _, d⟩ := x; exact ⟨o, e, _, d⟩
  | false => obtain ⟨o, e, _, d⟩ := x; exact ⟨o, e, _, d⟩
theorem itB_new {b : Bool} {h : Heap} {it l : Addr} (e : h.get? it = some (itoB b l)) : ItB b h it l 0 := by
  cases b with
  | true => exact ⟨_, e, rfl, rfl⟩
  | false => exact ⟨_, e, rfl, rfl⟩
theorem seqB_lt {b : Bool} {h : Heap} {l : Addr} {xs : Array Value} (x : SeqB b h l xs) : l < h.objs.size := by
  cases b with
  | true => obtain ⟨o, e, _⟩ := x; exact Heap.lt_size e
  | false => obtain ⟨o, e, _⟩ := x; exact Heap.lt_size e
section
variable {X : Cx} {pins : List (Addr × Obj)} {σ : L2.St} {H : Hp} {s : Shared}
theorem inv_seqB {b : Bool} {a : Addr} {xs : List V} (I : Inv X pins σ H s) (h : SqB X.K b H a xs) : ∃ its : List Value, Vals xs its ∧ SeqB b s.heap a its.toArray ∧ xs.length ≤ sizeLine := by
  cases b with
  | true => obtain ⟨its, r, p, z⟩ := I.list h; exact ⟨its, r, p.isList, z⟩
  | false => obtain ⟨its, r, p, z⟩ := I.tuple h; exact ⟨its, r, p, z⟩
theorem sqB_inj {b : Bool} {a : Addr} {xs ys : List V} (I : Inv X pins σ H s) (h : SqB X.K b H a xs) (h' : SqB X.K b H a ys) : xs = ys := by
  cases b with
  | true => exact I.list_inj h h'
  | false => exact I.tuple_inj h h'
end
theorem vals_refs2 {a1 a2 : Addr} {us : List Value} (r : Vals [.ref a1, .ref a2] us) : us = [.ref a1, .ref a2] := by
  cases r with
  | cons r1 r => cases r with
    | cons r2 r => cases r; cases r1; cases r2; rfl
theorem vals_refs3 {a1 a2 a3 : Addr} {us : List Value} (r : Vals [.ref a1, .ref a2, .ref a3] us) : us = [.ref a1, .ref a2, .ref a3] := by
  cases r with
  | cons r1 r => cases r with
    | cons r2 r => cases r with
      | cons r3 r => cases r; cases r1; cases r2; cases r3; rfl

/-- 2 lists or tuples as they stand at each turn, the items in new tuples -/
def Itz2 (K : PySem.W.Frag) (b1 b2 : Bool) (a1 a2 : Addr) : It :=
  ⟨fun i H => ∃ (xs1 xs2 : List V) (x1 x2 : V), SqB K b1 H a1 xs1 ∧ SqB K b2 H a2 xs2 ∧ xs1[i]? = some x1 ∧ xs2[i]? = some x2,
    fun i H v H' => ∃ T x1 x2, v = .ref T ∧ H T = none ∧ H' = upd H T (.tup [x1, x2]) ∧ (∀ xs, SqB K b1 H a1 xs → xs[i]? = some x1) ∧ (∀ xs, SqB K b2 H a2 xs → xs[i]? = some x2),
    fun i H => ∃ xs1 xs2 : List V, SqB K b1 H a1 xs1 ∧ SqB K b2 H a2 xs2 ∧ i ≤ xs1.length ∧ i ≤ xs2.length ∧ (i = xs1.length ∨ i = xs2.length)⟩
/-- the cells of a zip lie apart from one another and from what it walks -/
structure ZAp2 (z TI TO i1 i2 a1 a2 : Addr) : Prop where
  sep : ZipSep2 z TI TO i1 i2 [i1, a1] [i2, a2]
  ne1 : a1 ≠ i1
  ne2 : a2 ≠ i2
theorem zap2 {n a1 a2 : Nat} (h1 : a1 < n) (h2 : a2 < n) : ZAp2 (n + 4) (n + 2) (n + 3) n (n + 1) a1 a2 := by
  have q : ∀ {x y : Addr}, (show Nat from x) < (show Nat from y) ∨ (show Nat from y) < (show Nat from x) → x ≠ y := fun h e => by subst e; exact h.elim (Nat.lt_irrefl _) (Nat.lt_irrefl _)
  have r : ∀ {x y z : Addr}, x ≠ y → x ≠ z → x ∉ [y, z] := fun h1 h2 e => by
    rcases List.mem_cons.mp e with e | e
    · exact h1 e
    · rcases List.mem_cons.mp e with e | e
      · exact h2 e
      · cases e
  constructor
  · constructor
    all_goals first
      | exact List.mem_cons_self ..
      | (refine q ?_; dsimp only; omega)
      | (refine r (q ?_) (q ?_) <;> dsimp only <;> omega)
  · refine q ?_; dsimp only; omega
  · refine q ?_; dsimp only; omega
theorem turn_z2 {P : Program} {w : World} {K : PySem.W.Frag} {elts : List Expr} {kk : Nat} {tpos : Pos} {b1 b2 : Bool} {a1 a2 z TI TO i1 i2 : Addr} (D : ZAp2 z TI TO i1 i2 a1 a2) :
    Turn P w K (.Tuple elts kk tpos) (Itz2 K b1 b2 a1 a2) [z, TI, TO, i1, i2] z (fun i h => IsZip h z TI TO .none ∧ IsTupOf2 h TI (.ref i1) (.ref i2) ∧ (∃ x1 x2, IsTupOf2 h TO x1 x2) ∧ ItB b1 h i1 a1 i ∧ ItB b2 h i2 a2 i) where
  mem := by simp
  obj := fun i h st c hc => by
    obtain ⟨hz, hTI, ⟨x1, x2, hTO⟩, h1, h2⟩ := st
    have e' : c = z ∨ c = TI ∨ c = TO ∨ c = i1 ∨ c = i2 := by simpa using hc
    rcases e' with q | q | q | q | q
    · rw [q]; exact ⟨_, hz, fun v q => nomatch q⟩
    · rw [q]; exact ⟨_, hTI, fun v q => nomatch q⟩
    · rw [q]; exact ⟨_, hTO, fun v q => nomatch q⟩
    · rw [q]; obtain ⟨o, e, vs, d⟩ := itB_obj h1; exact ⟨o, e, fun v q => by rw [d] at q; cases q⟩
    · rw [q]; obtain ⟨o, e, vs, d⟩ := itB_obj h2; exact ⟨o, e, fun v q => by rw [d] at q; cases q⟩
  keep := fun i h h' st k => by
    obtain ⟨hz, hTI, ⟨x1, x2, hTO⟩, h1, h2⟩ := st
    exact ⟨k z (by simp) _ hz, k TI (by simp) _ hTI, ⟨x1, x2, k TO (by simp) _ hTO⟩, itB_at h1 fun o q => k i1 (by simp) o q, itB_at h2 fun o q => k i2 (by simp) o q⟩
  item := by
    intro X hP hw hK hc i pins s σ H E I hf st hg
    subst hP hw hK
    obtain ⟨hz, hTI, ⟨y1, y2, hTO⟩, h1, h2⟩ := st
    obtain ⟨xs1, xs2, x1, x2, hq1, hq2, hx1, hx2⟩ := hg
    obtain ⟨its1, rv1, p1, _⟩ := inv_seqB I hq1
    obtain ⟨u1, hu1, ru1⟩ := rv1.get hx1
    have lt1 : i < its1.toArray.size := by rw [List.size_toArray]; exact (List.getElem?_eq_some_iff.mp hu1).1
    obtain ⟨its2, rv2, p2, _⟩ := inv_seqB I hq2
    obtain ⟨u2, hu2, ru2⟩ := rv2.get hx2
    have lt2 : i < its2.toArray.size := by rw [List.size_toArray]; exact (List.getElem?_eq_some_iff.mp hu2).1
    have hzl : z < s.heap.objs.size := Heap.lt_size hz
    have hd : X.A.in1.handled = none := I.ok.hd hc
    refine wpAny_pyNext_zipD2_item D.sep (drawsB hd b1 i1 a1 D.ne1 its1.toArray) (drawsB hd b2 i2 a2 D.ne2 its2.toArray) hz hTI hTO ⟨h1, p1⟩ ⟨h2, p2⟩ lt1 lt2 fun w1 w2 h' tk e1 e2 z' TO' t1 t2 hT hsz hk => ?_
    obtain rfl : u1 = w1 := by have q := hu1; simp only [List.getElem?_toArray] at e1; rw [q] at e1; exact Option.some.inj e1
    obtain rfl : u2 = w2 := by have q := hu2; simp only [List.getElem?_toArray] at e2; rw [q] at e2; exact Option.some.inj e2
    refine ⟨_, rfl, wpAny_letOwnedTupleGo_zip (s := { s with heap := h', toks := tk }) z' fun h'' z'' sb => ?_⟩
    have hT2 : h''.get? s.heap.objs.size = some { cls := .type "tuple", data := .seq #[u1, u2] } := (sb.2 _ (Nat.ne_of_gt hzl)).trans hT
    have new : ObjOk X.prog X.w (upd H s.heap.objs.size (.tup [x1, x2])) h'' s.heap.objs.size (.tup [x1, x2]) :=
      ⟨by show 2 ≤ sizeLine; decide, [u1, u2], .cons ru1 (.cons ru2 (.nil)), ⟨_, hT2, rfl, _, rfl⟩⟩
    have I1 : Inv X pins σ (upd H s.heap.objs.size (.tup [x1, x2])) { s with heap := h'', toks := tk } :=
      I.turnedNew (t' := tk) (ch := [z, TI, TO, i1, i2]) (fun c o hb q => (sb.2 c (fun q' => hb (by simp [q']))).trans (hk c o (fun q' => hb (by simp [q'])) (fun q' => hb (by simp [q'])) (fun q' => hb (by simp [q'])) (fun q' => hb (by simp [q'])) q)) hf (Nat.le_refl _) new
    refine ⟨.ref s.heap.objs.size, _, I1, rfl, ⟨_, x1, x2, rfl, I.hok.fresh (Nat.le_refl _), rfl, fun l hl => by rw [sqB_inj I hl hq1]; exact hx1, fun l hl => by rw [sqB_inj I hl hq2]; exact hx2⟩, ⟨z'', ?_, ⟨u1, u2, ?_⟩, ?_, ?_⟩, fun c hcm => ?_⟩
    · exact (sb.2 _ D.sep.TIz).trans (hk _ _ D.sep.TIz D.sep.TITO D.sep.TIi1 D.sep.TIi2 hTI)
    · exact (sb.2 _ D.sep.TOz).trans TO'
    · exact itB_at t1.1 fun o q => (sb.2 _ (Ne.symm D.sep.zi1)).trans q
    · exact itB_at t2.1 fun o q => (sb.2 _ (Ne.symm D.sep.zi2)).trans q
    · have hlt : c < s.heap.objs.size := by
        have e' : c = z ∨ c = TI ∨ c = TO ∨ c = i1 ∨ c = i2 := by simpa using hcm
        rcases e' with q | q | q | q | q
        · rw [q]; exact hzl
        · rw [q]; exact Heap.lt_size hTI
        · rw [q]; exact Heap.lt_size hTO
        · rw [q]; obtain ⟨o, e, _⟩ := itB_obj h1; exact Heap.lt_size e
        · rw [q]; obtain ⟨o, e, _⟩ := itB_obj h2; exact Heap.lt_size e
      rw [upd_ne (Nat.ne_of_lt hlt)]
      exact (hf c hcm).1
  done := by
    intro X hP hw hK hc i pins s σ H E I hf st hg
    subst hP hw hK
    obtain ⟨hz, hTI, ⟨y1, y2, hTO⟩, h1, h2⟩ := st
    obtain ⟨xs1, xs2, hq1, hq2, le1, le2, he⟩ := hg
    obtain ⟨its1, rv1, p1, _⟩ := inv_seqB I hq1
    have l1 := rv1.length
    obtain ⟨its2, rv2, p2, _⟩ := inv_seqB I hq2
    have l2 := rv2.length
    have hd : X.A.in1.handled = none := I.ok.hd hc
    refine wpAny_pyNext_zipD2_end D.sep (drawsB hd b1 i1 a1 D.ne1 its1.toArray) (drawsB hd b2 i2 a2 D.ne2 its2.toArray) hz hTI hTO ⟨h1, p1⟩ ⟨h2, p2⟩ (by rw [List.size_toArray]; omega) (by rw [List.size_toArray]; omega) (by simp only [List.size_toArray]; omega) fun h' tk hk => ⟨rfl, I.turnedL (t' := tk) (ch := [z, TI, TO, i1, i2]) (fun c o hb q =>
      hk c o (fun q' => hb (by simp [q'])) (fun q' => hb (by simp [q'])) (fun q' => hb (by simp [q'])) (fun q' => hb (by simp [q'])) q) hf⟩
  self := fun A i s Q E st h => wpAny_pyIter_zip st.1 h
def iZip2 (K : PySem.W.Frag) (ta : TA) : TI := fun σ H R => ta σ H fun vs H1 => ∃ b1 b2 a1 a2 xs1 xs2, vs = [.ref a1, .ref a2] ∧ SqB K b1 H1 a1 xs1 ∧ SqB K b2 H1 a2 xs2 ∧ R (Itz2 K b1 b2 a1 a2) H1
theorem pi_z2 {X : Cx} {e1 e2 : Expr} {ta : TA} {p pos tpos : Pos} {elts : List Expr} {kk : Nat} (hg : Gl X "zip") (hm : X.mg "zip" = none) (ha : PA X [e1, e2] ta)
    (hs : starEach [e1, e2] X.env = (false, eval e1 X.env) :: starEach [e2] X.env) (hpl : (backTo pos (starEach [e2] X.env)).any (·.1) = false) :
    PI X (.Tuple elts kk tpos) (.Call (.Name "zip" p) [e1, e2] [] pos) (iZip2 X.K ta) := by
  refine ⟨fun pins s σ H R I h => ?_⟩
  refine Call_ (ld_blt I hg hm PyProof.Rows.boot_zip (PyProof.Rows.callWith_type1 (thn (ha.run pos pins s σ H _ I h) fun us s1 ⟨vs, H1, I1, r1, q1⟩ => ?_) hs hpl))
  obtain ⟨b1, b2, a1, a2, xs1, xs2, ex, hq1, hq2, q⟩ := q1
  subst ex
  obtain rfl : us = [.ref a1, .ref a2] := by
    exact vals_refs2 r1
  have fresh : ∀ c, c ∈ [s1.heap.objs.size + 4, s1.heap.objs.size + 2, s1.heap.objs.size + 3, s1.heap.objs.size, s1.heap.objs.size + 1] → FpOk X pins H1 c := fun c hcm => by
    have hle : s1.heap.objs.size ≤ c := by
      simp only [List.mem_cons, List.mem_nil_iff, or_false] at hcm
      rcases hcm with q | q | q | q | q <;> rw [q] <;> omega
    exact I1.fpOk hle (I1.hok.fresh hle)
  obtain ⟨its1, rv1, p1, _⟩ := inv_seqB I1 hq1
  have lt1 := seqB_lt p1
  obtain ⟨its2, rv2, p2, _⟩ := inv_seqB I1 hq2
  have lt2 := seqB_lt p2
  refine zip_begins2 (beginsB b1 a1 its1.toArray) (beginsB b2 a2 its2.toArray) p1 p2 fun h' hz hTI hTO g1 g2 hsz hk => wpAny_pyIter_zip hz ?_
  have I2 : Inv X pins σ H1 { s1 with heap := h' } := I1.kept (t' := s1.toks) hk
  refine ⟨s1.heap.objs.size + 4, [s1.heap.objs.size + 4, s1.heap.objs.size + 2, s1.heap.objs.size + 3, s1.heap.objs.size, s1.heap.objs.size + 1], _, _, H1, rfl, I2, turn_z2 (z := s1.heap.objs.size + 4) (TI := s1.heap.objs.size + 2) (TO := s1.heap.objs.size + 3) (i1 := s1.heap.objs.size) (i2 := s1.heap.objs.size + 1) ?_, ⟨hz, hTI, ⟨_, _, hTO⟩, itB_new g1, itB_new g2⟩, fresh, q⟩
  exact zap2 lt1 lt2

/-- 3 lists or tuples as they stand at each turn, the items in new tuples -/
def Itz3 (K : PySem.W.Frag) (b1 b2 b3 : Bool) (a1 a2 a3 : Addr) : It :=
  ⟨fun i H => ∃ (xs1 xs2 xs3 : List V) (x1 x2 x3 : V), SqB K b1 H a1 xs1 ∧ SqB K b2 H a2 xs2 ∧ SqB K b3 H a3 xs3 ∧ xs1[i]? = some x1 ∧ xs2[i]? = some x2 ∧ xs3[i]? = some x3,
    fun i H v H' => ∃ T x1 x2 x3, v = .ref T ∧ H T = none ∧ H' = upd H T (.tup [x1, x2, x3]) ∧ (∀ xs, SqB K b1 H a1 xs → xs[i]? = some x1) ∧ (∀ xs, SqB K b2 H a2 xs → xs[i]? = some x2) ∧ (∀ xs, SqB K b3 H a3 xs → xs[i]? = some x3),
    fun i H => ∃ xs1 xs2 xs3 : List V, SqB K b1 H a1 xs1 ∧ SqB K b2 H a2 xs2 ∧ SqB K b3 H a3 xs3 ∧ i ≤ xs1.length ∧ i ≤ xs2.length ∧ i ≤ xs3.length ∧ (i = xs1.length ∨ i = xs2.length ∨ i = xs3.length)⟩
/-- the cells of a zip lie apart from one another and from what it walks -/
structure ZAp3 (z TI TO i1 i2 i3 a1 a2 a3 : Addr) : Prop where
  sep : ZipSep3 z TI TO i1 i2 i3 [i1, a1] [i2, a2] [i3, a3]
  ne1 : a1 ≠ i1
  ne2 : a2 ≠ i2
  ne3 : a3 ≠ i3
theorem zap3 {n a1 a2 a3 : Nat} (h1 : a1 < n) (h2 : a2 < n) (h3 : a3 < n) : ZAp3 (n + 5) (n + 3) (n + 4) n (n + 1) (n + 2) a1 a2 a3 := by
  have q : ∀ {x y : Addr}, (show Nat from x) < (show Nat from y) ∨ (show Nat from y) < (show Nat from x) → x ≠ y := fun h e => by subst e; exact h.elim (Nat.lt_irrefl _) (Nat.lt_irrefl _)
  have r : ∀ {x y z : Addr}, x ≠ y → x ≠ z → x ∉ [y, z] := fun h1 h2 e => by
    rcases List.mem_cons.mp e with e | e
    · exact h1 e
    · rcases List.mem_cons.mp e with e | e
      · exact h2 e
      · cases e
  constructor
  · constructor
    all_goals first
      | exact List.mem_cons_self ..
      | (refine q ?_; dsimp only; omega)
      | (refine r (q ?_) (q ?_) <;> dsimp only <;> omega)
  · refine q ?_; dsimp only; omega
  · refine q ?_; dsimp only; omega
  · refine q ?_; dsimp only; omega
theorem turn_z3 {P : Program} {w : World} {K : PySem.W.Frag} {elts : List Expr} {kk : Nat} {tpos : Pos} {b1 b2 b3 : Bool} {a1 a2 a3 z TI TO i1 i2 i3 : Addr} (D : ZAp3 z TI TO i1 i2 i3 a1 a2 a3) :
    Turn P w K (.Tuple elts kk tpos) (Itz3 K b1 b2 b3 a1 a2 a3) [z, TI, TO, i1, i2, i3] z (fun i h => IsZip h z TI TO .none ∧ IsTupOf3 h TI (.ref i1) (.ref i2) (.ref i3) ∧ (∃ x1 x2 x3, IsTupOf3 h TO x1 x2 x3) ∧ ItB b1 h i1 a1 i ∧ ItB b2 h i2 a2 i ∧ ItB b3 h i3 a3 i) where
  mem := by simp
  obj := fun i h st c hc => by
    obtain ⟨hz, hTI, ⟨x1, x2, x3, hTO⟩, h1, h2, h3⟩ := st
    have e' : c = z ∨ c = TI ∨ c = TO ∨ c = i1 ∨ c = i2 ∨ c = i3 := by simpa using hc
    rcases e' with q | q | q | q | q | q
    · rw [q]; exact ⟨_, hz, fun v q => nomatch q⟩
    · rw [q]; exact ⟨_, hTI, fun v q => nomatch q⟩
    · rw [q]; exact ⟨_, hTO, fun v q => nomatch q⟩
    · rw [q]; obtain ⟨o, e, vs, d⟩ := itB_obj h1; exact ⟨o, e, fun v q => by rw [d] at q; cases q⟩
    · rw [q]; obtain ⟨o, e, vs, d⟩ := itB_obj h2; exact ⟨o, e, fun v q => by rw [d] at q; cases q⟩
    · rw [q]; obtain ⟨o, e, vs, d⟩ := itB_obj h3; exact ⟨o, e, fun v q => by rw [d] at q; cases q⟩
  keep := fun i h h' st k => by
    obtain ⟨hz, hTI, ⟨x1, x2, x3, hTO⟩, h1, h2, h3⟩ := st
    exact ⟨k z (by simp) _ hz, k TI (by simp) _ hTI, ⟨x1, x2, x3, k TO (by simp) _ hTO⟩, itB_at h1 fun o q => k i1 (by simp) o q, itB_at h2 fun o q => k i2 (by simp) o q, itB_at h3 fun o q => k i3 (by simp) o q⟩
  item := by
    intro X hP hw hK hc i pins s σ H E I hf st hg
    subst hP hw hK
    obtain ⟨hz, hTI, ⟨y1, y2, y3, hTO⟩, h1, h2, h3⟩ := st
    obtain ⟨xs1, xs2, xs3, x1, x2, x3, hq1, hq2, hq3, hx1, hx2, hx3⟩ := hg
    obtain ⟨its1, rv1, p1, _⟩ := inv_seqB I hq1
    obtain ⟨u1, hu1, ru1⟩ := rv1.get hx1
    have lt1 : i < its1.toArray.size := by rw [List.size_toArray]; exact (List.getElem?_eq_some_iff.mp hu1).1
    obtain ⟨its2, rv2, p2, _⟩ := inv_seqB I hq2
    obtain ⟨u2, hu2, ru2⟩ := rv2.get hx2
    have lt2 : i < its2.toArray.size := by rw [List.size_toArray]; exact (List.getElem?_eq_some_iff.mp hu2).1
    obtain ⟨its3, rv3, p3, _⟩ := inv_seqB I hq3
    obtain ⟨u3, hu3, ru3⟩ := rv3.get hx3
    have lt3 : i < its3.toArray.size := by rw [List.size_toArray]; exact (List.getElem?_eq_some_iff.mp hu3).1
    have hzl : z < s.heap.objs.size := Heap.lt_size hz
    have hd : X.A.in1.handled = none := I.ok.hd hc
    refine wpAny_pyNext_zipD3_item D.sep (drawsB hd b1 i1 a1 D.ne1 its1.toArray) (drawsB hd b2 i2 a2 D.ne2 its2.toArray) (drawsB hd b3 i3 a3 D.ne3 its3.toArray) hz hTI hTO ⟨h1, p1⟩ ⟨h2, p2⟩ ⟨h3, p3⟩ lt1 lt2 lt3 fun w1 w2 w3 h' tk e1 e2 e3 z' TO' t1 t2 t3 hT hsz hk => ?_
    obtain rfl : u1 = w1 := by have q := hu1; simp only [List.getElem?_toArray] at e1; rw [q] at e1; exact Option.some.inj e1
    obtain rfl : u2 = w2 := by have q := hu2; simp only [List.getElem?_toArray] at e2; rw [q] at e2; exact Option.some.inj e2
    obtain rfl : u3 = w3 := by have q := hu3; simp only [List.getElem?_toArray] at e3; rw [q] at e3; exact Option.some.inj e3
    refine ⟨_, rfl, wpAny_letOwnedTupleGo_zip (s := { s with heap := h', toks := tk }) z' fun h'' z'' sb => ?_⟩
    have hT2 : h''.get? s.heap.objs.size = some { cls := .type "tuple", data := .seq #[u1, u2, u3] } := (sb.2 _ (Nat.ne_of_gt hzl)).trans hT
    have new : ObjOk X.prog X.w (upd H s.heap.objs.size (.tup [x1, x2, x3])) h'' s.heap.objs.size (.tup [x1, x2, x3]) :=
      ⟨by show 3 ≤ sizeLine; decide, [u1, u2, u3], .cons ru1 (.cons ru2 (.cons ru3 (.nil))), ⟨_, hT2, rfl, _, rfl⟩⟩
    have I1 : Inv X pins σ (upd H s.heap.objs.size (.tup [x1, x2, x3])) { s with heap := h'', toks := tk } :=
      I.turnedNew (t' := tk) (ch := [z, TI, TO, i1, i2, i3]) (fun c o hb q => (sb.2 c (fun q' => hb (by simp [q']))).trans (hk c o (fun q' => hb (by simp [q'])) (fun q' => hb (by simp [q'])) (fun q' => hb (by simp [q'])) (fun q' => hb (by simp [q'])) (fun q' => hb (by simp [q'])) q)) hf (Nat.le_refl _) new
    refine ⟨.ref s.heap.objs.size, _, I1, rfl, ⟨_, x1, x2, x3, rfl, I.hok.fresh (Nat.le_refl _), rfl, fun l hl => by rw [sqB_inj I hl hq1]; exact hx1, fun l hl => by rw [sqB_inj I hl hq2]; exact hx2, fun l hl => by rw [sqB_inj I hl hq3]; exact hx3⟩, ⟨z'', ?_, ⟨u1, u2, u3, ?_⟩, ?_, ?_, ?_⟩, fun c hcm => ?_⟩
    · exact (sb.2 _ D.sep.TIz).trans (hk _ _ D.sep.TIz D.sep.TITO D.sep.TIi1 D.sep.TIi2 D.sep.TIi3 hTI)
    · exact (sb.2 _ D.sep.TOz).trans TO'
    · exact itB_at t1.1 fun o q => (sb.2 _ (Ne.symm D.sep.zi1)).trans q
    · exact itB_at t2.1 fun o q => (sb.2 _ (Ne.symm D.sep.zi2)).trans q
    · exact itB_at t3.1 fun o q => (sb.2 _ (Ne.symm D.sep.zi3)).trans q
    · have hlt : c < s.heap.objs.size := by
        have e' : c = z ∨ c = TI ∨ c = TO ∨ c = i1 ∨ c = i2 ∨ c = i3 := by simpa using hcm
        rcases e' with q | q | q | q | q | q
        · rw [q]; exact hzl
        · rw [q]; exact Heap.lt_size hTI
        · rw [q]; exact Heap.lt_size hTO
        · rw [q]; obtain ⟨o, e, _⟩ := itB_obj h1; exact Heap.lt_size e
        · rw [q]; obtain ⟨o, e, _⟩ := itB_obj h2; exact Heap.lt_size e
        · rw [q]; obtain ⟨o, e, _⟩ := itB_obj h3; exact Heap.lt_size e
      rw [upd_ne (Nat.ne_of_lt hlt)]
      exact (hf c hcm).1
  done := by
    intro X hP hw hK hc i pins s σ H E I hf st hg
    subst hP hw hK
    obtain ⟨hz, hTI, ⟨y1, y2, y3, hTO⟩, h1, h2, h3⟩ := st
    obtain ⟨xs1, xs2, xs3, hq1, hq2, hq3, le1, le2, le3, he⟩ := hg
    obtain ⟨its1, rv1, p1, _⟩ := inv_seqB I hq1
    have l1 := rv1.length
    obtain ⟨its2, rv2, p2, _⟩ := inv_seqB I hq2
    have l2 := rv2.length
    obtain ⟨its3, rv3, p3, _⟩ := inv_seqB I hq3
    have l3 := rv3.length
    have hd : X.A.in1.handled = none := I.ok.hd hc
    refine wpAny_pyNext_zipD3_end D.sep (drawsB hd b1 i1 a1 D.ne1 its1.toArray) (drawsB hd b2 i2 a2 D.ne2 its2.toArray) (drawsB hd b3 i3 a3 D.ne3 its3.toArray) hz hTI hTO ⟨h1, p1⟩ ⟨h2, p2⟩ ⟨h3, p3⟩ (by rw [List.size_toArray]; omega) (by rw [List.size_toArray]; omega) (by rw [List.size_toArray]; omega) (by simp only [List.size_toArray]; omega) fun h' tk hk => ⟨rfl, I.turnedL (t' := tk) (ch := [z, TI, TO, i1, i2, i3]) (fun c o hb q =>
      hk c o (fun q' => hb (by simp [q'])) (fun q' => hb (by simp [q'])) (fun q' => hb (by simp [q'])) (fun q' => hb (by simp [q'])) (fun q' => hb (by simp [q'])) q) hf⟩
  self := fun A i s Q E st h => wpAny_pyIter_zip st.1 h
def iZip3 (K : PySem.W.Frag) (ta : TA) : TI := fun σ H R => ta σ H fun vs H1 => ∃ b1 b2 b3 a1 a2 a3 xs1 xs2 xs3, vs = [.ref a1, .ref a2, .ref a3] ∧ SqB K b1 H1 a1 xs1 ∧ SqB K b2 H1 a2 xs2 ∧ SqB K b3 H1 a3 xs3 ∧ R (Itz3 K b1 b2 b3 a1 a2 a3) H1
theorem pi_z3 {X : Cx} {e1 e2 e3 : Expr} {ta : TA} {p pos tpos : Pos} {elts : List Expr} {kk : Nat} (hg : Gl X "zip") (hm : X.mg "zip" = none) (ha : PA X [e1, e2, e3] ta)
    (hs : starEach [e1, e2, e3] X.env = (false, eval e1 X.env) :: starEach [e2, e3] X.env) (hpl : (backTo pos (starEach [e2, e3] X.env)).any (·.1) = false) :
    PI X (.Tuple elts kk tpos) (.Call (.Name "zip" p) [e1, e2, e3] [] pos) (iZip3 X.K ta) := by
  refine ⟨fun pins s σ H R I h => ?_⟩
  refine Call_ (ld_blt I hg hm PyProof.Rows.boot_zip (PyProof.Rows.callWith_type1 (thn (ha.run pos pins s σ H _ I h) fun us s1 ⟨vs, H1, I1, r1, q1⟩ => ?_) hs hpl))
  obtain ⟨b1, b2, b3, a1, a2, a3, xs1, xs2, xs3, ex, hq1, hq2, hq3, q⟩ := q1
  subst ex
  obtain rfl : us = [.ref a1, .ref a2, .ref a3] := by
    exact vals_refs3 r1
  have fresh : ∀ c, c ∈ [s1.heap.objs.size + 5, s1.heap.objs.size + 3, s1.heap.objs.size + 4, s1.heap.objs.size, s1.heap.objs.size + 1, s1.heap.objs.size + 2] → FpOk X pins H1 c := fun c hcm => by
    have hle : s1.heap.objs.size ≤ c := by
      simp only [List.mem_cons, List.mem_nil_iff, or_false] at hcm
      rcases hcm with q | q | q | q | q | q <;> rw [q] <;> omega
    exact I1.fpOk hle (I1.hok.fresh hle)
  obtain ⟨its1, rv1, p1, _⟩ := inv_seqB I1 hq1
  have lt1 := seqB_lt p1
  obtain ⟨its2, rv2, p2, _⟩ := inv_seqB I1 hq2
  have lt2 := seqB_lt p2
  obtain ⟨its3, rv3, p3, _⟩ := inv_seqB I1 hq3
  have lt3 := seqB_lt p3
  refine zip_begins3 (beginsB b1 a1 its1.toArray) (beginsB b2 a2 its2.toArray) (beginsB b3 a3 its3.toArray) p1 p2 p3 fun h' hz hTI hTO g1 g2 g3 hsz hk => wpAny_pyIter_zip hz ?_
  have I2 : Inv X pins σ H1 { s1 with heap := h' } := I1.kept (t' := s1.toks) hk
  refine ⟨s1.heap.objs.size + 5, [s1.heap.objs.size + 5, s1.heap.objs.size + 3, s1.heap.objs.size + 4, s1.heap.objs.size, s1.heap.objs.size + 1, s1.heap.objs.size + 2], _, _, H1, rfl, I2, turn_z3 (z := s1.heap.objs.size + 5) (TI := s1.heap.objs.size + 3) (TO := s1.heap.objs.size + 4) (i1 := s1.heap.objs.size) (i2 := s1.heap.objs.size + 1) (i3 := s1.heap.objs.size + 2) ?_, ⟨hz, hTI, ⟨_, _, _, hTO⟩, itB_new g1, itB_new g2, itB_new g3⟩, fresh, q⟩
  exact zap3 lt1 lt2 lt3
end Fs
set_option maxHeartbeats 4000000
/-! Fs10: sorted(set(ints)), any number of them. -/
namespace Fs
open PySem PySem.Spec PyProof.Rows L2
section
variable {P : Program} {w : World} {A : Around} {E : Value → Shared → Prop} {s : Shared}
abbrev ledO (w : World) : Obj := { cls := .type "set", dict := none, data := .set #[] 0 (.fresh 0 0 (!w.params.followText "set-order")) }
set_option maxHeartbeats 6400000 in
/-- a set of a list of ints -/
theorem set_listI {l : Addr} {items : Array Value} (ns : List Int) {Q : Value → Shared → Prop} (hh : A.handled = none) (hl : s.heap.IsList l items) (hit : IntsAre items.toList ns) (hb : ns.length + 1 < scanBound)
    (h : ∀ (h' : Heap) (tk c : Nat), SetR w h' s.heap.objs.size (fun j => decide (j ∈ ns)) c → c ≤ ns.length → (∀ b o, s.heap.get? b = some o → h'.get? b = some o) → Q (.ref s.heap.objs.size) { s with heap := h', toks := tk }) :
    wpAny (model P w) A (call (.type "set") [.ref l]) Q E s := by
  have hisz : items.size = ns.length := by
    have q := IntsAre.length hit
    rwa [Array.length_toList] at q
  obtain ⟨c, tl, hmro⟩ := F.called_set.mro
  have hmade := F.called_set.made
  have hsub := F.called_set.sub
  refine wpAny_call (codeAny_of_tree ?_)
  show wpAny _ _ (callAny (.type "set") _) _ _ _
  refine wpAny_pure ⟨Code.quiet_builtin _ (by decide +kernel), codeAny_builtin F.entry_type_call ?_⟩
  rw [Around.under_plain (weight_type_call_type "set" [.ref l] []) rfl]
  have h1 := F.called_set.notType
  have h2 := F.called_set.canCreate
  have hct := F.typeCall_set_1 (.ref l)
  repeat (any_goals (first | assumption | wp_step))
  refine codeAny_mono (code_set_led1 (.ref l) (E := E) (Q₁ := fun obj s₁ => obj = .ref s.heap.objs.size ∧ s₁ = { s with heap := s.heap.push (ledO w) }) ⟨rfl, rfl⟩) fun r s₁ hr => ?_
  cases r with
  | error e => exact hr
  | ok fl =>
    cases fl with
    | ret obj =>
      obtain ⟨rfl, rfl⟩ := hr
      have hS : (s.heap.push (ledO w)).get? s.heap.objs.size = some (ledO w) := Heap.get?_push_size _ rfl
      have hT : Shared.TypeIs { s with heap := s.heap.push (ledO w) } (.ref s.heap.objs.size) "set" := ⟨_, hS, rfl⟩
      have hli := F.called_set.init.lookup
      have hbi := F.called_set.init.bind (.ref s.heap.objs.size)
      repeat (any_goals (first | assumption | wp_step))
      refine codeAny_mono (codeAny_call_builtin (R := wants (fun r s₂ => r = .none ∧ ∃ h' tk c, s₂ = { s with heap := h', toks := tk } ∧ SetR w h' s.heap.objs.size (fun j => decide (j ∈ ns)) c ∧ c ≤ ns.length ∧
          (∀ b o, s.heap.get? b = some o → h'.get? b = some o)) E) F.called_set.init.plain F.entry_set_init (check_set_init_1 hT ?_)) fun r₂ s₂ hr₂ => ?_
      · obtain ⟨ol, hol, hcl, nl, hdl⟩ := hl
        obtain ⟨ocls, odict, odata, oslots⟩ := ol
        simp only at hcl hdl
        subst hcl; subst hdl
        have hol' : (s.heap.push (ledO w)).get? l = some { cls := .type "list", dict := odict, data := .seq items nl, slots := oslots } := Heap.get?_push_of_some _ hol
        have hsls := F.sub_list_set
        have hslf := F.sub_list_frozenset
        have hne : (Value.type "list" == Value.type "dict") = false := by decide
        have hl1 : (s.heap.push (ledO w)).IsList l items := ⟨_, hol', rfl, nl, rfl⟩
        unfold Builtin.«set.__init__» noKeywords Builtin.Frozenset.updateFrom
        generalize hPI : pyIter = PI
        wp_walk
        subst hPI
        refine wpAny_pyIter_list hl1 ?_
        refine wpAny_bind (wpAny_runValue ?_)
        have hlS : l < s.heap.objs.size := Heap.lt_size hol
        have hh3 : A.in1.in1.in1.handled = none := by simp [hh]
        have hneI : l ≠ (s.heap.push (ledO w)).objs.size := by rw [Heap.size_push]; exact Nat.ne_of_lt (Nat.lt_succ_of_lt hlS)
        have hSf : s.heap.objs.size ∉ [(s.heap.push (ledO w)).objs.size, l] := by
          rw [Heap.size_push]; simp only [List.mem_cons, List.mem_singleton, List.not_mem_nil, or_false, not_or]
          exact ⟨Nat.ne_of_lt (Nat.lt_succ_self _), Nat.ne_of_gt hlS⟩
        have hval : ∀ (i : Nat) (v : Value), items[i]? = some v → ∃ k t, ns[i]? = some k ∧ v = .int k t := fun i v hv => by
          have hi : i < ns.length := by rw [← hisz]; exact (Array.getElem?_eq_some_iff.mp hv).1
          obtain ⟨t, e⟩ := PyProof.Rows.IntsAre.int_at hit i v (by rw [Array.getElem?_toList]; exact hv)
          refine ⟨ns[i], t, List.getElem?_eq_getElem hi, ?_⟩
          rw [e, List.getD_eq_getElem?_getD, List.getElem?_eq_getElem hi] <;> rfl
        refine set_update_ints ((Walks.list hh3 _ l hneI items).toS) s.heap.objs.size hSf ns hisz hb hval (items.size - 0) 0 _ (by omega) (Nat.zero_le _)
          ⟨⟨_, Heap.get?_push_size _ rfl, rfl, rfl⟩, (hl1.push _)⟩ ⟨0, Nat.le_refl 0, setR_new_at (Heap.get?_push_of_some _ hS)⟩ fun s' c' hm hc' hS' => ?_
        obtain ⟨h', g2, d', tk', os'⟩ := s'
        have eg : g2 = s.gens := hm.gens
        have ed : d' = s.drawn := hm.drawn
        have eo : os' = s.os := hm.os
        subst eg; subst ed; subst eo
        show wpAny _ _ _ _ _ _
        refine wpAny_pure ?_
        show wpAny _ _ (ret Value.none) _ _ _
        rw [hisz] at hc'
        refine wpAny_pure ⟨rfl, h', tk', c', rfl, hS', hc', fun b o e => ?_⟩
        have hb0 : b < s.heap.objs.size := Heap.lt_size e
        have hb2 : b ≠ (s.heap.push (ledO w)).objs.size := by rw [Heap.size_push]; exact Nat.ne_of_lt (Nat.lt_succ_of_lt hb0)
        exact hm.heap b o (by simp only [List.mem_cons, List.mem_singleton, List.not_mem_nil, or_false, not_or]; exact ⟨Nat.ne_of_lt hb0, hb2⟩) (Heap.get?_push_of_some _ (Heap.get?_push_of_some _ e))
      · cases r₂ with
        | error e => exact hr₂
        | ok fl₂ =>
          cases fl₂ with
          | ret r =>
            obtain ⟨rfl, h', tk, c, rfl, hS', hc', hk⟩ := hr₂
            have hq := h h' tk c hS' hc' hk
            repeat (any_goals (first | assumption | wp_step))
          | _ => exact hr₂.elim
    | _ => exact hr.elim
/-- .. sorted -/
theorem sorted_setA {a : Addr} {S : Int → Bool} {n : Nat} {Q : Value → Shared → Prop} (R : SetR w s.heap a S n) (hh : A.handled = none) (hz : n ≤ sizeLine)
    (hQ : ∀ s' p (out : Array Value) (c : Nat) (ns : List Int), (∀ b o, s.heap.get? b = some o → s'.heap.get? b = some o) → s'.gens = s.gens → s'.os = s.os → s.heap.objs.size ≤ p →
      s'.heap.get? p = some (seqObj "list" out c) → IntsAre out.toList ns → ns.Pairwise (· < ·) → (∀ k, k ∈ ns ↔ S k = true) → ns.length = n → Q (.ref p) s') :
    wpAny (model P w) A (call (.builtin "sorted") [.ref a]) Q E s := by
  obtain ⟨o, es, ep, t, ho, hex, hd, g, nd, hm, hb, hf, hn, hr, hl⟩ := R
  refine Calls.call_function_entry kind_sorted plain_sorted entry_sorted (args_sorted1 _) ?_
  unfold Builtin.«sorted»
  refine wpAny_bind (m := checkCount "sorted" 1 1 _) (wpAny_pure ?_)
  refine wpAny_bind (collect_set (A := A.in1) hh ⟨o, ho, hex.1, hd⟩ hf hb hr hl fun s1 vs k1 hz1 g1 o1 pm => ?_)
  have hvl : vs.length = n := by rw [pm.length_eq, List.length_map, Array.length_toList]; exact hn
  have hI : IntsAre vs (vs.map Builtin.Re.reRawOf) := ints_of vs fun v hv => by
    obtain ⟨e, he, q⟩ := List.mem_map.mp (pm.mem_iff.mp hv)
    obtain ⟨k, tk, h1, _⟩ := g e he
    exact ⟨k, tk, by rw [← q]; exact h1⟩
  have pk : (vs.map Builtin.Re.reRawOf).Perm (es.toList.map keyOf) := by
    have q := pm.map Builtin.Re.reRawOf
    rw [List.map_map] at q
    exact q
  have hvz : vs.length ≤ sizeLine := by rw [hvl]; exact hz
  refine wpAny_bind (wpAny_newList ?_ hvz)
  have hoL : (s1.heap.push (seqObj "list" vs.toArray 0)).get? s1.heap.objs.size = some (seqObj "list" vs.toArray 0) := Heap.get?_push_size _ rfl
  refine wpAny_bind (wpAny_holding (wpAny_call_entry slot_list_sort ⟨_, hoL, rfl⟩ entry_list_sort (SrtO.list_sort_ord SrtO.swo_int hoL hvz (fun h2 => SrtO.ints_sortable hI h2) fun out hs hbb => ⟨_, rfl, ?_⟩) (args_list_sort _)))
  obtain ⟨a1, a2, a3⟩ := SrtO.ints_out hI hs hbb
  obtain ⟨c, hc⟩ := sortedHeap_at (vs := vs) (out := out.toArray) hoL
  have pn : (out.map SrtO.iv).Perm (es.toList.map keyOf) := a2.trans pk
  refine wpAny_pure ⟨_, rfl, hQ _ s1.heap.objs.size out.toArray c (out.map SrtO.iv) (fun b u e => ?_) g1 o1 hz1 hc (by simpa using a1) (lt_of_le_nodup _ a3 (pn.nodup_iff.mpr nd)) (fun k => by rw [pn.mem_iff, ← hm k]) ?_⟩
  · have q := k1 b u e
    have hlt := Heap.lt_size q
    show (sortedHeap (s1.heap.push (seqObj "list" vs.toArray 0)) s1.heap.objs.size vs out.toArray).get? b = some u
    rw [sortedHeap_old (Nat.ne_of_lt hlt) (by rw [size_push']; exact Nat.lt_succ_of_lt hlt)]
    exact Heap.get?_push_of_some _ q
  · rw [pn.length_eq, List.length_map, Array.length_toList]; exact hn
end
end Fs
set_option maxHeartbeats 4000000
/-! Fs11: built-ins over data; zip, ranges; methods of lists. -/
namespace Fs
open PySem PySem.Spec PyProof.Rows L2

/-! ### sequences -/
def intsD : List Dt → Option (List Int)
  | [] => some []
  | .int i :: r => (intsD r).map (i :: ·)
  | _ :: _ => none
theorem intsD_ok : ∀ {ds : List Dt} {ns : List Int}, intsD ds = some ns → ds = ns.map .int
  | [], ns, e => by cases e; rfl
  | d :: r, ns, e => by
    cases d with
    | int i =>
      simp only [intsD, Option.map_eq_some_iff] at e
      obtain ⟨m, e, rfl⟩ := e
      rw [intsD_ok e]; rfl
    | _ => cases e
theorem intsD_map : ∀ ns : List Int, intsD (ns.map .int) = some ns
  | [] => rfl
  | n :: r => by simp only [List.map_cons, intsD, intsD_map r, Option.map_some]
def blsD : List Dt → Option (List Bool)
  | [] => some []
  | .bl i :: r => (blsD r).map (i :: ·)
  | _ :: _ => none
theorem blsD_ok : ∀ {ds : List Dt} {ns : List Bool}, blsD ds = some ns → ds = ns.map .bl
  | [], ns, e => by cases e; rfl
  | d :: r, ns, e => by
    cases d with
    | bl i =>
      simp only [blsD, Option.map_eq_some_iff] at e
      obtain ⟨m, e, rfl⟩ := e
      rw [blsD_ok e]; rfl
    | _ => cases e
theorem blsD_map : ∀ ns : List Bool, blsD (ns.map .bl) = some ns
  | [] => rfl
  | n :: r => by simp only [List.map_cons, blsD, blsD_map r, Option.map_some]
theorem ints_vs {K : PySem.W.Frag} {F : Hp} : ∀ {ns : List Int} {vs : List V}, IsDs K F (ns.map .int) vs → vs = ns.map V.int
  | [], _, h => h
  | n :: r, _, ⟨v, w, h1, h2, h3⟩ => by rw [h1, ints_vs h3, show v = .int n from h2]; rfl
theorem vs_ints {K : PySem.W.Frag} {F : Hp} : ∀ {ns : List Int}, IsDs K F (ns.map .int) (ns.map V.int)
  | [] => rfl
  | n :: r => ⟨_, _, rfl, rfl, vs_ints⟩
theorem bls_vs {K : PySem.W.Frag} {F : Hp} : ∀ {ns : List Bool} {vs : List V}, IsDs K F (ns.map .bl) vs → vs = ns.map V.bl
  | [], _, h => h
  | n :: r, _, ⟨v, w, h1, h2, h3⟩ => by rw [h1, bls_vs h3, show v = .bl n from h2]; rfl
/-- the items of a list -/
def listD (M : Mem) : Dt → Option (List Dt)
  | .lst ds => some ds
  | .scr ns => some (ns.map .int)
  | .ref a => (match M a with
    | some (.lst ds) => some ds
    | _ => none)
  | _ => none
theorem listD_ok {K : PySem.W.Frag} {G F H : Hp} {M : Mem} {d : Dt} {v : V} {ds : List Dt} (R : Rep K G F H M) (i : IsD K F d v) (e : listD M d = some ds) : ∃ a vs, v = .ref a ∧ SqL K H a vs ∧ IsDs K F ds vs := by
  cases d with
  | lst es => cases e; obtain ⟨a, vs, rfl, hq, hd⟩ := i; exact ⟨a, vs, rfl, SqL.of (R.sub _ _ hq), hd⟩
  | scr ns => cases e; obtain ⟨a, rfl, hq⟩ := i; exact ⟨a, _, rfl, R.sub.seq hq, vs_ints⟩
  | ref a =>
    cases (show v = _ from i)
    dsimp only [listD] at e
    cases q : M a with
    | none => rw [q] at e; cases e
    | some o =>
      rw [q] at e
      cases o with
      | lst es => cases e; obtain ⟨vs, hv, hd⟩ := R.mem a _ q; exact ⟨a, vs, rfl, SqL.of hv, hd⟩
      | _ => cases e
  | _ => cases e
/-- the items of a list, of a tuple -/
def seqD (M : Mem) : Dt → Option (List Dt)
  | .tup ds => some ds
  | d => listD M d
theorem seqD_ok {K : PySem.W.Frag} {G F H : Hp} {M : Mem} {d : Dt} {v : V} {ds : List Dt} (R : Rep K G F H M) (i : IsD K F d v) (e : seqD M d = some ds) : ∃ b a vs, v = .ref a ∧ SqB K b H a vs ∧ IsDs K F ds vs := by
  cases d with
  | tup es => cases e; obtain ⟨a, vs, rfl, hq, hd⟩ := i; exact ⟨false, a, vs, rfl, seqT_mono R.sub hq, hd⟩
  | _ => obtain ⟨a, vs, h1, h2, h3⟩ := listD_ok R i e; exact ⟨true, a, vs, h1, h2, h3⟩
/-- .. of such as do not change -/
def seqF : Dt → Option (List Dt)
  | .tup ds => some ds
  | .lst ds => some ds
  | .scr ns => some (ns.map .int)
  | _ => none
theorem seqF_ok {K : PySem.W.Frag} {F : Hp} {d : Dt} {v : V} {ds : List Dt} (i : IsD K F d v) (e : seqF d = some ds) : ∃ b a vs, v = .ref a ∧ (∀ H', Same F H' → SqB K b H' a vs) ∧ IsDs K F ds vs := by
  cases d with
  | tup es => cases e; obtain ⟨a, vs, rfl, hq, hd⟩ := i; exact ⟨false, a, vs, rfl, fun H' s => seqT_mono s hq, hd⟩
  | lst es => cases e; obtain ⟨a, vs, rfl, hq, hd⟩ := i; exact ⟨true, a, vs, rfl, fun H' s => SqL.of (s _ _ hq), hd⟩
  | scr ns => cases e; obtain ⟨a, rfl, hq⟩ := i; exact ⟨true, a, _, rfl, fun H' s => s.seq hq, vs_ints⟩
  | _ => cases e

/-! ### zip -/
def zip2D (as bs : List Dt) : List Dt := List.zipWith (fun x y => .tup [x, y]) as bs
def zip3D : List Dt → List Dt → List Dt → List Dt
  | a :: as, b :: bs, c :: cs => .tup [a, b, c] :: zip3D as bs cs
  | _, _, _ => []
theorem zip2_get : ∀ {as bs : List Dt} {i : Nat} {d : Dt}, (zip2D as bs)[i]? = some d → ∃ x y, as[i]? = some x ∧ bs[i]? = some y ∧ d = .tup [x, y]
  | [], _, _, _, e => by simp [zip2D] at e
  | _ :: _, [], _, _, e => by simp [zip2D] at e
  | a :: as, b :: bs, 0, d, e => by simp [zip2D] at e; exact ⟨a, b, rfl, rfl, e.symm⟩
  | a :: as, b :: bs, i + 1, d, e => by
    have e' : (zip2D as bs)[i]? = some d := by simpa [zip2D] using e
    obtain ⟨x, y, h1, h2, h3⟩ := zip2_get e'
    exact ⟨x, y, by simpa using h1, by simpa using h2, h3⟩
theorem zip2_len : ∀ {as bs : List Dt}, (zip2D as bs).length ≤ as.length ∧ (zip2D as bs).length ≤ bs.length ∧ ((zip2D as bs).length = as.length ∨ (zip2D as bs).length = bs.length) := by
  intro as bs
  simp only [zip2D, List.length_zipWith]
  omega
theorem zip3_get : ∀ {as bs cs : List Dt} {i : Nat} {d : Dt}, (zip3D as bs cs)[i]? = some d → ∃ x y z, as[i]? = some x ∧ bs[i]? = some y ∧ cs[i]? = some z ∧ d = .tup [x, y, z]
  | [], _, _, _, _, e => by simp [zip3D] at e
  | _ :: _, [], _, _, _, e => by simp [zip3D] at e
  | _ :: _, _ :: _, [], _, _, e => by simp [zip3D] at e
  | a :: as, b :: bs, c :: cs, 0, d, e => by simp [zip3D] at e; exact ⟨a, b, c, rfl, rfl, rfl, e.symm⟩
  | a :: as, b :: bs, c :: cs, i + 1, d, e => by
    have e' : (zip3D as bs cs)[i]? = some d := by simpa [zip3D] using e
    obtain ⟨x, y, z, h1, h2, h3, h4⟩ := zip3_get e'
    exact ⟨x, y, z, by simpa using h1, by simpa using h2, by simpa using h3, h4⟩
theorem zip3_len : ∀ {as bs cs : List Dt}, (zip3D as bs cs).length ≤ as.length ∧ (zip3D as bs cs).length ≤ bs.length ∧ (zip3D as bs cs).length ≤ cs.length ∧ ((zip3D as bs cs).length = as.length ∨ (zip3D as bs cs).length = bs.length ∨ (zip3D as bs cs).length = cs.length)
  | [], _, _ => by simp [zip3D]
  | _ :: _, [], _ => by simp [zip3D]
  | _ :: _, _ :: _, [] => by simp [zip3D]
  | a :: as, b :: bs, c :: cs => by
    have := zip3_len (as := as) (bs := bs) (cs := cs)
    simp only [zip3D, List.length_cons]
    omega
theorem walkD_z2 {K : PySem.W.Frag} {F : Hp} {b1 b2 : Bool} {a1 a2 : Addr} {vs1 vs2 : List V} {as bs : List Dt} (h1 : ∀ H', Same F H' → SqB K b1 H' a1 vs1) (h2 : ∀ H', Same F H' → SqB K b2 H' a2 vs2) (d1 : IsDs K F as vs1) (d2 : IsDs K F bs vs2) :
    WalkD K (Itz2 K b1 b2 a1 a2) F (zip2D as bs) none := by
  intro G F' H' M' le R _ i
  have q1 := h1 H' (le.trans R.sub)
  have q2 := h2 H' (le.trans R.sub)
  have l := zip2_len (as := as) (bs := bs)
  refine ⟨fun hi => ⟨vs1, vs2, q1, q2, by rw [d1.length, hi]; exact l.1, by rw [d2.length, hi]; exact l.2.1, by rw [d1.length, d2.length, hi]; exact l.2.2⟩, fun d e => ?_⟩
  obtain ⟨x, y, e1, e2, rfl⟩ := zip2_get e
  obtain ⟨v, w1, i1⟩ := d1.get e1
  obtain ⟨u, w2, i2⟩ := d2.get e2
  refine ⟨⟨vs1, vs2, v, u, q1, q2, w1, w2⟩, fun x' H'' hy => ?_⟩
  obtain ⟨T, v', u', rfl, hT, rfl, k1, k2⟩ := hy
  obtain rfl : v = v' := Option.some.inj (w1.symm.trans (k1 _ q1))
  obtain rfl : u = u' := Option.some.inj (w2.symm.trans (k2 _ q2))
  obtain ⟨s, R', _⟩ := R.tupNew (o := .tup [v, u]) hT
  exact ⟨_, s, R', T, [v, u], rfl, SqT.of upd_same, _, _, rfl, IsD.mono (le.trans s) _ _ i1, _, _, rfl, IsD.mono (le.trans s) _ _ i2, rfl⟩
theorem walkD_z3 {K : PySem.W.Frag} {F : Hp} {b1 b2 b3 : Bool} {a1 a2 a3 : Addr} {vs1 vs2 vs3 : List V} {as bs cs : List Dt} (h1 : ∀ H', Same F H' → SqB K b1 H' a1 vs1) (h2 : ∀ H', Same F H' → SqB K b2 H' a2 vs2) (h3 : ∀ H', Same F H' → SqB K b3 H' a3 vs3)
    (d1 : IsDs K F as vs1) (d2 : IsDs K F bs vs2) (d3 : IsDs K F cs vs3) : WalkD K (Itz3 K b1 b2 b3 a1 a2 a3) F (zip3D as bs cs) none := by
  intro G F' H' M' le R _ i
  have q1 := h1 H' (le.trans R.sub)
  have q2 := h2 H' (le.trans R.sub)
  have q3 := h3 H' (le.trans R.sub)
  have l := zip3_len (as := as) (bs := bs) (cs := cs)
  refine ⟨fun hi => ⟨vs1, vs2, vs3, q1, q2, q3, by rw [d1.length, hi]; exact l.1, by rw [d2.length, hi]; exact l.2.1, by rw [d3.length, hi]; exact l.2.2.1, by rw [d1.length, d2.length, d3.length, hi]; exact l.2.2.2⟩, fun d e => ?_⟩
  obtain ⟨x, y, z, e1, e2, e3, rfl⟩ := zip3_get e
  obtain ⟨v, w1, i1⟩ := d1.get e1
  obtain ⟨u, w2, i2⟩ := d2.get e2
  obtain ⟨t, w3, i3⟩ := d3.get e3
  refine ⟨⟨vs1, vs2, vs3, v, u, t, q1, q2, q3, w1, w2, w3⟩, fun x' H'' hy => ?_⟩
  obtain ⟨T, v', u', t', rfl, hT, rfl, k1, k2, k3⟩ := hy
  obtain rfl : v = v' := Option.some.inj (w1.symm.trans (k1 _ q1))
  obtain rfl : u = u' := Option.some.inj (w2.symm.trans (k2 _ q2))
  obtain rfl : t = t' := Option.some.inj (w3.symm.trans (k3 _ q3))
  obtain ⟨s, R', _⟩ := R.tupNew (o := .tup [v, u, t]) hT
  exact ⟨_, s, R', T, [v, u, t], rfl, SqT.of upd_same, _, _, rfl, IsD.mono (le.trans s) _ _ i1, _, _, rfl, IsD.mono (le.trans s) _ _ i2, _, _, rfl, IsD.mono (le.trans s) _ _ i3, rfl⟩
def wZip2 (r : WA) : WI := fun ex ρ M P => r ex ρ M fun ds M1 => match ds with
  | [x, y] => oL (seqF x) fun as => oL (seqF y) fun bs => P (zip2D as bs) none M1
  | _ => False
def wZip3 (r : WA) : WI := fun ex ρ M P => r ex ρ M fun ds M1 => match ds with
  | [x, y, z] => oL (seqF x) fun as => oL (seqF y) fun bs => oL (seqF z) fun cs => P (zip3D as bs cs) none M1
  | _ => False
section
variable {X : Cx} {W : WX} {e1 e2 e3 : Expr} {r : WA} {p pos tpos : Pos} {elts : List Expr} {kk : Nat}
theorem ji_zip2 (hg : Gl X "zip") (hm : X.mg "zip" = none) (ha : JA X W [e1, e2] r)
    (hs : starEach [e1, e2] X.env = (false, eval e1 X.env) :: starEach [e2] X.env) (hpl : (backTo pos (starEach [e2] X.env)).any (·.1) = false) :
    JI X W (.Tuple elts kk tpos) (.Call (.Name "zip" p) [e1, e2] [] pos) (wZip2 r) := by
  refine PI.imp (pi_z2 hg hm ha hs hpl) fun σ H Q h => ?_
  obtain ⟨ρ, M, G, F, P, ex, R, E, h, k, kx⟩ := h
  refine ⟨ρ, M, G, F, _, ex, R, E, h, fun ds M1 F1 H1 vs h1 le1 R1 i1 => ?_, kx⟩
  match ds, h1, i1 with
  | [x, y], h1, ⟨v, r, q1, i2, u, r', q2, i3, q3⟩ =>
    subst q1; subst q2
    cases (show r' = [] from q3)
    obtain ⟨as, f1, h1⟩ := h1.of
    obtain ⟨bs, f2, h1⟩ := h1.of
    obtain ⟨b1, a1, vs1, rfl, s1, d1⟩ := seqF_ok i2 f1
    obtain ⟨b2, a2, vs2, rfl, s2, d2⟩ := seqF_ok i3 f2
    exact ⟨b1, b2, a1, a2, vs1, vs2, rfl, s1 _ R1.sub, s2 _ R1.sub, k _ none M1 F1 H1 _ h1 le1 R1 (walkD_z2 s1 s2 d1 d2)⟩
theorem ji_zip3 (hg : Gl X "zip") (hm : X.mg "zip" = none) (ha : JA X W [e1, e2, e3] r)
    (hs : starEach [e1, e2, e3] X.env = (false, eval e1 X.env) :: starEach [e2, e3] X.env) (hpl : (backTo pos (starEach [e2, e3] X.env)).any (·.1) = false) :
    JI X W (.Tuple elts kk tpos) (.Call (.Name "zip" p) [e1, e2, e3] [] pos) (wZip3 r) := by
  refine PI.imp (pi_z3 hg hm ha hs hpl) fun σ H Q h => ?_
  obtain ⟨ρ, M, G, F, P, ex, R, E, h, k, kx⟩ := h
  refine ⟨ρ, M, G, F, _, ex, R, E, h, fun ds M1 F1 H1 vs h1 le1 R1 i1 => ?_, kx⟩
  match ds, h1, i1 with
  | [x, y, z], h1, ⟨v, r, q1, i2, u, r', q2, i3, t, r'', q3, i4, q4⟩ =>
    subst q1; subst q2; subst q3
    cases (show r'' = [] from q4)
    obtain ⟨as, f1, h1⟩ := h1.of
    obtain ⟨bs, f2, h1⟩ := h1.of
    obtain ⟨cs, f3, h1⟩ := h1.of
    obtain ⟨b1, a1, vs1, rfl, s1, d1⟩ := seqF_ok i2 f1
    obtain ⟨b2, a2, vs2, rfl, s2, d2⟩ := seqF_ok i3 f2
    obtain ⟨b3, a3, vs3, rfl, s3, d3⟩ := seqF_ok i4 f3
    exact ⟨b1, b2, b3, a1, a2, a3, vs1, vs2, vs3, rfl, s1 _ R1.sub, s2 _ R1.sub, s3 _ R1.sub, k _ none M1 F1 H1 _ h1 le1 R1 (walkD_z3 s1 s2 s3 d1 d2 d3)⟩
end
end Fs
set_option maxHeartbeats 4000000
/-! Fs12: built-ins over data. -/
namespace Fs
open PySem PySem.Spec PyProof.Rows L2

theorem isDs1 {K : PySem.W.Frag} {F : Hp} {d : Dt} {xs : List V} (h : IsDs K F [d] xs) : ∃ v, xs = [v] ∧ IsD K F d v := by
  obtain ⟨v, r, e, i, h⟩ := h
  cases (show r = [] from h)
  exact ⟨v, e, i⟩
theorem isDs2 {K : PySem.W.Frag} {F : Hp} {d e : Dt} {xs : List V} (h : IsDs K F [d, e] xs) : ∃ v u, xs = [v, u] ∧ IsD K F d v ∧ IsD K F e u := by
  obtain ⟨v, r, q, i, u, r', q', i', h⟩ := h
  cases (show r' = [] from h)
  subst q'
  exact ⟨v, u, q, i, i'⟩
def oIs (o : Option (List Int)) (f : List Int → Prop) : Prop := match o with
  | some b => f b
  | none => False
theorem oIs.of {o : Option (List Int)} {f : List Int → Prop} (h : oIs o f) : ∃ ds, o = some ds ∧ f ds := by
  cases o with
  | none => exact h.elim
  | some ds => exact ⟨ds, rfl, h⟩
def oBs (o : Option (List Bool)) (f : List Bool → Prop) : Prop := match o with
  | some b => f b
  | none => False
theorem oBs.of {o : Option (List Bool)} {f : List Bool → Prop} (h : oBs o f) : ∃ ds, o = some ds ∧ f ds := by
  cases o with
  | none => exact h.elim
  | some ds => exact ⟨ds, rfl, h⟩
theorem oB.of {o : Option Bool} {f : Bool → Prop} (h : oB o f) : ∃ ds, o = some ds ∧ f ds := by
  cases o with
  | none => exact h.elim
  | some ds => exact ⟨ds, rfl, h⟩
abbrev D1 := Dt → Mem → DK → Prop
def one (f : D1) : DCall := fun ds M P => match ds with
  | [d] => f d M P
  | _ => False
theorem callB1 {X : Cx} {f : Value} {g : D1} (h : ∀ (pins : List (Addr × Obj)) (s : Shared) (σ : L2.St) (G F H : Hp) (M : Mem) (d : Dt) (v : V) (u : Value) (P : DK) (Q : VK), Inv X pins σ H s → RelV v u → Rep X.K G F H M → IsD X.K F d v → g d M P → KOk X.K G F P Q →
    wpAny (model X.prog X.w) X.A (call f [u]) (EP X pins σ Q) X.xe s) : CallB X f (one g) := by
  intro pins s σ H xs us Q I r ⟨G, F, M, ds, P, R, i, q, k⟩
  match ds, q, i with
  | [d], q, i =>
    obtain ⟨v, rfl, ii⟩ := isDs1 i
    obtain ⟨u, rfl, ru⟩ := r.one
    exact h pins s σ G F H M d v u P Q I ru R ii q k
section
variable {X : Cx}
/-! ### len, abs, max, min, sum, all, any -/
def dLen : D1 := fun d M P => match d with
  | .str z => z.length ≤ sizeLine ∧ P (.int z.length) M
  | _ => oL (seqD M d) fun ds => P (.int ds.length) M
theorem cb_len : CallB X (.builtin "len") (one dLen) := callB1 fun pins s σ G F H M d v u P Q I ru R i q k => by
  have go : (oL (seqD M d) fun ds => P (.int ds.length) M) → wpAny (model X.prog X.w) X.A (call (.builtin "len") [u]) (EP X pins σ Q) X.xe s := fun q => by
    obtain ⟨ds, e, q⟩ := q.of
    obtain ⟨b, a, vs, rfl, hq, hd⟩ := seqD_ok R i e
    refine call_len pins s σ H [.ref a] [u] Q I (.cons ru .nil) ⟨.ref a, vs.length, rfl, ?_, by rw [hd.length]; exact k _ M F H _ q (Same.refl F) R rfl⟩
    cases b with
    | true => exact .inl ⟨vs, hq, rfl⟩
    | false => exact .inr ⟨vs, hq, rfl⟩
  cases d with
  | str z =>
    cases (show v = _ from i)
    exact call_len pins s σ H [.str z] [u] Q I (.cons ru .nil) ⟨.str z, z.length, rfl, ⟨q.1, rfl⟩, k _ M F H _ q.2 (Same.refl F) R rfl⟩
  | _ => exact go q
def absI (i : Int) : Int := if i < 0 then -i else i
def dAbs : D1 := fun d M P => match d with
  | .int i => P (.int (absI i)) M
  | _ => False
theorem cb_abs : CallB X (.builtin "abs") (one dAbs) := callB1 fun pins s σ G F H M d v u P Q I ru R i q k => by
  cases d with
  | int n =>
    cases (show v = _ from i)
    exact call_abs pins s σ H [.int n] [u] Q I (.cons ru .nil) ⟨n, rfl, k _ M F H _ q (Same.refl F) R rfl⟩
  | _ => exact q.elim
def maxI (i j : Int) : Int := if j > i then j else i
def minI (i j : Int) : Int := if j < i then j else i
def dMax : DCall := fun ds M P => match ds with
  | [d] => oL (listD M d) fun xs => oIs (intsD xs) fun ns => ns ≠ [] ∧ ∀ m, m ∈ ns → (∀ y, y ∈ ns → y ≤ m) → P (.int m) M
  | [d, e] => oII d e fun i j => P (.int (maxI i j)) M
  | _ => False
def dMin : DCall := fun ds M P => match ds with
  | [d] => oL (listD M d) fun xs => oIs (intsD xs) fun ns => ns ≠ [] ∧ ∀ m, m ∈ ns → (∀ y, y ∈ ns → m ≤ y) → P (.int m) M
  | [d, e] => oII d e fun i j => P (.int (minI i j)) M
  | _ => False
theorem cb_max (hc : X.calm = true) : CallB X (.builtin "max") dMax := by
  intro pins s σ H xs us Q I r ⟨G, F, M, ds, P, R, i, q, k⟩
  match ds, q, i with
  | [d], q, i =>
    obtain ⟨v, rfl, ii⟩ := isDs1 i
    obtain ⟨es, e1, q⟩ := oL.of q
    obtain ⟨ns, e2, q⟩ := oIs.of q
    obtain ⟨a, vs, rfl, hq, hd⟩ := listD_ok R ii e1
    rw [intsD_ok e2] at hd
    rw [ints_vs hd] at hq
    exact cr_max hc pins s σ H _ us Q I r ⟨a, ns, rfl, hq, List.length_pos_iff.mpr q.1, fun m h1 h2 => k _ M F H _ (q.2 m h1 h2) (Same.refl F) R rfl⟩
  | [d, e], q, i =>
    obtain ⟨v, u, rfl, i1, i2⟩ := isDs2 i
    obtain ⟨m, n, rfl, rfl, q⟩ := oII.of q
    cases (show v = _ from i1)
    cases (show u = _ from i2)
    exact call_max2 hc pins s σ H _ us Q I r ⟨m, n, rfl, k _ M F H _ q (Same.refl F) R rfl⟩
theorem cb_min (hc : X.calm = true) : CallB X (.builtin "min") dMin := by
  intro pins s σ H xs us Q I r ⟨G, F, M, ds, P, R, i, q, k⟩
  match ds, q, i with
  | [d], q, i =>
    obtain ⟨v, rfl, ii⟩ := isDs1 i
    obtain ⟨es, e1, q⟩ := oL.of q
    obtain ⟨ns, e2, q⟩ := oIs.of q
    obtain ⟨a, vs, rfl, hq, hd⟩ := listD_ok R ii e1
    rw [intsD_ok e2] at hd
    rw [ints_vs hd] at hq
    exact cr_min hc pins s σ H _ us Q I r ⟨a, ns, rfl, hq, List.length_pos_iff.mpr q.1, fun m h1 h2 => k _ M F H _ (q.2 m h1 h2) (Same.refl F) R rfl⟩
  | [d, e], q, i =>
    obtain ⟨v, u, rfl, i1, i2⟩ := isDs2 i
    obtain ⟨m, n, rfl, rfl, q⟩ := oII.of q
    cases (show v = _ from i1)
    cases (show u = _ from i2)
    exact call_min2 hc pins s σ H _ us Q I r ⟨m, n, rfl, k _ M F H _ q (Same.refl F) R rfl⟩
def dSum : D1 := fun d M P => oL (listD M d) fun xs => oIs (intsD xs) fun ns => P (.int ns.sum) M
theorem cb_sum (hc : X.calm = true) : CallB X (.builtin "sum") (one dSum) := callB1 fun pins s σ G F H M d v u P Q I ru R i q k => by
  obtain ⟨es, e1, q⟩ := oL.of q
  obtain ⟨ns, e2, q⟩ := oIs.of q
  obtain ⟨a, vs, rfl, hq, hd⟩ := listD_ok R i e1
  rw [intsD_ok e2] at hd
  rw [ints_vs hd] at hq
  exact cr_sum hc pins s σ H [.ref a] [u] Q I (.cons ru .nil) ⟨a, ns, rfl, hq, k _ M F H _ q (Same.refl F) R rfl⟩
def dAll : D1 := fun d M P => oL (listD M d) fun xs => oBs (blsD xs) fun ns => P (.bl (ns.all id)) M
def dAny : D1 := fun d M P => oL (listD M d) fun xs => oBs (blsD xs) fun ns => P (.bl (ns.any id)) M
theorem cb_all (hc : X.calm = true) : CallB X (.builtin "all") (one dAll) := callB1 fun pins s σ G F H M d v u P Q I ru R i q k => by
  obtain ⟨es, e1, q⟩ := oL.of q
  obtain ⟨ns, e2, q⟩ := oBs.of q
  obtain ⟨a, vs, rfl, hq, hd⟩ := listD_ok R i e1
  rw [blsD_ok e2] at hd
  rw [bls_vs hd] at hq
  exact cr_all hc pins s σ H [.ref a] [u] Q I (.cons ru .nil) ⟨a, ns, rfl, hq, k _ M F H _ q (Same.refl F) R rfl⟩
theorem cb_any (hc : X.calm = true) : CallB X (.builtin "any") (one dAny) := callB1 fun pins s σ G F H M d v u P Q I ru R i q k => by
  obtain ⟨es, e1, q⟩ := oL.of q
  obtain ⟨ns, e2, q⟩ := oBs.of q
  obtain ⟨a, vs, rfl, hq, hd⟩ := listD_ok R i e1
  rw [blsD_ok e2] at hd
  rw [bls_vs hd] at hq
  exact cr_any hc pins s σ H [.ref a] [u] Q I (.cons ru .nil) ⟨a, ns, rfl, hq, k _ M F H _ q (Same.refl F) R rfl⟩
def dSorted : D1 := fun d M P => oL (listD M d) fun xs => oIs (intsD xs) fun ns => ∀ ns' : List Int, ns'.Perm ns → ns'.Pairwise (· ≤ ·) → nwL (ns'.map .int) M P
theorem cb_sorted : CallB X (.builtin "sorted") (one dSorted) := callB1 fun pins s σ G F H M d v u P Q I ru R i q k => by
  obtain ⟨es, e1, q⟩ := oL.of q
  obtain ⟨ns, e2, q⟩ := oIs.of q
  obtain ⟨a, vs, rfl, hq, hd⟩ := listD_ok R i e1
  rw [intsD_ok e2] at hd
  rw [ints_vs hd] at hq
  exact cr_sortedI pins s σ H [.ref a] [u] Q I (.cons ru .nil) ⟨a, ns, rfl, hq, fun ns' p h1 h2 hp => nwL_ok R hp vs_ints k (q ns' h1 h2)⟩
/-! ### int, str, repr, tuple, list -/
def dInt : D1 := fun d M P => match d with
  | .int i => P (.int i) M
  | .bl b => P (.int (if b then 1 else 0)) M
  | _ => False
theorem cb_int : CallB X (.type "int") (one dInt) := callB1 fun pins s σ G F H M d v u P Q I ru R i q k => by
  cases d with
  | int n =>
    cases (show v = _ from i)
    exact call_int1 pins s σ H [.int n] [u] Q I (.cons ru .nil) (.inl ⟨n, rfl, k _ M F H _ q (Same.refl F) R rfl⟩)
  | bl n =>
    cases (show v = _ from i)
    exact call_int1 pins s σ H [.bl n] [u] Q I (.cons ru .nil) (.inr ⟨n, rfl, k _ M F H _ q (Same.refl F) R rfl⟩)
  | _ => exact q.elim
def dStr : D1 := fun d M P => match d with
  | .int i => i.natAbs.log2 < 1920 ∧ P (.str (toString i)) M
  | .str z => P (.str z) M
  | _ => False
theorem cb_str : CallB X (.type "str") (one dStr) := callB1 fun pins s σ G F H M d v u P Q I ru R i q k => by
  cases d with
  | int n =>
    cases (show v = _ from i)
    exact call_str_int pins s σ H [.int n] [u] Q I (.cons ru .nil) ⟨n, rfl, q.1, k _ M F H _ q.2 (Same.refl F) R rfl⟩
  | str n =>
    cases (show v = _ from i)
    exact SkE.call_str_str pins s σ H [.str n] [u] Q I (.cons ru .nil) ⟨n, rfl, k _ M F H _ q (Same.refl F) R rfl⟩
  | _ => exact q.elim
theorem repr_ok {kk : Nat} (hr : Room kk X.A) {pins : List (Addr × Obj)} {s : Shared} {σ : L2.St} {G F H : Hp} {M : Mem} {d : Dt} {v : V} {a : Addr} {P : DK} {Q : VK} (I : Inv X pins σ H s) (ru : RelV v (.ref a)) (R : Rep X.K G F H M) (i : IsD X.K F d v)
    (q : ∃ p, pyOf M d = some p ∧ SeqAt.shaped p = true ∧ p.showable = true ∧ p.shown.length ≤ sizeLine ∧ P (.str p.shown) M) (k : KOk X.K G F P Q) : wpAny (model X.prog X.w) X.A (call (.builtin "repr") [.ref a]) (EP X pins σ Q) X.xe s := by
  obtain ⟨p, e, sh, sw, sz, q⟩ := q
  obtain ⟨as, r⟩ := Dp.reads I p v (.ref a) (pyOf_ok R i e) ru
  have s2 : (PyData.canLay0 p && decide (PyData.depth p ≤ 64)) = true := sh
  rw [Bool.and_eq_true] at s2
  refine PySem.repr_of_reads' r sw (PyData.noDict_hsm (PyData.hasDict_of_canLay p s2.1)) hr.g (by have := of_decide_eq_true s2.2; have := hr.un; omega) (fun _ _ e => e) (fun h' u tk hk => ?_) sz
  exact ⟨.str p.shown, H, I.kept (t' := tk) hk, ⟨_, rfl⟩, k _ M F H _ q (Same.refl F) R rfl⟩
def dRepr : D1 := fun d M P => match d with
  | .int i => i.natAbs.log2 < 1920 ∧ P (.str (toString i)) M
  | .bl b => P (.str (if b then "True" else "False")) M
  | .non => P (.str "None") M
  | .str _ => False
  | d => ∃ p, pyOf M d = some p ∧ SeqAt.shaped p = true ∧ p.showable = true ∧ p.shown.length ≤ sizeLine ∧ P (.str p.shown) M
theorem cb_repr {k : Nat} (hr : Room k X.A) : CallB X (.builtin "repr") (one dRepr) := callB1 fun pins s σ G F H M d v u P Q I ru R i q k => by
  cases d with
  | int n =>
    cases (show v = _ from i)
    exact SkE.call_repr_int pins s σ H [.int n] [u] Q I (.cons ru .nil) ⟨n, rfl, q.1, k _ M F H _ q.2 (Same.refl F) R rfl⟩
  | bl n =>
    cases (show v = _ from i)
    obtain rfl : u = Value.bool n := ru
    exact PySem.P.repr_of_bool ⟨.str _, H, I.tok _, ⟨_, rfl⟩, k _ M F H _ q (Same.refl F) R rfl⟩
  | non =>
    cases (show v = _ from i)
    obtain rfl : u = Value.none := ru
    exact PySem.P.repr_of_none ⟨.str _, H, I.tok _, ⟨_, rfl⟩, k _ M F H _ q (Same.refl F) R rfl⟩
  | str _ => exact q.elim
  | tup ds => obtain ⟨a, vs, rfl, _⟩ := id i; obtain rfl : u = Value.ref a := ru; exact repr_ok hr I (v := .ref a) rfl R i q k
  | lst ds => obtain ⟨a, vs, rfl, _⟩ := id i; obtain rfl : u = Value.ref a := ru; exact repr_ok hr I (v := .ref a) rfl R i q k
  | scr ds => obtain ⟨a, rfl, _⟩ := id i; obtain rfl : u = Value.ref a := ru; exact repr_ok hr I (v := .ref a) rfl R i q k
  | ref a => cases (show v = _ from i); obtain rfl : u = Value.ref a := ru; exact repr_ok hr I (v := .ref a) rfl R i q k
  | _ => obtain ⟨p, e, _⟩ := q; cases e
def dTuple : D1 := fun d M P => match d with
  | .tup ds => P (.tup ds) M
  | _ => oL (listD M d) fun ds => P (.tup ds) M
theorem cb_tuple : CallB X (.type "tuple") (one dTuple) := callB1 fun pins s σ G F H M d v u P Q I ru R i q k => by
  have go : (oL (listD M d) fun ds => P (.tup ds) M) → wpAny (model X.prog X.w) X.A (call (.type "tuple") [u]) (EP X pins σ Q) X.xe s := fun q => by
    obtain ⟨ds, e, q⟩ := q.of
    obtain ⟨a, vs, rfl, hq, hd⟩ := listD_ok R i e
    refine call_tuple_of pins s σ H [.ref a] [u] Q I (.cons ru .nil) ⟨a, vs, rfl, .inl ⟨hq, fun p hp => ?_⟩⟩
    obtain ⟨s', R', _⟩ := R.tupNew (o := .tup vs) hp
    exact k _ M _ _ _ q s' R' ⟨p, vs, rfl, SqT.of upd_same, IsDs.mono s' _ _ hd⟩
  cases d with
  | tup ds =>
    have i0 := i
    obtain ⟨a, vs, rfl, hq, hd⟩ := i
    exact call_tuple_of pins s σ H [.ref a] [u] Q I (.cons ru .nil) ⟨a, vs, rfl, .inr ⟨seqT_mono R.sub hq, k _ M F H _ q (Same.refl F) R i0⟩⟩
  | _ => exact go q
def dList : D1 := fun d M P => oL (seqD M d) fun ds => nwL ds M P
theorem cb_list : CallB X (.type "list") (one dList) := callB1 fun pins s σ G F H M d v u P Q I ru R i q k => by
  obtain ⟨ds, e, q⟩ := q.of
  obtain ⟨b, a, vs, rfl, hq, hd⟩ := seqD_ok R i e
  refine call_list_of pins s σ H [.ref a] [u] Q I (.cons ru .nil) ⟨a, vs, rfl, ?_, fun p hp => nwL_ok R hp hd k q⟩
  cases b with
  | true => exact .inl hq
  | false => exact .inr hq
end
end Fs
set_option maxHeartbeats 4000000
/-! Fs13: isinstance, sorted(set(..)), list(range(..)), methods of lists and texts, stores. -/
namespace Fs
open PySem PySem.Spec PyProof.Rows L2

/-! ### isinstance -/
/-- the name of a value's built-in type -/
def tyN (M : Mem) : Dt → Option String
  | .non => some "NoneType"
  | .bl _ => some "bool"
  | .int _ => some "int"
  | .str _ => some "str"
  | .tup _ => some "tuple"
  | .lst _ => some "list"
  | .ref a => (match M a with
    | some (.lst _) => some "list"
    | _ => none)
  | _ => none
def tyNs : List String := ["NoneType", "bool", "int", "str", "tuple", "list"]
def tyT (a b : String) : Bool := a == b || (a == "bool" && b == "int")
theorem tyN_mem {M : Mem} {d : Dt} {a : String} (e : tyN M d = some a) : a ∈ tyNs := by
  cases d with
  | ref x =>
    dsimp only [tyN] at e
    split at e
    · cases e; decide
    · cases e
  | non => cases e; decide
  | bl _ => cases e; decide
  | int _ => cases e; decide
  | str _ => cases e; decide
  | tup _ => cases e; decide
  | lst _ => cases e; decide
  | _ => cases e
theorem kit_tab : (tyNs.all fun a => tyNs.all fun b => decide (kitB a b = some (tyT a b))) = true := by decide +kernel
theorem kit_own : (tyNs.all fun a => (PySem.fastBuiltinMro a).any fun l => l.all fun v => match v with | .type _ => true | _ => false) = true := by decide +kernel
theorem tyN_ok {K : PySem.W.Frag} {G F H : Hp} {M : Mem} {d : Dt} {v : V} {a : String} (R : Rep K G F H M) (i : IsD K F d v) (e : tyN M d = some a) : TyX K H v (.type a) := by
  cases d with
  | non => cases (show v = _ from i); cases e; exact .base .non
  | bl b => cases (show v = _ from i); cases e; exact .base (.bl b)
  | int b => cases (show v = _ from i); cases e; exact .base (.int b)
  | str b => cases (show v = _ from i); cases e; exact .base (.str b)
  | tup ds =>
    cases e
    obtain ⟨a, vs, rfl, hq, _⟩ := i
    rcases seqT_mono R.sub hq with (h | ⟨o, h⟩) | ⟨o, its, n, h1, h2, _⟩
    · exact .base (.tup h)
    · exact .fTuple h
    · exact .kTuple h1 h2
  | lst ds =>
    cases e
    obtain ⟨a, vs, rfl, hq, _⟩ := i
    exact .base (.lst (R.sub _ _ hq))
  | ref x =>
    cases (show v = _ from i)
    dsimp only [tyN] at e
    split at e
    · rename_i ds q
      cases e
      obtain ⟨vs, hv, _⟩ := R.mem _ _ q
      exact .base (.lst hv)
    · cases e
  | _ => cases e
/-- isinstance(x, c) -/
def isiO (S : Sps) (x y : Dt) (M : Mem) (P : DK) : Prop := match y with
  | .ty b => b ∈ tyNs ∧ (match x with
    | .ins c _ => oS (S (.c c)) fun _ => P (.bl false) M
    | _ => match tyN M x with
      | some a => P (.bl (tyT a b)) M
      | none => False)
  | .glo c => oS (S (.c c)) fun _ => (match x with
    | .ins c' _ => c = c' ∧ P (.bl true) M
    | _ => match tyN M x with
      | some _ => P (.bl false) M
      | none => False)
  | _ => False
def dIsi (S : Sps) : DCall := fun ds M P => match ds with
  | [x, y] => isiO S x y M P
  | _ => False
section
variable {X : Cx} {S : Sps} {k : Nat}
theorem cb_isi (hS : SOk X.prog X.w X.K X.mg X.base S k) : CallB X (.builtin "isinstance") (dIsi S) := by
  intro pins s σ H xs us Q I r ⟨G, F, M, ds, P, R, i, q, hk⟩
  match ds, q, i with
  | [x, y], q, i =>
    obtain ⟨v, u, rfl, i1, i2⟩ := isDs2 i
    replace q : isiO S x y M P := q
    cases y with
    | ty b =>
      cases (show u = _ from i2)
      obtain ⟨hb, q⟩ := q
      have prim : ∀ a, tyN M x = some a → P (.bl (tyT a b)) M → wpAny (model X.prog X.w) X.A (call (.builtin "isinstance") us) (EP X pins σ Q) X.xe s := fun a ea q => by
        have hh := List.all_eq_true.mp (List.all_eq_true.mp kit_tab a (tyN_mem ea)) b hb
        exact call_isi pins s σ H _ us Q I r ⟨v, .ty b, .type a, .type b, tyT a b, rfl, .ty b, tyN_ok R i1 ea, kit_ty (of_decide_eq_true hh), hk _ M F H _ q (Same.refl F) R rfl⟩
      cases x with
      | ins c ds =>
        obtain ⟨sp, hc, q⟩ := oS.of q
        have cf := hS.c c sp hc
        obtain ⟨a, dx, ws, rfl, hs, _⟩ := ins_slt R i1
        refine SlX.call_isiSl (.type b) pins s σ H _ us Q I r ⟨a, _, dx, _, .ty b, false, rfl, rfl, fun w hw => hw, hs, cf.cls, cf.isi, cf.no b ?_, hk _ M F H _ q (Same.refl F) R rfl⟩
        unfold tyNs at hb
        simp only [List.mem_cons, List.not_mem_nil, or_false] at hb ⊢
        rcases hb with h | h | h | h | h | h <;> simp [h]
      | non => exact prim _ rfl q
      | bl _ => exact prim _ rfl q
      | int _ => exact prim _ rfl q
      | str _ => exact prim _ rfl q
      | tup _ => exact prim _ rfl q
      | lst _ => exact prim _ rfl q
      | ref z =>
        dsimp only at q
        cases e : tyN M (.ref z) with
        | none => rw [e] at q; exact q.elim
        | some a => rw [e] at q; exact prim a e q
      | _ => exact q.elim
    | glo c =>
      cases (show u = _ from i2)
      obtain ⟨sp, hc, q⟩ := oS.of q
      have cf := hS.c c sp hc
      have prim : ∀ a, tyN M x = some a → P (.bl false) M → wpAny (model X.prog X.w) X.A (call (.builtin "isinstance") us) (EP X pins σ Q) X.xe s := fun a ea q => by
        have hh := List.all_eq_true.mp kit_own a (tyN_mem ea)
        refine call_isi pins s σ H _ us Q I r ⟨v, _, .type a, .ref (He.ga X.K c), false, rfl, .own _, tyN_ok R i1 ea, ?_, hk _ M F H _ q (Same.refl F) R rfl⟩
        unfold PySem.W.kitOne PySem.W.kitCls
        rw [if_neg (by simp)]
        dsimp only
        rw [if_pos (by
          have h1 : (PySem.W.clsIn X.K (He.ga X.K c)).isSome = true := cf.cls.ic
          rw [h1, cf.ty]; simp)]
        show (PySem.fastBuiltinMro a).map (·.contains (Value.ref (He.ga X.K c))) = some false
        cases e : PySem.fastBuiltinMro a with
        | none => rw [e] at hh; cases hh
        | some l =>
          rw [e] at hh
          have hh' : (l.all fun v => match v with | .type _ => true | _ => false) = true := hh
          show some (l.contains (Value.ref (He.ga X.K c))) = some false
          congr 1
          rw [Bool.eq_false_iff]
          intro hcon
          have hm : Value.ref (He.ga X.K c) ∈ l := by simpa using hcon
          have := List.all_eq_true.mp hh' _ hm
          cases this
      cases x with
      | ins c' ds =>
        obtain ⟨ec, q'⟩ := q
        subst ec
        obtain ⟨a, dx, ws, rfl, hs, _⟩ := ins_slt R i1
        exact SlX.call_isiSl (.ref (He.ga X.K c)) pins s σ H _ us Q I r ⟨a, _, dx, _, .ref _, true, rfl, rfl, fun w hw => hw, hs, cf.cls, cf.isi, by unfold PySem.W.kitOne; rw [if_pos (by simp)], hk _ M F H _ q' (Same.refl F) R rfl⟩
      | non => exact prim _ rfl q
      | bl _ => exact prim _ rfl q
      | int _ => exact prim _ rfl q
      | str _ => exact prim _ rfl q
      | tup _ => exact prim _ rfl q
      | lst _ => exact prim _ rfl q
      | ref z =>
        dsimp only at q
        cases e : tyN M (.ref z) with
        | none => rw [e] at q; exact q.elim
        | some a => rw [e] at q; exact prim a e q
      | _ => exact q.elim
    | _ => exact q.elim
end

/-! ### sorted(set(e)), list(range(..)) -/
section
variable {X : Cx} {W : WX} {e : Expr} {w : WE} {p p2 pos pos2 : Pos}
def rSetL (K : PySem.W.Frag) (w : World) : List V → Hp → VK → Prop := fun xs H Q => ∃ (p : Addr) (ns : List Int), xs = [.ref p] ∧ SqL K H p (ns.map V.int) ∧ ns.length + 1 < scanBound ∧ ∀ q c, H q = none → c ≤ ns.length → Q (.ref q) (upd H q (SetO w q (fun j => decide (j ∈ ns)) c))
theorem cr_setL (hc : X.calm = true) : CallR X (.type "set") (rSetL X.K X.w) := by
  intro pins s σ H xs us Q I r h
  obtain ⟨p, ns, rfl, hq, hb, q⟩ := h
  obtain ⟨its, rv, pl, hz⟩ := I.list hq
  rw [Vals.ref1 r]
  refine set_listI ns (I.ok.hd hc) pl.isList (by simpa using rv.ints) hb fun h' tk c R hcn hk => ?_
  exact ⟨.ref _, upd H s.heap.objs.size (SetO X.w s.heap.objs.size (fun j => decide (j ∈ ns)) c), I.laid (t' := tk) hk (Nat.le_refl _) (setO_new R), rfl, q _ c (I.hok.fresh (Nat.le_refl _)) hcn⟩
def rSortedSetA (w : World) : List V → Hp → VK → Prop := fun vs H Q => ∃ (a : Addr) (S : Int → Bool) (n : Nat), vs = [V.ref a] ∧ H a = some (SetO w a S n) ∧ n ≤ sizeLine ∧
  ∀ (ns : List Int) (p : Addr), ns.Pairwise (· < ·) → (∀ k : Int, k ∈ ns ↔ S k = true) → H p = none → Q (.ref p) (upd H p (.lst (ns.map V.int)))
theorem cr_sortedSetA (hc : X.calm = true) : CallR X (.builtin "sorted") (rSortedSetA X.w) := by
  intro pins s σ H vs us Q I r h
  obtain ⟨a, S, n, rfl, ha, hz, q⟩ := h
  have R := setO_get I ha
  rw [Vals.ref1 r]
  refine sorted_setA R (I.ok.hd hc) hz fun s' p out c ns k g o hp hg hi hs hm hl => ?_
  have hlen : (ns.map V.int).length ≤ sizeLine := by rw [List.length_map, hl]; exact hz
  have hn : H p = none := I.hok.fresh hp
  have J : Inv X pins σ (upd H p (.lst (ns.map V.int))) { s with heap := s'.heap, gens := s'.gens, drawn := s'.drawn, toks := s'.toks } :=
    I.call (ch := []) (Un.laid k hp hn) (I.hok.laid k hp ⟨hlen, out.toList, c, vals_of_ints hi, hg⟩) (by rw [g]; exact I.bare) (fun _ z => nomatch z)
  have e : s' = { s with heap := s'.heap, gens := s'.gens, drawn := s'.drawn, toks := s'.toks } := by
    cases s'
    cases s
    cases o
    rfl
  rw [e]
  exact ⟨.ref p, _, J, rfl, q ns p hs hm hn⟩
theorem scan_small {n m : Nat} (h : n + 1 < scanBound) (hm : m ≤ n) : m ≤ sizeLine := Nat.le_trans hm (Nat.le_of_lt (Nat.lt_of_lt_of_le (Nat.lt_succ_self n) (Nat.le_trans (Nat.le_of_lt h) (by decide))))
/-- more stands -/
theorem Rep.grow {K : PySem.W.Frag} {G F H H' : Hp} {M : Mem} (R : Rep K G F H M) (h : ∀ b u, H b = some u → H' b = some u) : Rep K G F H' M := by
  refine ⟨fun b u q => h b u (R.frm b u q), R.frF, R.frM, R.frL, fun b u q => h b u (R.sub b u q), R.free, fun b u q => ?_⟩
  have z := R.mem b u q
  cases u with
  | lst ds => obtain ⟨vs, e, hd⟩ := z; exact ⟨vs, h _ _ e, hd⟩
  | slt c ds => exact SltM.move z (Same.refl F) (fun u e => h _ _ e) fun dx u e _ _ => ⟨h _ _ e, fun _ f => f⟩
  | _ => exact z.elim
/-- sorted(set(e)) -/
def wSS (w : WE) : WE := fun ex ρ M P => w ex ρ M fun d M1 => oL (listD M1 d) fun xs => oIs (intsD xs) fun ns => ns.length + 1 < scanBound ∧ ∀ ns' : List Int, ns'.Pairwise (· < ·) → (∀ k, k ∈ ns' ↔ k ∈ ns) → nwL (ns'.map .int) M1 P
theorem je_ss (hc : X.calm = true) (hg : Gl X "sorted") (hm : X.mg "sorted" = none) (hg2 : Gl X "set") (hm2 : X.mg "set" = none) (he : JE X W e w) (hs : starEach [.Call (.Name "set" p2) [e] [] pos2] X.env = [(false, eval (.Call (.Name "set" p2) [e] [] pos2) X.env)]) (hs2 : starEach [e] X.env = [(false, eval e X.env)]) :
    JE X W (.Call (.Name "sorted" p) [.Call (.Name "set" p2) [e] [] pos2] [] pos) (wSS w) := by
  refine PE.imp (pe_callB (cr_sortedSetA hc) hg hm PyProof.Rows.boot_sorted (pa_cons (pe_callTy (cr_setL hc) hg2 hm2 PyProof.Rows.boot_set (pa_cons he pa_nil (by rw [hs2]; rfl)) (by decide) (by decide) (by rw [hs2]; rfl) rfl) pa_nil (by rw [hs]; rfl)) (by decide) (by decide) (by rw [hs]; rfl) rfl) fun σ H Q h => ?_
  obtain ⟨ρ, M, G, F, P, ex, R, E, h, k, kx⟩ := h
  refine ⟨ρ, M, G, F, _, ex, R, E, h, fun d M1 F1 H1 v h1 le1 R1 i1 => ?_, kx⟩
  obtain ⟨es, e1, h1⟩ := oL.of h1
  obtain ⟨ns, e2, h1⟩ := oIs.of h1
  obtain ⟨a, vs, rfl, hq, hd⟩ := listD_ok R1 i1 e1
  rw [intsD_ok e2] at hd
  rw [ints_vs hd] at hq
  refine ⟨a, ns, rfl, hq, h1.1, fun q c hqn hcn => ?_⟩
  have R3 : Rep X.K G F1 (upd H1 q (SetO X.w q (fun j => decide (j ∈ ns)) c)) M1 := R1.grow fun b u e => by rw [upd_ne (ne_of_none e hqn)]; exact e
  refine ⟨q, _, c, rfl, upd_same, scan_small h1.1 hcn, fun ns' p hp1 hp2 hpn => nwL_ok R3 hpn vs_ints (k.mono le1) (h1.2 ns' hp1 fun z => by rw [hp2 z]; simp)⟩
end
end Fs
set_option maxHeartbeats 4000000
/-! Fs14: list(range(..)), methods of lists and of texts, stores into lists and slots. -/
namespace Fs
open PySem PySem.Spec PyProof.Rows L2

/-! ### list(range(..)) -/
def rgD (a b : Int) : List Dt := (List.range (b - a).toNat).map fun i => .int (a + (i : Nat))
theorem rg_ok {K : PySem.W.Frag} {F : Hp} (a b : Int) : IsDs K F (rgD a b) (rgV a b) := by
  unfold rgD rgV
  generalize List.range (b - a).toNat = l
  induction l with
  | nil => rfl
  | cons i r ih => exact ⟨_, _, rfl, rfl, ih⟩
def wLRg1 (w : WE) : WE := fun ex ρ M P => w ex ρ M fun d M1 => match d with
  | .int j => RgOk 0 j ∧ nwL (rgD 0 j) M1 P
  | _ => False
def wLRg2 (w u : WE) : WE := fun ex ρ M P => w ex ρ M fun d M1 => u ex ρ M1 fun e M2 => oII d e fun i j => RgOk i j ∧ nwL (rgD i j) M2 P
section
variable {X : Cx} {W : WX} {e f : Expr} {w u : WE} {p p2 pos pos2 : Pos}
theorem je_lrg1 (hc : X.calm = true) (hg : Gl X "list") (hm : X.mg "list" = none) (hg2 : Gl X "range") (hm2 : X.mg "range" = none) (he : JE X W e w) (na : starEach [e] X.env = [(false, eval e X.env)])
    (nb : starEach [.Call (.Name "range" p2) [e] [] pos2] X.env = [(false, eval (.Call (.Name "range" p2) [e] [] pos2) X.env)]) : JE X W (.Call (.Name "list" p) [.Call (.Name "range" p2) [e] [] pos2] [] pos) (wLRg1 w) := by
  refine PE.imp (pe_listRg hc hg hm (prg_1 hg2 hm2 he (by rw [na]; rfl)) (by rw [nb]; rfl)) fun σ H Q h => ?_
  obtain ⟨ρ, M, G, F, P, ex, R, E, h, k, kx⟩ := h
  refine ⟨ρ, M, G, F, _, ex, R, E, h, fun d M1 F1 H1 v h1 le1 R1 i1 => ?_, kx⟩
  cases d with
  | int j => exact ⟨j, i1, h1.1, fun q hq => nwL_ok R1 hq (rg_ok _ _) (k.mono le1) h1.2⟩
  | _ => exact h1.elim
theorem je_lrg2 (hc : X.calm = true) (hg : Gl X "list") (hm : X.mg "list" = none) (hg2 : Gl X "range") (hm2 : X.mg "range" = none) (he : JE X W e w) (hf : JE X W f u) (na : starEach [e, f] X.env = (false, eval e X.env) :: starEach [f] X.env) (na2 : starEach [f] X.env = [(false, eval f X.env)])
    (nb : starEach [.Call (.Name "range" p2) [e, f] [] pos2] X.env = [(false, eval (.Call (.Name "range" p2) [e, f] [] pos2) X.env)]) : JE X W (.Call (.Name "list" p) [.Call (.Name "range" p2) [e, f] [] pos2] [] pos) (wLRg2 w u) := by
  refine PE.imp (pe_listRg hc hg hm (prg_2 hg2 hm2 he hf na (by rw [na2]; rfl) (by rw [na2]; rfl)) (by rw [nb]; rfl)) fun σ H Q h => ?_
  obtain ⟨ρ, M, G, F, P, ex, R, E, h, k, kx⟩ := h
  refine ⟨ρ, M, G, F, _, ex, R, E, h, fun d M1 F1 H1 v h1 le1 R1 i1 => ?_, kx⟩
  refine ⟨ρ, M1, G, F1, _, ex, R1, E.mono le1, h1, fun d2 M2 F2 H2 v2 h2 le2 R2 i2 => ?_, kx.mono le1⟩
  obtain ⟨i, j, rfl, rfl, h2⟩ := oII.of h2
  exact ⟨i, j, i1, i2, h2.1, fun q hq => nwL_ok R2 hq (rg_ok _ _) (k.mono (le1.trans le2)) h2.2⟩
end

/-! ### a list is written -/
theorem Rep.setL {K : PySem.W.Frag} {G F H : Hp} {M : Mem} {a : Addr} {ds es : List Dt} {vs : List V} (R : Rep K G F H M) (e : M a = some (.lst ds)) (hd : IsDs K F es vs) : Rep K G F (upd H a (.lst vs)) (M.put a (.lst es)) := by
  have hF : F a = none := R.free a _ e
  have hG : G a = none := by
    cases q : G a with
    | none => rfl
    | some u => rw [R.frM a u q] at e; cases e
  obtain ⟨us, hH, _⟩ := R.mem a _ e
  refine ⟨fun b u q => by rw [upd_ne (ne_of_none q hG)]; exact R.frm b u q, R.frF, fun b u q => by rw [Mem.put_ne (ne_of_none q hG)]; exact R.frM b u q, R.frL, fun b u q => by rw [upd_ne (ne_of_none q hF)]; exact R.sub b u q, fun b u q => ?_, fun b u q => ?_⟩
  · by_cases hb : b = a
    · rw [hb]; exact hF
    · rw [Mem.put_ne hb] at q; exact R.free b u q
  · by_cases hb : b = a
    · subst hb; rw [Mem.put_same] at q; cases q; exact ⟨vs, upd_same, hd⟩
    · rw [Mem.put_ne hb] at q
      have z := R.mem b u q
      cases u with
      | lst ds => obtain ⟨vs, e, hd⟩ := z; exact ⟨vs, by rw [upd_ne hb]; exact e, hd⟩
      | slt c ds =>
        refine SltM.move z (Same.refl F) (fun u e => by rw [upd_ne hb]; exact e) fun dx u e k _ => ?_
        have hdx : dx ≠ a := fun z => by rw [z, hH] at e; cases e; rcases k with k | k <;> cases k
        exact ⟨by rw [upd_ne hdx]; exact e, fun _ f => f⟩
      | _ => exact z.elim
def lstM (M : Mem) (a : Addr) : Option (List Dt) := match M a with
  | some (.lst ds) => some ds
  | _ => none
theorem lstM_ok {M : Mem} {a : Addr} {ds : List Dt} (e : lstM M a = some ds) : M a = some (.lst ds) := by
  unfold lstM at e
  split at e
  · rename_i q; cases e; exact q
  · cases e
theorem lstM_put {M : Mem} {a : Addr} {ds : List Dt} : lstM (M.put a (.lst ds)) a = some ds := by unfold lstM; rw [Mem.put_same]
theorem lstM_put_ne {M : Mem} {a b : Addr} {o : MO} (h : b ≠ a) : lstM (M.put a o) b = lstM M b := by unfold lstM; rw [Mem.put_ne h]
/-- the address of a list that may change -/
def refD : Dt → Option Addr
  | .ref a => some a
  | _ => none
def oA (o : Option Addr) (f : Addr → Prop) : Prop := match o with
  | some b => f b
  | none => False
theorem oA.of {o : Option Addr} {f : Addr → Prop} (h : oA o f) : ∃ ds, o = some ds ∧ f ds := by
  cases o with
  | none => exact h.elim
  | some ds => exact ⟨ds, rfl, h⟩
theorem refD_ok {d : Dt} {a : Addr} (e : refD d = some a) : d = .ref a := by
  cases d with
  | ref b => cases e; rfl
  | _ => cases e
abbrev LM := Addr → List Dt → List Dt → Mem → DK → Prop
def wLM (f : LM) (w : WE) (r : WA) : WE := fun ex ρ M P => w ex ρ M fun d M1 => oA (refD d) fun a => (lstM M1 a).isSome = true ∧ r ex ρ M1 fun args M2 => oL (lstM M2 a) fun ds => f a ds args M2 P
def lmAppend : LM := fun a ds args M P => match args with
  | [x] => ds.length < sizeLine ∧ P .non (M.put a (.lst (ds ++ [x])))
  | _ => False
def lmExtend : LM := fun a ds args M P => match args with
  | [x] => oL (lstOf M x) fun es => ds.length + es.length ≤ sizeLine ∧ P .non (M.put a (.lst (ds ++ es)))
  | _ => False
def lmPop : LM := fun a ds args M P => match args with
  | [] => oD (ds[ds.length - 1]?) fun d => P d (M.put a (.lst ds.dropLast))
  | _ => False
theorem IsDs.dropLast {K : PySem.W.Frag} {F : Hp} {ds : List Dt} {vs : List V} (h : IsDs K F ds vs) : IsDs K F ds.dropLast vs.dropLast := by
  rw [List.dropLast_eq_take, List.dropLast_eq_take, h.length]
  exact h.take _
section
variable {X : Cx} {W : WX} {o e : Expr} {es : List Expr} {w : WE} {r : WA} {apos cpos : Pos}
/-- side conditions of a method call -/
structure MC (X : Cx) (o : Expr) (m : Str) (apos : Pos) (e : Expr) (es : List Expr) (cpos : Pos) : Prop where
  base : attributeBase o m X.env (eval o X.env) = eval o X.env
  few : ((backTo cpos (starEach (e :: es) X.env)).all (fun x => !x.1) && (backToKw cpos (keywordEach [] X.env)).all (fun x => x.1.isSome)
      && decide ((e :: es).length + ([] : List Keyword).length + (if ([] : List Keyword).isEmpty then 0 else 1) < 30)) = true
  line : (apos.endLine == cpos.line) = true
  st : starEach (e :: es) X.env = (false, eval e X.env) :: starEach es X.env
  pl : (backTo cpos (starEach es X.env)).any (·.1) = false
/-- the lifting of a list method -/
theorem llm {f : LM} {rr : V → List V → Hp → VK → Prop} (hr : ∀ (H G F : Hp) (M : Mem) (a : Addr) (ds args : List Dt) (us : List V) (P : DK) (Q : VK), Rep X.K G F H M → M a = some (.lst ds) → IsDs X.K F args us → f a ds args M P → KOk X.K G F P Q → rr (.ref a) us H Q)
    {σ : L2.St} {H : Hp} {Q : VK} (h : lE X.K W (wLM f w r) σ H Q) : tBM X.K "list" rr (lE X.K W w) (lA X.K W r) σ H Q := by
  obtain ⟨ρ, M, G, F, P, ex, R, E, h, k, kx⟩ := h
  refine ⟨ρ, M, G, F, _, ex, R, E, h, fun d M1 F1 H1 v h1 le1 R1 i1 => ?_, kx⟩
  obtain ⟨a, ea, h1⟩ := oA.of h1
  obtain rfl := refD_ok ea
  cases (show v = _ from i1)
  obtain ⟨hs, h1⟩ := h1
  obtain ⟨ds, ed⟩ := Option.isSome_iff_exists.mp hs
  obtain ⟨vs, hv, _⟩ := R1.mem a _ (lstM_ok ed)
  refine ⟨.inl ⟨rfl, vs, SqL.of hv⟩, ρ, M1, G, F1, _, ex, R1, E.mono le1, h1, fun args M2 F2 H2 us h2 le2 R2 i2 => ?_, kx.mono le1⟩
  obtain ⟨ds2, e2, h2⟩ := oL.of h2
  exact hr H2 G F2 M2 a ds2 args us P Q R2 (lstM_ok e2) i2 h2 (k.mono (le1.trans le2))
theorem je_append (ho : JE X W o w) (ha : JA X W (e :: es) r) (c : MC X o "append" apos e es cpos) : JE X W (.Call (.Attribute o "append" apos) (e :: es) [] cpos) (wLM lmAppend w r) := by
  refine PE.imp (pe_bm F.plainAttrs_list F.slot_list_append F.type_list_append mt_append ho ha c.base c.few c.line c.st c.pl) fun σ H Q h => llm (fun H G F M a ds args us P Q R ea ia q k => ?_) h
  match args, q, ia with
  | [x], q, ia =>
    obtain ⟨v, rfl, ix⟩ := isDs1 ia
    obtain ⟨vs, hv, hd⟩ := R.mem a _ ea
    exact ⟨a, vs, v, rfl, rfl, hv, by rw [hd.length]; exact q.1, k _ _ F _ _ q.2 (Same.refl F) (R.setL ea (hd.append ⟨v, [], rfl, ix, rfl⟩)) rfl⟩
theorem je_extend (ho : JE X W o w) (ha : JA X W (e :: es) r) (c : MC X o "extend" apos e es cpos) : JE X W (.Call (.Attribute o "extend" apos) (e :: es) [] cpos) (wLM lmExtend w r) := by
  refine PE.imp (pe_bm F.plainAttrs_list F.slot_list_extend F.type_list_extend mt_extend ho ha c.base c.few c.line c.st c.pl) fun σ H Q h => llm (fun H G F M a ds args us P Q R ea ia q k => ?_) h
  match args, q, ia with
  | [x], q, ia =>
    obtain ⟨v, rfl, ix⟩ := isDs1 ia
    obtain ⟨vs, hv, hd⟩ := R.mem a _ ea
    obtain ⟨es, e1, q⟩ := oL.of q
    obtain ⟨b, us, rfl, hb, he⟩ := lstOf_ok R ix e1
    exact ⟨a, b, vs, us, rfl, rfl, hv, hb, by rw [hd.length, he.length]; exact q.1, k _ _ F _ _ q.2 (Same.refl F) (R.setL ea (hd.append he)) rfl⟩
theorem je_pop (ho : JE X W o w) (hb : attributeBase o "pop" X.env (eval o X.env) = eval o X.env) (hl : (apos.endLine == cpos.line) = true) : JE X W (.Call (.Attribute o "pop" apos) [] [] cpos) (wLM lmPop w wNil) := by
  refine PE.imp (pe_bm0 F.plainAttrs_list F.slot_list_pop F.type_list_pop mt_pop ho hb hl) fun σ H Q h => ?_
  have h' := llm (X := X) (W := W) (f := lmPop) (rr := fun x _ H Q => rPop x [] H Q) (fun H G F M a ds args us P Q R ea ia q k => ?_) h
  · obtain ⟨ρ, M, G, F, P, ex, R, E, h, k, kx⟩ := h'
    refine ⟨ρ, M, G, F, P, ex, R, E, h, fun d M1 F1 H1 v h1 le1 R1 i1 => ?_, kx⟩
    obtain ⟨ty, ρ', M', G', F', P', ex', R', E', h2, k2, kx2⟩ := k d M1 F1 H1 v h1 le1 R1 i1
    exact ⟨ty, k2 [] M' F' H1 [] h2 (Same.refl F') R' rfl⟩
  · match args, q, ia with
    | [], q, ia =>
      obtain ⟨vs, hv, hd⟩ := R.mem a _ ea
      obtain ⟨d, e1, q⟩ := oD.of q
      obtain ⟨v, ev, iv⟩ := hd.get e1
      exact ⟨a, vs, v, rfl, rfl, hv, by rw [hd.length]; exact ev, k _ _ F _ _ q (Same.refl F) (R.setL ea hd.dropLast) iv⟩
end

/-! ### o[i] = e -/
def dgSub (wo wi : WE) : DG := fun d ρ M P => wo noX ρ M fun o M1 => wi noX ρ M1 fun i M2 => oA (refD o) fun a => oL (lstM M2 a) fun ds => match i with
  | .int k => (match L2.ixN ds.length k with
    | some j => P ρ (M2.put a (.lst (ds.set j d)))
    | none => False)
  | _ => False
section
variable {X : Cx} {W : WX} {o i : Expr} {wo wi : WE} {pos : Pos}
theorem jg_sub {W0 : WX} (ho : JE X W0 o wo) (hi : JE X W0 i wi)
    (ha : ∀ v, assign (.Subscript o i pos) X.env v = (do
      let ov ← holding [v] (eval o X.env)
      let iv ← holding [v, ov] (eval i X.env)
      standAt pos
      holding [v, ov, iv] (setItem ov iv v)
      release [v, ov, iv] [])) : JG X (.Subscript o i pos) (dgSub wo wi) [] := by
  refine PG.imp (pg_sub ho hi set_list ha) fun v σ H Q h => ?_
  obtain ⟨ρ, M, G, F, d, P, R, E, id, h, k⟩ := h
  have no : ∀ (G F : Hp) (σ : L2.St), XOk X.K W0 G F noX σ := fun _ _ _ _ _ _ _ _ _ z => z.elim
  refine ⟨ρ, M, G, F, _, noX, R, E, h, fun od M1 F1 H1 ov h1 le1 R1 i1 => ?_, no _ _ _⟩
  refine ⟨ρ, M1, G, F1, _, noX, R1, E.mono le1, h1, fun ix M2 F2 H2 iv h2 le2 R2 i2 => ?_, no _ _ _⟩
  obtain ⟨a, ea, h2⟩ := oA.of h2
  obtain rfl := refD_ok ea
  cases (show ov = _ from i1)
  obtain ⟨ds, ed, h2⟩ := oL.of h2
  obtain ⟨vs, hv, hd⟩ := R2.mem a _ (lstM_ok ed)
  cases ix with
  | int kk =>
    cases (show iv = _ from i2)
    dsimp only at h2
    cases e : L2.ixN ds.length kk with
    | none => rw [e] at h2; exact h2.elim
    | some j =>
      rw [e] at h2
      refine ⟨a, vs, kk, j, rfl, rfl, hv, by rw [hd.length]; exact e, ?_⟩
      exact k ρ _ F2 _ σ h2 (le1.trans le2) (R2.setL (lstM_ok ed) (hd.set (IsD.mono (le1.trans le2) _ _ id) j)) (E.mono (le1.trans le2)) rfl
  | _ => exact h2.elim
end

/-! ### methods of texts -/
def strsD : List Dt → Option (List Str)
  | [] => some []
  | .str i :: r => (strsD r).map (i :: ·)
  | _ :: _ => none
theorem strsD_ok : ∀ {ds : List Dt} {ns : List Str}, strsD ds = some ns → ds = ns.map .str
  | [], ns, e => by cases e; rfl
  | d :: r, ns, e => by
    cases d with
    | str i =>
      simp only [strsD, Option.map_eq_some_iff] at e
      obtain ⟨m, e, rfl⟩ := e
      rw [strsD_ok e]; rfl
    | _ => cases e
theorem strsD_map : ∀ ns : List Str, strsD (ns.map .str) = some ns
  | [] => rfl
  | n :: r => by simp only [List.map_cons, strsD, strsD_map r, Option.map_some]
theorem strs_vs {K : PySem.W.Frag} {F : Hp} : ∀ {ns : List Str} {vs : List V}, IsDs K F (ns.map .str) vs → vs = ns.map V.str
  | [], _, h => h
  | n :: r, _, ⟨v, w, h1, h2, h3⟩ => by rw [h1, strs_vs h3, show v = .str n from h2]; rfl
theorem vs_strs {K : PySem.W.Frag} {F : Hp} : ∀ {ns : List Str}, IsDs K F (ns.map .str) (ns.map V.str)
  | [] => rfl
  | n :: r => ⟨_, _, rfl, rfl, vs_strs⟩
def oSs (o : Option (List Str)) (f : List Str → Prop) : Prop := match o with
  | some b => f b
  | none => False
theorem oSs.of {o : Option (List Str)} {f : List Str → Prop} (h : oSs o f) : ∃ ds, o = some ds ∧ f ds := by
  cases o with
  | none => exact h.elim
  | some ds => exact ⟨ds, rfl, h⟩
def strD : Dt → Option Str
  | .str z => some z
  | _ => none
def oZ (o : Option Str) (f : Str → Prop) : Prop := match o with
  | some b => f b
  | none => False
theorem oZ.of {o : Option Str} {f : Str → Prop} (h : oZ o f) : ∃ ds, o = some ds ∧ f ds := by
  cases o with
  | none => exact h.elim
  | some ds => exact ⟨ds, rfl, h⟩
theorem strD_ok {d : Dt} {a : Str} (e : strD d = some a) : d = .str a := by
  cases d with
  | str b => cases e; rfl
  | _ => cases e
abbrev SM := Str → List Dt → Mem → DK → Prop
def wSM (f : SM) (w : WE) (r : WA) : WE := fun ex ρ M P => w ex ρ M fun d M1 => oZ (strD d) fun a => r ex ρ M1 fun args M2 => f a args M2 P
def smJoin : SM := fun a args M P => match args with
  | [x] => oL (seqD M x) fun xs => oSs (strsD xs) fun ys => (ys.map (·.length)).sum + ys.length * a.length ≤ 16777216 ∧ P (.str (Txt.join a ys)) M
  | _ => False
def smSplit : SM := fun a args M P => match args with
  | [x] => oZ (strD x) fun b => (b.length == 0) = false ∧ a.length + 2 ≤ sizeLine ∧ nwL ((Txt.split a b).map .str) M P
  | _ => False
def smRemovep : SM := fun a args M P => match args with
  | [x] => oZ (strD x) fun b => a.length ≤ sizeLine ∧ P (.str (Txt.removeprefix a b)) M
  | _ => False
section
variable {X : Cx} {W : WX} {o e : Expr} {es : List Expr} {w : WE} {r : WA} {apos cpos : Pos}
theorem lsm {f : SM} {rr : V → List V → Hp → VK → Prop} (hr : ∀ (H G F : Hp) (M : Mem) (a : Str) (args : List Dt) (us : List V) (P : DK) (Q : VK), Rep X.K G F H M → IsDs X.K F args us → f a args M P → KOk X.K G F P Q → rr (.str a) us H Q)
    {σ : L2.St} {H : Hp} {Q : VK} (h : lE X.K W (wSM f w r) σ H Q) : tBM X.K "str" rr (lE X.K W w) (lA X.K W r) σ H Q := by
  obtain ⟨ρ, M, G, F, P, ex, R, E, h, k, kx⟩ := h
  refine ⟨ρ, M, G, F, _, ex, R, E, h, fun d M1 F1 H1 v h1 le1 R1 i1 => ?_, kx⟩
  obtain ⟨a, ea, h1⟩ := oZ.of h1
  obtain rfl := strD_ok ea
  cases (show v = _ from i1)
  exact ⟨rfl, ρ, M1, G, F1, _, ex, R1, E.mono le1, h1, fun args M2 F2 H2 us h2 le2 R2 i2 => hr H2 G F2 M2 a args us P Q R2 i2 h2 (k.mono (le1.trans le2)), kx.mono le1⟩
theorem je_join (ho : JE X W o w) (ha : JA X W (e :: es) r) (c : MC X o "join" apos e es cpos) : JE X W (.Call (.Attribute o "join" apos) (e :: es) [] cpos) (wSM smJoin w r) := by
  refine PE.imp (pe_bm F.plainAttrs_str F.slot_str_join F.type_str_join mt_join ho ha c.base c.few c.line c.st c.pl) fun σ H Q h => lsm (fun H G F M a args us P Q R ia q k => ?_) h
  match args, q, ia with
  | [x], q, ia =>
    obtain ⟨v, rfl, ix⟩ := isDs1 ia
    obtain ⟨xs, e1, q⟩ := oL.of q
    obtain ⟨ys, e2, q⟩ := oSs.of q
    obtain ⟨b, p, vs, rfl, hq, hd⟩ := seqD_ok R ix e1
    rw [strsD_ok e2] at hd
    rw [strs_vs hd] at hq
    refine ⟨a, p, ys, rfl, rfl, ?_, q.1, k _ M F H _ q.2 (Same.refl F) R rfl⟩
    cases b with
    | true => exact .inl hq
    | false => exact .inr hq
theorem je_split (ho : JE X W o w) (ha : JA X W (e :: es) r) (c : MC X o "split" apos e es cpos) : JE X W (.Call (.Attribute o "split" apos) (e :: es) [] cpos) (wSM smSplit w r) := by
  refine PE.imp (pe_bm F.plainAttrs_str F.slot_str_split F.type_str_split mt_split ho ha c.base c.few c.line c.st c.pl) fun σ H Q h => lsm (fun H G F M a args us P Q R ia q k => ?_) h
  match args, q, ia with
  | [x], q, ia =>
    obtain ⟨v, rfl, ix⟩ := isDs1 ia
    obtain ⟨b, e1, q⟩ := oZ.of q
    obtain rfl := strD_ok e1
    cases (show v = _ from ix)
    exact ⟨a, b, rfl, rfl, q.1, q.2.1, fun p hp => nwL_ok R hp vs_strs k q.2.2⟩
theorem je_removep (ho : JE X W o w) (ha : JA X W (e :: es) r) (c : MC X o "removeprefix" apos e es cpos) : JE X W (.Call (.Attribute o "removeprefix" apos) (e :: es) [] cpos) (wSM smRemovep w r) := by
  refine PE.imp (pe_bm F.plainAttrs_str F.slot_str_removeprefix F.type_str_removeprefix mt_removeprefix ho ha c.base c.few c.line c.st c.pl) fun σ H Q h => lsm (fun H G F M a args us P Q R ia q k => ?_) h
  match args, q, ia with
  | [x], q, ia =>
    obtain ⟨v, rfl, ix⟩ := isDs1 ia
    obtain ⟨b, e1, q⟩ := oZ.of q
    obtain rfl := strD_ok e1
    cases (show v = _ from ix)
    exact ⟨a, b, rfl, rfl, q.1, k _ M F H _ q.2 (Same.refl F) R rfl⟩
end
end Fs
set_option maxHeartbeats 4000000
/-! Fs15: more statements, comprehensions with two sources, defaults. -/
namespace Fs
open PySem PySem.Spec PyProof.Rows L2

/-! ### what is never reached -/
def eFalse : WE := fun _ _ _ _ => False
def tFalse : WT := fun _ _ _ _ => False
def sFalse : WS := fun _ _ _ _ => False
def aFalse : WA := fun _ _ _ _ => False
def iFalse : WI := fun _ _ _ _ => False
def gFalse : DG := fun _ _ _ _ => False
section
variable {X : Cx} {W : WX}
theorem je_false {e : Expr} : JE X W e eFalse := ⟨fun pins s σ H Q I h => by obtain ⟨_, _, _, _, _, _, _, _, h, _⟩ := h; exact h.elim⟩
theorem jt_false {e : Expr} : JT X W e tFalse := ⟨fun pins s σ H Q I h => by obtain ⟨_, _, _, _, _, _, _, _, h, _⟩ := h; exact h.elim⟩
theorem ja_false {e : List Expr} : JA X W e aFalse := ⟨fun pos pins s σ H Q I h => by obtain ⟨_, _, _, _, _, _, _, _, h, _⟩ := h; exact h.elim⟩
theorem js_false {e : Stmt} : JS X W e sFalse := ⟨fun pins s σ H D I h => by obtain ⟨_, _, _, _, _, _, _, _, h, _⟩ := h; exact h.elim⟩
theorem jss_false {e : List Stmt} : JSs X W e sFalse := ⟨fun pins s σ H D I h => by obtain ⟨_, _, _, _, _, _, _, _, h, _⟩ := h; exact h.elim⟩
theorem ji_false {tg e : Expr} : JI X W tg e iFalse := ⟨fun pins s σ H R I h => by obtain ⟨_, _, _, _, _, _, _, _, h, _⟩ := h; exact h.elim⟩
theorem jg_false {tg : Expr} : JG X tg gFalse [] := ⟨fun pins s σ H v u Q I r h => by obtain ⟨_, _, _, _, _, _, _, _, _, h, _⟩ := h; exact h.elim⟩

/-! ### a, b, c = x, y, z -/
def wPar3 (i j l : Nat) (r : WA) : WS := fun ex D ρ M => r (fun x d M' => ex x d ρ M') ρ M fun ds M1 => match ds with
  | [d, e, f] => D.nx (eset (eset (eset ρ i (some d)) j (some e)) l (some f)) M1
  | _ => False
theorem js_par3 {i j l : Nat} {x y z : Str} {a b c : Expr} {r : WA} {px py pz pt pos : Pos} {kt k2 pt2} (hc : X.calm = true) (hN : X.N.Nodup) (hi : X.N[i]? = some x) (hj : X.N[j]? = some y) (hl : X.N[l]? = some z) (hij : i ≠ j) (hil : i ≠ l) (hjl : j ≠ l)
    (hx : X.env.scope.names.lookup x = some .local) (hy : X.env.scope.names.lookup y = some .local) (hz : X.env.scope.names.lookup z = some .local) (ha : JA X W [a, b, c] r)
    (hw : swappedStores [.Tuple [.Name x px, .Name y py, .Name z pz] kt pt] (.Tuple [a, b, c] k2 pt2) X.env = pure (some [x, y, z]))
    (hs : swapsWithSole [.Tuple [.Name x px, .Name y py, .Name z pz] kt pt] (.Tuple [a, b, c] k2 pt2) pos.line X.env = pure false) :
    JS X W (.Assign [.Tuple [.Name x px, .Name y py, .Name z pz] kt pt] (.Tuple [a, b, c] k2 pt2) pos) (wPar3 i j l r) := by
  refine PS.imp (ps_par3 hc hN hi hj hl hij hil hjl hx hy hz ha hw hs) fun D σ H h => ?_
  obtain ⟨ρ, M, G, F, Dd, ex, R, E, h, k, kx⟩ := h
  refine ⟨ρ, M, G, F, _, _, R, E, h, fun ds M1 F1 H1 vs h1 le1 R1 i1 => ?_, kx.at E⟩
  match ds, h1, i1 with
  | [d, e, f], h1, ⟨v, r, e1, i2, u, r', e2, i3, w, r'', e3, i4, e4⟩ =>
    subst e1; subst e2; subst e3
    cases (show r'' = [] from e4)
    exact ⟨v, u, w, rfl, k.nx _ M1 F1 H1 _ h1 le1 R1 ((((E.mono le1).set i2).set i3).set i4)⟩
end

/-! ### self.f = e -/
/-- the slots behind a store -/
def putD (i : Nat) (d : Dt) (ds : List (Option Dt)) : List (Option Dt) := (ds ++ List.replicate (i + 1 - ds.length) none).set i (some d)
theorem isOs_len {K : PySem.W.Frag} {F : Hp} {ds : List (Option Dt)} {vs : List (Option V)} (h : IsOs K F ds vs) : vs.length = ds.length := by
  induction h with
  | nil => rfl
  | none _ ih => simp [ih]
  | some _ _ ih => simp [ih]
theorem isOs_app {K : PySem.W.Frag} {F : Hp} {ds : List (Option Dt)} {vs : List (Option V)} (h : IsOs K F ds vs) (n : Nat) : IsOs K F (ds ++ List.replicate n none) (vs ++ List.replicate n none) := by
  induction h with
  | nil =>
    simp only [List.nil_append]
    induction n with
    | zero => exact .nil
    | succ n ih => exact .none ih
  | none _ ih => exact .none ih
  | some q _ ih => exact .some q ih
theorem isOs_set {K : PySem.W.Frag} {F : Hp} {d : Dt} {v : V} (q : IsD K F d v) {ds : List (Option Dt)} {vs : List (Option V)} (h : IsOs K F ds vs) : ∀ i, IsOs K F (ds.set i (some d)) (vs.set i (some v)) := by
  induction h with
  | nil => intro i; exact .nil
  | none h ih =>
    intro i
    cases i with
    | zero => exact .some q h
    | succ i => exact .none (ih i)
  | some p h ih =>
    intro i
    cases i with
    | zero => exact .some q h
    | succ i => exact .some p (ih i)
theorem isOs_put {K : PySem.W.Frag} {F : Hp} {d : Dt} {v : V} {ds : List (Option Dt)} {vs : List (Option V)} (q : IsD K F d v) (h : IsOs K F ds vs) (i : Nat) : IsOs K F (putD i d ds) (SlX.putS i v vs) := by
  unfold putD SlX.putS
  rw [isOs_len h]
  exact isOs_set q (isOs_app h _) i
def wSlot (S : Sps) (f : Str) (wo wv : WE) : WS := fun ex D ρ M => wv (fun x d M' => ex x d ρ M') ρ M fun d M1 => wo (fun x d M' => ex x d ρ M') ρ M1 fun o M2 => oA (refD o) fun a => match M2 a with
  | some (.slt c ds) => (match slotIx c f with
    | some i => oS (S (.c c)) fun _ => D.nx ρ (M2.put a (.slt c (putD i d ds)))
    | none => False)
  | _ => False
/-- an instance is stored into -/
theorem Rep.setSlt {K : PySem.W.Frag} {G F H : Hp} {M : Mem} {a dx : Addr} {c : Str} {ds es : List (Option Dt)} {vs ws : List (Option V)} {u : HO} (R : Rep K G F H M) (e : M a = some (.slt c ds)) (hs : SlX.Slt H a (He.ga K c) dx vs) (hu : H dx = some u) (hk : (u = .own a ∧ F dx = none) ∨ u = .xd []) (ne : dx ≠ a) (hd : IsOs K F es ws) :
    Rep K G F (SlX.slH H a (He.ga K c) dx ws) (M.put a (.slt c es)) := by
  have hF : F a = none := R.free a _ e
  have hG : G a = none := by
    cases q : G a with
    | none => rfl
    | some u => rw [R.frM a u q] at e; cases e
  have hGd : G dx = none := by
    cases q : G dx with
    | none => rfl
    | some o =>
      obtain ⟨xs, rfl⟩ := R.frL dx o q
      have z := R.frm dx _ q
      rw [hu] at z
      cases z
      rcases hk with ⟨h, _⟩ | h <;> cases h
  have hMd : M dx = none := by
    cases q : M dx with
    | none => rfl
    | some o =>
      obtain ⟨u', e', n1, n2⟩ := (R.mem dx o q).there
      rw [hu] at e'
      cases e'
      rcases hk with ⟨h, _⟩ | h
      · exact absurd h (n1 _)
      · exact absurd h n2
  have stay : ∀ b w, H b = some w → b ≠ a → b ≠ dx → SlX.slH H a (He.ga K c) dx ws b = some w := fun b w q h1 h2 => by rw [SlX.slH_ne h1 h2]; exact q
  refine ⟨fun b w q => stay b w (R.frm b w q) (ne_of_none q hG) (ne_of_none q hGd), R.frF, fun b w q => by rw [Mem.put_ne (ne_of_none q hG)]; exact R.frM b w q, R.frL, fun b w q => ?_, fun b w q => ?_, fun b w q => ?_⟩
  · by_cases hb : b = dx
    · subst hb
      have z := R.sub b w q
      rw [hu] at z
      cases z
      rcases hk with ⟨h, hf⟩ | h
      · rw [hf] at q; cases q
      · subst h
        unfold SlX.slH
        rw [upd_ne ne, upd_same]
    · exact stay b w (R.sub b w q) (ne_of_none q hF) hb
  · by_cases hb : b = a
    · rw [hb]; exact hF
    · rw [Mem.put_ne hb] at q; exact R.free b w q
  · by_cases hb : b = a
    · subst hb
      rw [Mem.put_same] at q
      cases q
      refine ⟨dx, ws, .xd [], SlX.slH_slt ne, ?_, .inr rfl, ne, hd⟩
      unfold SlX.slH
      rw [upd_ne ne, upd_same]
    · rw [Mem.put_ne hb] at q
      have z := R.mem b w q
      have hbd : b ≠ dx := fun zz => by rw [zz, hMd] at q; cases q
      cases w with
      | lst ds => obtain ⟨us, e1, hd⟩ := z; exact ⟨us, stay _ _ e1 hb hbd, hd⟩
      | slt c' ds' =>
        refine SltM.move z (Same.refl F) (fun u e => stay _ _ e hb hbd) fun dy y ey ky _ => ?_
        have h1 : dy ≠ a := fun zz => by
          obtain ⟨u', e', n1, n2⟩ := (R.mem a _ e).there
          rw [zz, e'] at ey
          cases ey
          rcases ky with k | k
          · exact n1 _ k
          · exact n2 k
        by_cases h2 : dy = dx
        · subst h2
          rw [hu] at ey
          cases ey
          rcases ky with k | k
          · rcases hk with ⟨h, _⟩ | h
            · rw [h] at k; cases k; exact absurd rfl hb
            · rw [h] at k; cases k
          · subst k
            refine ⟨?_, fun k => by cases k⟩
            unfold SlX.slH
            rw [upd_ne ne, upd_same]
        · exact ⟨stay _ _ ey h1 h2, fun _ f => f⟩
      | _ => exact z.elim
section
variable {X : Cx} {W : WX} {S : Sps} {k : Nat} {o value : Expr} {f : Str} {wo wv : WE} {pos pos' : Pos}
theorem js_slot (hS : SOk X.prog X.w X.K X.mg X.base S k) (ho : JE X W o wo) (hv : JE X W value wv) (hs : swapsWith value (some (.Attribute o f pos')) pos.line X.env = pure false) : JS X W (.Assign [.Attribute o f pos'] value pos) (wSlot S f wo wv) := by
  refine ⟨fun pins s σ H D I h => ?_⟩
  obtain ⟨ρ, M, G, F, Dd, ex, R, E, h, hk, kx⟩ := h
  refine plainObj_wpAny_Assign_Attribute (thn (PE.run hv pins s σ H (fun v H1 => ∃ d M1 F1, Same F F1 ∧ Rep X.K G F1 H1 M1 ∧ IsD X.K F1 d v ∧ wo (fun x d M' => ex x d ρ M') ρ M1 fun o M2 => oA (refD o) fun a => match M2 a with
    | some (.slt c ds) => (match slotIx c f with
      | some i => oS (S (.c c)) fun _ => Dd.nx ρ (M2.put a (.slt c (putD i d ds)))
      | none => False)
    | _ => False) I ?_) fun u s1 ⟨y, H1, I1, ry, d, M1, F1, le1, R1, i1, h1⟩ => thn (PE.run ho pins s1 σ H1 (fun v H2 => ∃ od M2 F2, Same F1 F2 ∧ Rep X.K G F2 H2 M2 ∧ IsD X.K F2 od v ∧ oA (refD od) fun a => match M2 a with
    | some (.slt c ds) => (match slotIx c f with
      | some i => oS (S (.c c)) fun _ => Dd.nx ρ (M2.put a (.slt c (putD i d ds)))
      | none => False)
    | _ => False) I1 ?_) fun ov s2 ⟨x, H2, I2, rx, od, M2, F2, le2, R2, i2, h2⟩ => ?_) hs
  · exact ⟨ρ, M, G, F, _, _, R, E, h, fun d M1 F1 H1 v h1 le1 R1 i1 => ⟨d, M1, F1, le1, R1, i1, h1⟩, kx.at E⟩
  · exact ⟨ρ, M1, G, F1, _, _, R1, E.mono le1, h1, fun d M2 F2 H2 v h2 le2 R2 i2 => ⟨d, M2, F2, le2, R2, i2, h2⟩, (kx.mono le1).at (E.mono le1)⟩
  · obtain ⟨a, ea, h3⟩ := oA.of h2
    clear h2
    obtain rfl := refD_ok ea
    cases (show x = _ from i2)
    obtain rfl : ov = Value.ref a := rx
    cases q : M2 a with
    | none => rw [q] at h3; exact h3.elim
    | some mo =>
      rw [q] at h3
      cases mo with
      | slt c ds =>
        dsimp only at h3
        cases e : slotIx c f with
        | none => rw [e] at h3; exact h3.elim
        | some i =>
          rw [e] at h3
          obtain ⟨sp, hc, h3⟩ := oS.of h3
          have cf := hS.c c sp hc
          obtain ⟨p, t⟩ := cf.slot f i e
          obtain ⟨dx, vs, uu, hsl, hu, hkk, ne, hos⟩ := R2.mem a _ q
          refine SlX.setslot_ok I2 hsl cf.cls t ry fun s3 I3 => ⟨σ, _, I3, ?_⟩
          exact hk.nx ρ _ F2 _ σ h3 (le1.trans le2) (R2.setSlt q hsl hu hkk ne (isOs_put (IsD.mono le2 _ _ i1) hos i)) (E.mono (le1.trans le2))
      | _ => exact h3.elim
end

/-! ### [e for x in .. for y in ..] -/
def lc2L (b : DG) (t : WT) (it1 : WI) (b1 : DG) (t1 : WT) (e : WE) (own1 : List Nat) (P : List Dt → Mem → Prop) (ρ : DEnv) (g : Gd) : List Dt → List Dt → Mem → Prop
  | [], acc, M => gd g M (P acc M)
  | d :: ds, acc, M => gd g M (b d ρ M fun ρ1 M1 => t noX ρ1 M1 fun k M2 => Br k (it1 noX ρ1 M2 fun ds1 g1 M3 => lcL b1 t1 e (fun acc2 M4 => lc2L b t it1 b1 t1 e own1 P ρ g ds acc2 M4) (dwipe ρ1 own1) g1 ds1 acc M3) (lc2L b t it1 b1 t1 e own1 P ρ g ds acc M2))
def wLc2 (it : WI) (b : DG) (t : WT) (it1 : WI) (b1 : DG) (t1 : WT) (e : WE) (own own1 : List Nat) : WE := fun ex ρ M P => it ex ρ M fun ds g M1 => lc2L b t it1 b1 t1 e own1 (fun acc M2 => nwL acc M2 P) (dwipe ρ own) g ds [] M1
section
variable {X : Cx} {W : WX} {elt tg iter tg1 iter1 : Expr} {ifs ifs1 : List Expr} {scope : Scope} {own : List (Str × Nat)} {pos : Pos} {wi wi1 : WI} {b b1 : DG} {t t1 : WT} {w : WE} {is is1 : List Nat}
theorem lc2_lift {σ : L2.St} {H : Hp} {Q : VK} {vs vs1 : List Nat} {W0 : WX} (hs : ∀ i ∈ is, i ∈ vs) (hs1 : ∀ i ∈ is1, i ∈ vs1) (h : lE X.K W (wLc2 wi b t wi1 b1 t1 w vs vs1) σ H Q) :
    tLc2 (lI X.K W wi) (lG X.K b is) (lT X.K W0 t) (lI X.K W0 wi1) (lG X.K b1 is1) (lT X.K W0 t1) (lE X.K W0 w) vs vs1 σ H Q := by
  obtain ⟨ρ, M, G, F, P, ex, R, E, h, k, kx⟩ := h
  refine ⟨ρ, M, G, F, _, ex, R, E, h, fun items g M1 F1 H1 J h1 le1 R1 wk D hD => ?_, kx⟩
  have no : ∀ (G F : Hp) (σ : L2.St), XOk X.K W0 G F noX σ := fun _ _ _ _ _ _ _ _ _ z => z.elim
  obtain ⟨R2, hG, hF, hM⟩ := R1.aside (xs0 := []) hD
  refine ⟨fun i m H => i + m = items.length ∧ ∃ M F accV acc, Rep X.K (upd G D (.lst accV)) F H M ∧ IsDs X.K F acc accV ∧ Same F1 F ∧ lc2L b t wi1 b1 t1 w vs1 (fun acc M2 => nwL acc M2 P) (dwipe ρ vs) g (items.drop i) acc M, ⟨items.length, Nat.zero_add _, M1, F1, [], [], R2, rfl, Same.refl F1, h1⟩, ?_⟩
  rintro i m H' ⟨hi, M', F', accV, acc, R', hacc, le', h'⟩
  cases q : items[i]? with
  | none =>
    have hl : items.length ≤ i := List.getElem?_eq_none_iff.mp q
    rw [List.drop_eq_nil_of_le hl] at h'
    obtain ⟨hgd, h'⟩ := gd.of (show gd g M' (nwL acc M' P) from h')
    exact .inl ⟨(wk _ F' H' M' le' R' hgd i).1 (by omega), nwL_aside R' hG hacc (k.mono (le1.trans le')) h'⟩
  | some d =>
    obtain ⟨hl, ed⟩ := List.getElem?_eq_some_iff.mp q
    rw [List.drop_eq_getElem_cons hl, ed] at h'
    obtain ⟨hgd, h'⟩ := gd.of (show gd g M' _ from h')
    obtain ⟨hgo, hy⟩ := (wk _ F' H' M' le' R' hgd i).2 d q
    refine .inr ⟨hgo, fun H => ∃ M F accV acc, Rep X.K (upd G D (.lst accV)) F H M ∧ IsDs X.K F acc accV ∧ Same F1 F ∧ lc2L b t wi1 b1 t1 w vs1 (fun acc M2 => nwL acc M2 P) (dwipe ρ vs) g (items.drop (i + 1)) acc M, fun H2 z => ⟨m - 1, by omega, by omega, z⟩, fun x H2 y => ?_⟩
    obtain ⟨F2, le2, R3, i2⟩ := hy x H2 y
    refine ⟨dwipe ρ vs, M', _, F2, d, _, R3, ((E.mono (le1.trans (le'.trans le2))).wipe vs), i2, h', fun ρ3 M3 F3 H3 σ3 h3 le3 R4 E3 w3 => ⟨?_, ?_⟩⟩
    · have e1 := wipe_more w3 hs
      rw [e1]
      exact wipe_sub (fun i hi => hi)
    · refine ⟨ρ3, M3, _, F3, _, noX, R4, E3, h3, fun kk M4 F4 H4 h4 le4 R5 => ?_, no _ _ _⟩
      have le14 : Same F1 F4 := le'.trans (le2.trans (le3.trans le4))
      have hacc4 : IsDs X.K F4 acc accV := IsDs.mono (le2.trans (le3.trans le4)) _ _ hacc
      cases kk with
      | true =>
        dsimp only
        rw [if_pos rfl]
        refine ⟨ρ3, M4, _, F4, _, noX, R5, E3.mono le4, h4.1 rfl, fun items1 g1 M5 F5 H5 J1 h5 le5 R6 wk1 => ?_, no _ _ _⟩
        refine ⟨fun j k H => j + k = items1.length ∧ ∃ M F accV acc, Rep X.K (upd G D (.lst accV)) F H M ∧ IsDs X.K F acc accV ∧ Same F5 F ∧ lcL b1 t1 w (fun acc2 M4 => lc2L b t wi1 b1 t1 w vs1 (fun acc M2 => nwL acc M2 P) (dwipe ρ vs) g (items.drop (i + 1)) acc2 M4) (dwipe ρ3 vs1) g1 (items1.drop j) acc M,
          ⟨items1.length, Nat.zero_add _, M5, F5, accV, acc, R6, IsDs.mono le5 _ _ hacc4, Same.refl F5, h5⟩, ?_⟩
        rintro j kk1 H6 ⟨hj, M6, F6, accV6, acc6, R7, hacc6, le6, h6⟩
        cases q1 : items1[j]? with
        | none =>
          have hl1 : items1.length ≤ j := List.getElem?_eq_none_iff.mp q1
          rw [List.drop_eq_nil_of_le hl1] at h6
          obtain ⟨hgd1, h6⟩ := gd.of (show gd g1 M6 _ from h6)
          exact .inl ⟨(wk1 _ F6 H6 M6 le6 R7 hgd1 j).1 (by omega), M6, F6, accV6, acc6, R7, hacc6, le14.trans (le5.trans le6), h6⟩
        | some d1 =>
          obtain ⟨hl1, ed1⟩ := List.getElem?_eq_some_iff.mp q1
          rw [List.drop_eq_getElem_cons hl1, ed1] at h6
          obtain ⟨hgd1, h6⟩ := gd.of (show gd g1 M6 _ from h6)
          obtain ⟨hgo1, hy1⟩ := (wk1 _ F6 H6 M6 le6 R7 hgd1 j).2 d1 q1
          refine .inr ⟨hgo1, fun H => ∃ M F accV acc, Rep X.K (upd G D (.lst accV)) F H M ∧ IsDs X.K F acc accV ∧ Same F5 F ∧ lcL b1 t1 w (fun acc2 M4 => lc2L b t wi1 b1 t1 w vs1 (fun acc M2 => nwL acc M2 P) (dwipe ρ vs) g (items.drop (i + 1)) acc2 M4) (dwipe ρ3 vs1) g1 (items1.drop (j + 1)) acc M,
            fun H7 z => ⟨kk1 - 1, by omega, by omega, z⟩, fun x1 H7 y1 => ?_⟩
          obtain ⟨F7, le7, R8, i7⟩ := hy1 x1 H7 y1
          refine ⟨dwipe ρ3 vs1, M6, _, F7, d1, _, R8, (E3.mono (le4.trans (le5.trans (le6.trans le7)))).wipe vs1, i7, h6, fun ρ8 M8 F8 H8 σ8 h8 le8 R9 E8 w8 => ⟨?_, ?_⟩⟩
          · have e1 := wipe_more w8 hs1
            rw [e1]
            exact wipe_sub (fun i hi => hi)
          · refine ⟨ρ8, M8, _, F8, _, noX, R9, E8, h8, fun kk9 M9 F9 H9 h9 le9 R10 => ?_, no _ _ _⟩
            cases kk9 with
            | true =>
              dsimp only
              rw [if_pos rfl]
              refine ⟨ρ8, M9, _, F9, _, noX, R10, E8.mono le9, h9.1 rfl, fun y M10 F10 H10 v10 h10 le10 R11 i10 => ?_, no _ _ _⟩
              have hacc10 : IsDs X.K F10 acc6 accV6 := IsDs.mono (le7.trans (le8.trans (le9.trans le10))) _ _ hacc6
              refine ⟨accV6, R11.frm D _ upd_same, by rw [hacc10.length]; exact h10.1, ?_⟩
              exact ⟨M10, F10, accV6 ++ [v10], acc6 ++ [y], R11.asideSet, hacc10.append ⟨v10, [], rfl, i10, rfl⟩, le6.trans (le7.trans (le8.trans (le9.trans le10))), h10.2⟩
            | false =>
              dsimp only
              rw [if_neg Bool.false_ne_true]
              exact ⟨M9, F9, accV6, acc6, R10, IsDs.mono (le7.trans (le8.trans le9)) _ _ hacc6, le6.trans (le7.trans (le8.trans le9)), h9.2 rfl⟩
      | false =>
        dsimp only
        rw [if_neg Bool.false_ne_true]
        exact ⟨M4, F4, accV, acc, R5, hacc4, le14, h4.2 rfl⟩
theorem je_lc2 {W0 : WX} {vs1 : List Nat} (hc : X.calm = true) (hN : X.N.Nodup) (hi : JI X W tg iter wi) (ok : BlkOk X.N X.env.scope scope own) (hv : ∀ i ∈ vs1, i ∈ own.map (·.2)) (his : ∀ i ∈ is, i ∈ own.map (·.2)) (his1 : ∀ i ∈ is1, i ∈ vs1)
    (hg : ∀ (s : Shared) (H : Hp) (C : Addr) (cl : List (Str × Addr)) (fp : List Addr), JG (X.blk s H scope (compEnvC scope cl C X.env) fp) tg b is)
    (ht : ∀ (s : Shared) (H : Hp) (C : Addr) (cl : List (Str × Addr)) (fp : List Addr), JTs (X.blk s H scope (compEnvC scope cl C X.env) fp) W0 ifs t)
    (hi1 : ∀ (s : Shared) (H : Hp) (C : Addr) (cl : List (Str × Addr)) (fp : List Addr), JI (X.blk s H scope (compEnvC scope cl C X.env) fp) W0 tg1 iter1 wi1)
    (hg1 : ∀ (s : Shared) (H : Hp) (C : Addr) (cl : List (Str × Addr)) (fp : List Addr), JG (X.blk s H scope (compEnvC scope cl C X.env) fp) tg1 b1 is1)
    (ht1 : ∀ (s : Shared) (H : Hp) (C : Addr) (cl : List (Str × Addr)) (fp : List Addr), JTs (X.blk s H scope (compEnvC scope cl C X.env) fp) W0 ifs1 t1)
    (he : ∀ (s : Shared) (H : Hp) (C : Addr) (cl : List (Str × Addr)) (fp : List Addr), JE (X.blk s H scope (compEnvC scope cl C X.env) fp) W0 elt w) (hs : ∀ x, foldedSetIterable iter X.env x = pure x) (hs1 : ∀ env x, foldedSetIterable iter1 env x = pure x) :
    JE X W (.ListComp elt [⟨tg, iter, ifs, 0⟩, ⟨tg1, iter1, ifs1, 0⟩] scope pos) (wLc2 wi b t wi1 b1 t1 w (own.map (·.2)) vs1) :=
  PE.imp (pe_lc2 (g := lG X.K b is) (tt := lT X.K W0 t) (wi1 := lI X.K W0 wi1) (g1 := lG X.K b1 is1) (tt1 := lT X.K W0 t1) (te := lE X.K W0 w) hc hN hi ok hv hg ht hi1 hg1 ht1 he hs hs1) fun _ _ _ h => lc2_lift his his1 h
end
end Fs
set_option maxHeartbeats 4000000
/-! Fs16: the reading of an expression, by its form; it is kept. -/
namespace Fs
open PySem PySem.Spec PyProof.Rows L2

/-! ### side conditions -/
def plainBase : Expr → Bool
  | .Call (.Name _ _) [] [] _ => false
  | _ => true
theorem plainBase_ok {o : Expr} (h : plainBase o = true) (f : Str) (env : Env) (w : Sem Value) : attributeBase o f env w = w := by
  unfold attributeBase
  split
  · cases h
  · rfl
theorem mcall_eq {o : Expr} {m : Str} {apos pos : Pos} {args : List Expr} {env : Env} (hb : attributeBase o m env (eval o env) = eval o env) (hl : (apos.endLine == pos.line) = true)
    (hf : methodCallForm args.length (backTo pos (starEach args env)) (backToKw pos (keywordEach [] env)) = true) :
    eval (.Call (.Attribute o m apos) args [] pos) env = (do
      let ov ← eval o env
      standAt apos.atName
      let (f, first) ← holding [ov] (getMethod ov m (do return (← importBound o env).getD true))
      callWith pos f first (backTo pos (starEach args env)) (backToKw pos (keywordEach [] env))) := by
  show (do
    let ov ← attributeBase o m env (eval o env)
    standAt apos.atName
    methodCall o m apos pos env ov (args.length + 0) (backTo pos (starEach args env)) (backToKw pos (keywordEach [] env))) = _
  rw [hb]
  unfold methodCall calleeOf methodCallPos
  rw [show methodCallForm (args.length + 0) (backTo pos (starEach args env)) (backToKw pos (keywordEach [] env)) = true from hf, hl]
  rfl
theorem plainIx_ok : ∀ {b : Expr}, (match b with | .Slice .. => false | _ => true) = true → PlainIx b := by
  intro b h o i
  cases b <;> first | rfl | cases h
def isStar : Expr → Bool
  | .Starred .. => true
  | _ => false
theorem starE {e : Expr} {es : List Expr} {env : Env} (h : isStar e = false) : starEach (e :: es) env = (false, eval e env) :: starEach es env := by
  cases e <;> first | rfl | cases h
theorem starAny {pos : Pos} {env : Env} : ∀ {es : List Expr}, es.all (fun e => !isStar e) = true → (backTo pos (starEach es env)).any (·.1) = false
  | [], _ => rfl
  | e :: es, h => by
    simp only [List.all_cons, Bool.and_eq_true, Bool.not_eq_true'] at h
    rw [starE h.1]
    show (false || (backTo pos (starEach es env)).any (·.1)) = false
    rw [starAny h.2]; rfl
theorem foldS {e : Expr} (h : (match e with | .Set .. => false | _ => true) = true) (env : Env) (x : Value) : foldedSetIterable e env x = pure x := by
  cases e <;> first | rfl | cases h

theorem fewOk {pos : Pos} {env : Env} {es : List Expr} (h : es.all (fun e => !isStar e) = true) (hl : es.length < 30) : methodCallForm es.length (backTo pos (starEach es env)) (backToKw pos (keywordEach [] env)) = true := by
  have h1 : (backTo pos (starEach es env)).all (fun x => !x.1) = true := by
    rw [List.all_eq_true]
    intro x hx
    have := starAny (pos := pos) (env := env) h
    rw [List.any_eq_false] at this
    have := this x hx
    simpa using this
  unfold methodCallForm
  show ((backTo pos (starEach es env)).all (fun x => !x.1) && true && decide (es.length + 0 < 30)) = true
  rw [h1]
  simpa using hl
theorem mc_ok {X : Cx} {o : Expr} {m : Str} {apos cpos : Pos} {e : Expr} {es : List Expr} (hb : plainBase o = true) (hst : (e :: es).all (fun e => !isStar e) = true) (hl : (apos.endLine == cpos.line) = true) (hn : (e :: es).length < 30) : MC X o m apos e es cpos := by
  have h2 := hst
  simp only [List.all_cons, Bool.and_eq_true, Bool.not_eq_true'] at h2
  exact ⟨plainBase_ok hb _ _ _, fewOk hst hn, hl, starE h2.1, starAny h2.2⟩

/-! ### the context of a reading -/
structure Cc where
  N : List Str
  sc : Scope
  fnl : Str → Bool
  S : Sps
  gi : Str → Option Dt
  gl : Str → Bool
def Cc.kd (c : Cc) (x : Str) : Option NameKind := c.sc.names.lookup x
def ixOf : List Str → Str → Option Nat
  | [], _ => none
  | y :: r, x => if y = x then some 0 else (ixOf r x).map (· + 1)
theorem ixOf_ok : ∀ {N : List Str} {x : Str} {i : Nat}, ixOf N x = some i → N[i]? = some x
  | [], _, _, e => by cases e
  | y :: r, x, i, e => by
    unfold ixOf at e
    split at e
    · rename_i h; cases e; rw [h]; rfl
    · rw [Option.map_eq_some_iff] at e
      obtain ⟨j, e, rfl⟩ := e
      have z := ixOf_ok e
      simpa using z
/-- the built-in names that are asked for -/
def bltNames : List Str := ["int", "str", "bool", "tuple", "list", "set", "len", "abs", "max", "min", "sum", "all", "any", "sorted", "repr", "isinstance", "range", "zip"]
structure CtxOk (c : Cc) (X : Cx) (W : WX) (k : Nat) : Prop where
  N : X.N = c.N
  nd : X.N.Nodup
  sc : X.env.scope = c.sc
  calm : X.calm = true
  fn : ∀ x, c.fnl x = true → X.fn x = true
  sok : SOk X.prog X.w X.K X.mg X.base c.S k
  room : Room (k + 2) X.A
  tk : Takes X W
  gi : ∀ x d, c.gi x = some d → (∃ i t, d = .int i ∧ X.mg x = some (.int i t)) ∨ (∃ z t, d = .str z ∧ X.mg x = some (.str z t))
  gl : ∀ x, c.gl x = true → X.mg x = some (.ref (He.ga X.K x))
  bn : ∀ x ∈ bltNames, X.mg x = none
/-- inside a comprehension -/
def Cc.blk (c : Cc) (scope : Scope) : Cc := { c with sc := relS scope c.sc, fnl := fun x => scope.names.lookup x == some .cell }
theorem CtxOk.blk {c : Cc} {X : Cx} {W : WX} {k : Nat} (h : CtxOk c X W k) (scope : Scope) (s : Shared) (H : Hp) (C : Addr) (cl : List (Str × Addr)) (fp : List Addr) : CtxOk (c.blk scope) (X.blk s H scope (compEnvC scope cl C X.env) fp) (fun _ _ _ _ => False) k where
  N := h.N
  nd := h.nd
  sc := by
    show relabel scope X.env = relS scope c.sc
    rw [← h.sc]
    rfl
  calm := h.calm
  fn := fun _ z => z
  sok := h.sok
  room := h.room
  tk := L2.takes0
  gi := h.gi
  gl := h.gl
  bn := h.bn

/-! ### built-ins by name -/
theorem lookup_mem {β : Type} {x : Str} {d : β} : ∀ {l : List (Str × β)}, l.lookup x = some d → (x, d) ∈ l
  | [], e => by cases e
  | (y, b) :: r, e => by
    rw [List.lookup_cons] at e
    cases h : x == y with
    | true => rw [h] at e; cases e; rw [eq_of_beq h]; exact List.mem_cons_self ..
    | false => rw [h] at e; exact List.mem_cons_of_mem _ (lookup_mem e)
def biL (S : Sps) : List (Str × DCall) := [("len", one dLen), ("isinstance", dIsi S), ("all", one dAll), ("max", dMax), ("min", dMin), ("abs", one dAbs), ("int", one dInt), ("str", one dStr), ("tuple", one dTuple), ("list", one dList), ("repr", one dRepr), ("sum", one dSum), ("any", one dAny), ("sorted", one dSorted)]
def biO (S : Sps) (x : Str) : Option DCall := (biL S).lookup x
theorem bi_ok {X : Cx} {S : Sps} {k : Nat} {x : Str} {d : DCall} (hr : Room k X.A) (hc : X.calm = true) (hS : SOk X.prog X.w X.K X.mg X.base S k) (e : biO S x = some d) :
    x ∈ bltNames ∧ x ≠ "__name__" ∧ (x == ("__debug__" : Str)) = false ∧ ((∃ id, bootBuiltins x = some (.builtin id) ∧ CallB X (.builtin id) d) ∨ ∃ T, bootBuiltins x = some (.type T) ∧ CallB X (.type T) d) := by
  have m := lookup_mem e
  unfold biL at m
  rcases List.mem_cons.mp m with h | m
  · cases h; exact ⟨by decide, by decide, by decide, .inl ⟨"len", by decide +kernel, cb_len⟩⟩
  rcases List.mem_cons.mp m with h | m
  · cases h; exact ⟨by decide, by decide, by decide, .inl ⟨"isinstance", PyProof.Rows.boot_isinstance, cb_isi hS⟩⟩
  rcases List.mem_cons.mp m with h | m
  · cases h; exact ⟨by decide, by decide, by decide, .inl ⟨"all", PyProof.Rows.boot_all, cb_all hc⟩⟩
  rcases List.mem_cons.mp m with h | m
  · cases h; exact ⟨by decide, by decide, by decide, .inl ⟨"max", PyProof.Rows.boot_max, cb_max hc⟩⟩
  rcases List.mem_cons.mp m with h | m
  · cases h; exact ⟨by decide, by decide, by decide, .inl ⟨"min", PyProof.Rows.boot_min, cb_min hc⟩⟩
  rcases List.mem_cons.mp m with h | m
  · cases h; exact ⟨by decide, by decide, by decide, .inl ⟨"abs", PyProof.Rows.boot_abs, cb_abs⟩⟩
  rcases List.mem_cons.mp m with h | m
  · cases h; exact ⟨by decide, by decide, by decide, .inr ⟨"int", PyProof.Rows.boot_int, cb_int⟩⟩
  rcases List.mem_cons.mp m with h | m
  · cases h; exact ⟨by decide, by decide, by decide, .inr ⟨"str", PyProof.Rows.boot_str, cb_str⟩⟩
  rcases List.mem_cons.mp m with h | m
  · cases h; exact ⟨by decide, by decide, by decide, .inr ⟨"tuple", PyProof.Rows.boot_tuple, cb_tuple⟩⟩
  rcases List.mem_cons.mp m with h | m
  · cases h; exact ⟨by decide, by decide, by decide, .inr ⟨"list", PyProof.Rows.boot_list, cb_list⟩⟩
  rcases List.mem_cons.mp m with h | m
  · cases h; exact ⟨by decide, by decide, by decide, .inl ⟨"repr", PyProof.Rows.boot_repr, cb_repr hr⟩⟩
  rcases List.mem_cons.mp m with h | m
  · cases h; exact ⟨by decide, by decide, by decide, .inl ⟨"sum", PyProof.Rows.boot_sum, cb_sum hc⟩⟩
  rcases List.mem_cons.mp m with h | m
  · cases h; exact ⟨by decide, by decide, by decide, .inl ⟨"any", PyProof.Rows.boot_any, cb_any hc⟩⟩
  rcases List.mem_cons.mp m with h | m
  · cases h; exact ⟨by decide, by decide, by decide, .inl ⟨"sorted", PyProof.Rows.boot_sorted, cb_sorted⟩⟩
  cases m
/-- a built-in type as a value -/
def tyL : List (Str × String) := [("int", "int"), ("bool", "bool"), ("str", "str"), ("tuple", "tuple"), ("list", "list")]
def tyO (x : Str) : Option String := tyL.lookup x
theorem ty_ok {x : Str} {T : String} (e : tyO x = some T) : x ∈ bltNames ∧ x ≠ "__name__" ∧ (x == ("__debug__" : Str)) = false ∧ bootBuiltins x = some (.type T) := by
  have m := lookup_mem e
  unfold tyL at m
  rcases List.mem_cons.mp m with h | m
  · cases h; exact ⟨by decide, by decide, by decide, PyProof.Rows.boot_int⟩
  rcases List.mem_cons.mp m with h | m
  · cases h; exact ⟨by decide, by decide, by decide, PyProof.Rows.boot_bool⟩
  rcases List.mem_cons.mp m with h | m
  · cases h; exact ⟨by decide, by decide, by decide, PyProof.Rows.boot_str⟩
  rcases List.mem_cons.mp m with h | m
  · cases h; exact ⟨by decide, by decide, by decide, PyProof.Rows.boot_tuple⟩
  rcases List.mem_cons.mp m with h | m
  · cases h; exact ⟨by decide, by decide, by decide, PyProof.Rows.boot_list⟩
  cases m
theorem dbg_ok {x : Str} (h : x ≠ "__debug__") : (x == ("__debug__" : Str)) = false := by simpa using h
end Fs
set_option maxHeartbeats 4000000
/-! Fs17: readings of expressions by their form. -/
namespace Fs
open PySem PySem.Spec PyProof.Rows L2

/-! ### x[i], -x -/
def ixP : DOp := fun x y M P => match y with
  | .int i => oD (itD M x i) fun d => P d M
  | _ => False
def ixO (S : Sps) : DOpX := fun x y M P ex => match x with
  | .ins c _ => oS (S (.m c "__getitem__")) fun sp => sp [x, y] M P ex
  | _ => ixP x y M P
abbrev DUnX1 := Dt → Mem → DK → EX → Prop
def negO (S : Sps) : DUnX1 := fun x M P ex => match x with
  | .int i => P (.int (-i)) M
  | .ins c _ => oS (S (.m c "__neg__")) fun sp => sp [x] M P ex
  | _ => False
def wUnX (o : DUnX1) (wa : WE) : WE := fun ex ρ M P => wa ex ρ M fun x M1 => o x M1 P ex
section
variable {X : Cx} {W : WX} {S : Sps} {k : Nat} {a : Expr} {wa : WE} {pos : Pos}
theorem op_ixX (hS : SOk X.prog X.w X.K X.mg X.base S k) (hr : Room (k + 1) X.A) (tk : Takes X W) : IxX X W (ixO S) := by
  intro value slice pins s σ H G F M dx dy P ex x y v u Q hp I rx ry R ix iy ho hK hX
  have hp' : PlainIx slice := plainIx_ok (by cases slice <;> first | rfl | cases hp)
  have go : ixP dx dy M P → wpAny (model X.prog X.w) X.A (subscriptTail value slice v u) (EP X pins σ Q) X.xe s := fun q =>
    ixD_seq value slice pins s σ H x y v u Q I rx ry ⟨G, F, M, dx, dy, P, R, ix, iy, q, hK⟩ (hp' v u)
  cases dx with
  | ins c ds =>
    obtain ⟨sp, e, ho⟩ := oS.of ho
    obtain ⟨cf, hfn, hm, Fn⟩ := hS.m c _ sp e
    have ix0 := ix
    obtain ⟨b, dx, vs, rfl, hs, hd⟩ := ins_slt R ix
    obtain rfl : v = Value.ref b := rx
    obtain ⟨sl, od, _, J, _⟩ := SlX.slt_inst I hs
    obtain ⟨m, hF⟩ := I.fr
    have hsl : subscripted slice true (.ref b) u = runValue (.builtin "lifetime.subscript" ⟨[.ref b, u], []⟩) := by
      cases slice <;> first | rfl | cases hp
    refine PySem.W.sub_K hF I.ok.mod.kin J hm.at_ hfn hm.fn (wpAny_call ?_) hsl
    refine codeAny_mono (Fn X.A.in1 X.stack s H [.ref b, u] [.ref b, y] Q (fun cls d H' => W cls d σ H') hr.in1 I.env0.in1 (.cons rfl (.cons ry .nil)) ⟨G, F, [.ins c ds, dy], M, P, ex, R, ⟨_, _, rfl, ix0, _, _, rfl, iy, rfl⟩, ho, hK, hX⟩) fun r s' hq => ?_
    cases r with
    | error e => exact passAt tk σ pins H s e s' I hq
    | ok fl =>
      cases fl with
      | ret u => exact I.after hq
      | next => exact False.elim hq
      | brk => exact False.elim hq
      | cont => exact False.elim hq
  | _ => exact go ho
theorem je_neg (hS : SOk X.prog X.w X.K X.mg X.base S k) (hr : Room k X.A) (tk : Takes X W) (ha : JE X W a wa) : JE X W (.UnaryOp .USub a pos) (wUnX (negO S) wa) := by
  refine ⟨fun pins s σ H Q I h => ?_⟩
  obtain ⟨ρ, M, G, F, P, ex, R, E, h, hK, hX⟩ := h
  refine UnaryOp_ (thn (PE.run ha pins s σ H (fun v H1 => ∃ d M1 F1, Same F F1 ∧ Rep X.K G F1 H1 M1 ∧ IsD X.K F1 d v ∧ negO S d M1 P ex) I ?_) fun u s1 ⟨x, H1, I1, rx, d, M1, F1, le, R1, i1, h1⟩ => ?_)
  · exact ⟨ρ, M, G, F, _, ex, R, E, h, fun d M1 F1 H1 v h1 le1 R1 i1 => ⟨d, M1, F1, le1, R1, i1, h1⟩, hX⟩
  cases d with
  | int i =>
    cases (show x = _ from i1)
    exact un_neg pins s1 σ H1 _ u Q I1 rx ⟨i, rfl, hK _ M1 F1 H1 _ h1 le R1 rfl⟩
  | ins c ds =>
    obtain ⟨sp, e, h1⟩ := oS.of h1
    obtain ⟨cf, hfn, hm, Fn⟩ := hS.m c _ sp e
    have i0 := i1
    obtain ⟨b, dx, vs, rfl, hs, hd⟩ := ins_slt R1 i1
    obtain rfl : u = Value.ref b := rx
    obtain ⟨sl, od, _, J, _⟩ := SlX.slt_inst I1 hs
    obtain ⟨m, hF⟩ := I1.fr
    exact PySem.W.ksp_neg hF I1.ok.mod.kin J hm.at_ hm.fn (call_sp (clb_fn Fn) hr tk I1 (us := [.ref b]) (vs := [.ref b]) (.cons rfl .nil) R1 (ds := [.ins c ds]) ⟨_, [], rfl, i0, rfl⟩ h1 (hK.mono le) (hX.mono le))
  | _ => exact h1.elim
/-- a comparison as a test -/
theorem jt_cmpX {b : Expr} {wb : WE} {op : CmpOp} {o : DOpX} (ho : OpX X W (compareOp op) o) (ha : JE X W a wa) (hb : JE X W b wb) (hm : behindInMarks op b = false) : JT X W (.Compare a [op] [b] pos) (wTru (wOpX o wa wb)) := by
  refine ⟨fun pins s σ H Q I h => ?_⟩
  obtain ⟨Q', h1, h2⟩ := lTru h
  refine wpAny_isTrue_Compare1 (two_d ha hb I h1 fun s H G F M dx dy P ex x y v u I rx ry R ix iy q hK hX => thn (ho pins s σ H G F M dx dy P ex x y v u Q' I rx ry R ix iy q hK hX) fun c s3 ⟨z, H3, I3, r3, q3⟩ => tru_ok pins s3 σ H3 z c Q I3 r3 (h2 _ _ q3)) hm
end
end Fs
set_option maxHeartbeats 4000000
/-! Fz0: the next item of a zip whose last tuple was kept. -/
namespace FZ
open PySem PySem.Spec PyProof.Rows

abbrev ZOut (h : Heap) (z TI TO a : Addr) (f : Bool) : Prop :=
  h.get? z = some { cls := .type "zip", dict := none, data := .fields #[rawInt a, .bool f, .bool false, .ref TI, .ref TO], slots := #[] }
section
variable {prog : Program} {w : World} {A : Around} {E : Value → Shared → Prop} {s : Shared} {z TI TO i1 i2 a : Addr} {f : Bool} {oa : Obj} {fp1 fp2 : List Addr} {n1 n2 i : Nat} {P1 P2 : Nat → Value → Prop} {St1 St2 : Nat → Heap → Prop} {x1 x2 : Value}
/-- not free: the flag is set -/
theorem out_free {Q : Bool → Shared → Prop} (hz : ZOut s.heap z TI TO a f) (ha : s.heap.get? a = some oa) (h : ∀ h', ZOut h' z TI TO a true → Heap.SameBut z s.heap h' → Q false { s with heap := h' }) :
    wpAny (model prog w) A (Builtin.SmallTypes.ownedTupleIsFree (.ref z)) Q E s := by
  obtain ⟨hp, g, d, tk, os⟩ := s
  unfold Builtin.SmallTypes.ownedTupleIsFree
  refine wpAny_bind (wpAny_field hz rfl (x := rawInt a) rfl ?_)
  show wpAny _ _ (loadIfAlive ((a : Int).toNat) >>= _) _ _ _
  rw [Int.toNat_natCast]
  refine wpAny_bind (PySem.W.kdx_alive ha ?_)
  simp only [Option.isNone_some, Bool.false_eq_true, if_false]
  refine wpAny_bind (wpAny_field hz rfl (x := .bool f) rfl ?_)
  cases f with
  | true =>
    rw [if_neg (show ¬ ((Value.bool true != Value.bool true) = true) from Bool.false_ne_true)]
    exact wpAny_pure (h hp hz (Heap.SameBut.refl _ _))
  | false =>
    rw [if_pos (show (Value.bool false != Value.bool true) = true from rfl)]
    refine wpAny_bind (wpAny_setField_rec hz (by simp) fun g0 hz0 hs0 => ?_)
    exact wpAny_pure (h g0 hz0 hs0)
theorem out_item {Q : Value → Shared → Prop} (S : ZipSep2 z TI TO i1 i2 fp1 fp2) (D1 : Draws prog w A i1 fp1 n1 P1 St1) (D2 : Draws prog w A i2 fp2 n2 P2 St2)
    (hz : ZOut s.heap z TI TO a f) (ha : s.heap.get? a = some oa) (haz : a ≠ z) (hTI : IsTupOf2 s.heap TI (.ref i1) (.ref i2)) (st1 : St1 i s.heap) (st2 : St2 i s.heap) (lt1 : i < n1) (lt2 : i < n2)
    (hQ : ∀ x1 x2 h' tk, P1 i x1 → P2 i x2 → ZOut h' z TI TO a true → St1 (i + 1) h' → St2 (i + 1) h' → IsTupOf2 h' s.heap.objs.size x1 x2 → h'.objs.size = s.heap.objs.size + 1 →
      (∀ c o, c ≠ z → c ≠ i1 → c ≠ i2 → s.heap.get? c = some o → h'.get? c = some o) → Q (.ref s.heap.objs.size) { s with heap := h', toks := tk }) :
    wpAny (model prog w) A (Builtin.«zip.__next__» ⟨[.ref z], []⟩) (fun fin s' => ∃ v, fin = .done (.ret v) ∧ Q v s') E s := by
  obtain ⟨hp, g, d, tk0, os⟩ := s
  show wpAny _ _ (field (.ref z) 2 >>= _) _ _ _
  refine wpAny_bind (wpAny_field hz rfl (x := .bool false) rfl ?_)
  show wpAny _ _ (field (.ref z) 3 >>= _) _ _ _
  refine wpAny_bind (wpAny_field hz rfl (x := .ref TI) rfl ?_)
  refine wpAny_bind (wpAny_seqItems hTI rfl ?_)
  show wpAny _ _ (Builtin.SmallTypes.ownedTupleIsFree (.ref z) >>= _) _ _ _
  refine wpAny_bind (out_free hz ha fun g0 hz0 hs0 => ?_)
  replace hs0 : Heap.SameBut z hp g0 := hs0
  simp only [Bool.false_eq_true, if_false]
  refine wpAny_bind ?_
  simp only [List.forIn_toArray, List.forIn_cons, List.forIn_nil]
  refine wpAny_bind (wpAny_bind (wpAny_holding ?_))
  show wpAny _ _ (Builtin.SmallTypes.nextOf (.ref i1) >>= _) _ _ ⟨g0, g, d, tk0, os⟩
  refine wpAny_bind (D1.item i _ _ _ lt1 (D1.over st1 hs0 S.zf1) fun x1 p1 tk1 hx1 sn1 hp1 => wpAny_pure (wpAny_pure ?_))
  replace hp1 : Heap.SameBut i1 g0 p1 := hp1
  dsimp only
  refine wpAny_bind (wpAny_bind (wpAny_holding ?_))
  show wpAny _ _ (Builtin.SmallTypes.nextOf (.ref i2) >>= _) _ _ ⟨p1, g, d, tk1, os⟩
  refine wpAny_bind (D2.item i _ _ _ lt2 (D2.over (D2.over st2 hs0 S.zf2) hp1 S.sep1_2) fun x2 p2 tk2 hx2 sn2 hp2 => wpAny_pure (wpAny_pure (wpAny_pure ?_)))
  replace hp2 : Heap.SameBut i2 p1 p2 := hp2
  have e0 : hp.objs.size = p2.objs.size := by rw [hp2.1, hp1.1, hs0.1]
  have kp : ∀ c o, c ≠ z → c ≠ i1 → c ≠ i2 → hp.get? c = some o → p2.get? c = some o := fun c o cz c1 c2 e => hp2.extBut _ _ c2 (hp1.extBut _ _ c1 (hs0.extBut _ _ cz e))
  have hz2 : ZOut p2 z TI TO a true := hp2.extBut _ _ S.zi2 (hp1.extBut _ _ S.zi1 hz0)
  refine wpAny_bind (wpAny_newTuple (hsz := by show 2 ≤ sizeLine; decide) (wpAny_pure ⟨_, rfl, ?_⟩))
  show Q (.ref p2.objs.size) ⟨p2.push { cls := .type "tuple", data := .seq #[x1, x2] }, g, d, tk2, os⟩
  rw [← e0]
  refine hQ x1 x2 _ _ hx1 hx2 (Heap.get?_push_of_some _ hz2) (D1.frame _ _ _ (D1.over sn1 hp2 S.sep2_1) fun b _ o e => Heap.get?_push_of_some _ e) (D2.frame _ _ _ sn2 fun b _ o e => Heap.get?_push_of_some _ e) ?_ ?_ fun c o cz c1 c2 e => Heap.get?_push_of_some _ (kp c o cz c1 c2 e)
  · show (p2.push _).get? hp.objs.size = _
    rw [e0]
    exact Heap.get?_push_size _ rfl
  · show (p2.push _).objs.size = hp.objs.size + 1
    rw [Heap.size_push, e0]
theorem out_end {Q : Fin → Shared → Prop} (S : ZipSep2 z TI TO i1 i2 fp1 fp2) (D1 : Draws prog w A i1 fp1 n1 P1 St1) (D2 : Draws prog w A i2 fp2 n2 P2 St2)
    (hz : ZOut s.heap z TI TO a f) (ha : s.heap.get? a = some oa) (hTI : IsTupOf2 s.heap TI (.ref i1) (.ref i2)) (st1 : St1 i s.heap) (st2 : St2 i s.heap) (le1 : i ≤ n1) (le2 : i ≤ n2) (en : i = n1 ∨ i = n2)
    (hE : ∀ h' tk e, (∀ c o, c ≠ z → c ≠ i1 → c ≠ i2 → s.heap.get? c = some o → h'.get? c = some o) → (∃ o, h'.get? e = some o ∧ o.cls = .type "StopIteration") → E (.ref e) { s with heap := h', toks := tk }) :
    wpAny (model prog w) A (Builtin.«zip.__next__» ⟨[.ref z], []⟩) Q E s := by
  obtain ⟨hp, g, d, tk0, os⟩ := s
  show wpAny _ _ (field (.ref z) 2 >>= _) _ _ _
  refine wpAny_bind (wpAny_field hz rfl (x := .bool false) rfl ?_)
  show wpAny _ _ (field (.ref z) 3 >>= _) _ _ _
  refine wpAny_bind (wpAny_field hz rfl (x := .ref TI) rfl ?_)
  refine wpAny_bind (wpAny_seqItems hTI rfl ?_)
  show wpAny _ _ (Builtin.SmallTypes.ownedTupleIsFree (.ref z) >>= _) _ _ _
  refine wpAny_bind (out_free hz ha fun g0 hz0 hs0 => ?_)
  replace hs0 : Heap.SameBut z hp g0 := hs0
  simp only [Bool.false_eq_true, if_false]
  refine wpAny_bind ?_
  simp only [List.forIn_toArray, List.forIn_cons, List.forIn_nil]
  refine wpAny_bind (wpAny_bind (wpAny_holding ?_))
  show wpAny _ _ (Builtin.SmallTypes.nextOf (.ref i1) >>= _) _ _ ⟨g0, g, d, tk0, os⟩
  by_cases lt1 : i < n1
  · have hi2 : i = n2 := by omega
    refine wpAny_bind (D1.item i _ _ _ lt1 (D1.over st1 hs0 S.zf1) fun x1 p1 tk1 hx1 sn1 hp1 => wpAny_pure (wpAny_pure ?_))
    replace hp1 : Heap.SameBut i1 g0 p1 := hp1
    dsimp only
    refine wpAny_bind (wpAny_bind (wpAny_holding ?_))
    show wpAny _ _ (Builtin.SmallTypes.nextOf (.ref i2) >>= _) _ _ ⟨p1, g, d, tk1, os⟩
    refine wpAny_bind (D2.done ⟨p1, g, d, tk1, os⟩ _ _ (by rw [← hi2]; exact D2.over (D2.over st2 hs0 S.zf2) hp1 S.sep1_2) fun q e hq he => ?_)
    exact hE q tk1 e (fun c o cz c1 c2 x => hq _ _ c2 (hp1.extBut _ _ c1 (hs0.extBut _ _ cz x))) he
  · have hi1 : i = n1 := by omega
    refine wpAny_bind (D1.done ⟨g0, g, d, tk0, os⟩ _ _ (by rw [← hi1]; exact D1.over st1 hs0 S.zf1) fun q e hq he => ?_)
    exact hE q tk0 e (fun c o cz c1 c2 x => hq _ _ c1 (hs0.extBut _ _ cz x)) he

/-- what a zip over lists or tuples is, behind some turns whose tuples were kept -/
def ZSt (h : Heap) (z TI TO i1 i2 S : Addr) (i : Nat) : Prop :=
  IsTupOf2 h TI (.ref i1) (.ref i2) ∧ ((i = 0 ∧ IsZip h z TI TO .none ∧ ∃ x1 x2, IsTupOf2 h TO x1 x2) ∨ ∃ a f oa, ZOut h z TI TO a f ∧ h.get? a = some oa ∧ a ≠ z ∧ a ≠ i1 ∧ a ≠ i2 ∧ a ≠ S)
theorem zst_item {S : Addr} {Q : Option Value → Shared → Prop} (hS : S < s.heap.objs.size) (Z : ZipSep2 z TI TO i1 i2 fp1 fp2) (D1 : Draws prog w A.in1 i1 fp1 n1 P1 St1) (D2 : Draws prog w A.in1 i2 fp2 n2 P2 St2)
    (hz : ZSt s.heap z TI TO i1 i2 S i) (st1 : St1 i s.heap) (st2 : St2 i s.heap) (lt1 : i < n1) (lt2 : i < n2)
    (hQ : ∀ x1 x2 h' tk, P1 i x1 → P2 i x2 → ZSt h' z TI TO i1 i2 S (i + 1) → St1 (i + 1) h' → St2 (i + 1) h' → IsTupOf2 h' s.heap.objs.size x1 x2 → h'.objs.size = s.heap.objs.size + 1 →
      (∀ c o, c ≠ z → c ≠ TO → c ≠ i1 → c ≠ i2 → s.heap.get? c = some o → h'.get? c = some o) → Q (some (.ref s.heap.objs.size)) { s with heap := h', toks := tk }) :
    wpAny (model prog w) A (pyNext (.ref z)) Q E s := by
  obtain ⟨hTI, hz⟩ := hz
  have gt : ∀ {b o}, s.heap.get? b = some o → s.heap.objs.size ≠ b := fun e => Nat.ne_of_gt (Heap.lt_size e)
  have g1 : s.heap.objs.size ≠ i1 := by obtain ⟨_, e⟩ := D1.live _ _ st1; exact gt e
  have g2 : s.heap.objs.size ≠ i2 := by obtain ⟨_, e⟩ := D2.live _ _ st2; exact gt e
  rcases hz with ⟨_, hz, y1, y2, hTO⟩ | ⟨a, f, oa, hz, ha, hai, ha1, ha2, haS⟩
  · refine wpAny_pyNext_zipD2_item Z D1 D2 hz hTI hTO st1 st2 lt1 lt2 fun x1 x2 h' tk q1 q2 z' _ t1 t2 hT hs hk => ?_
    exact hQ x1 x2 h' tk q1 q2 ⟨hk _ _ Z.TIz Z.TITO Z.TIi1 Z.TIi2 hTI, .inr ⟨_, false, _, z', hT, gt hz, g1, g2, Nat.ne_of_gt hS⟩⟩ t1 t2 hT hs hk
  · have hT : s.TypeIs (.ref z) "zip" := ⟨_, hz, rfl⟩
    unfold pyNext
    refine wpAny_bind (wpAny_attempt (wpAny_callSpecial?_slot (name := Str.ofString "__next__") hT F.slot_zip_next
      (wpAny_call_entry F.slot_zip_next hT F.entry_zip_next
        (out_item Z D1 D2 hz ha hai hTI st1 st2 lt1 lt2 fun x1 x2 h' tk q1 q2 z' t1 t2 hT' hs hk => wpAny_pure
          (hQ x1 x2 h' tk q1 q2 ⟨hk _ _ Z.TIz Z.TIi1 Z.TIi2 hTI, .inr ⟨a, true, oa, z', hk _ _ hai ha1 ha2 ha, hai, ha1, ha2, haS⟩⟩ t1 t2 hT' hs fun c o cz _ c1 c2 e => hk c o cz c1 c2 e)) (F.args_zip_next_1 _))))
theorem zst_end {S : Addr} {Q : Option Value → Shared → Prop} (Z : ZipSep2 z TI TO i1 i2 fp1 fp2) (D1 : Draws prog w A.in1 i1 fp1 n1 P1 St1) (D2 : Draws prog w A.in1 i2 fp2 n2 P2 St2)
    (hz : ZSt s.heap z TI TO i1 i2 S i) (st1 : St1 i s.heap) (st2 : St2 i s.heap) (le1 : i ≤ n1) (le2 : i ≤ n2) (en : i = n1 ∨ i = n2)
    (hQ : ∀ h' tk, (∀ c o, c ≠ z → c ≠ TO → c ≠ i1 → c ≠ i2 → s.heap.get? c = some o → h'.get? c = some o) → Q none { s with heap := h', toks := tk }) : wpAny (model prog w) A (pyNext (.ref z)) Q E s := by
  obtain ⟨hTI, hz⟩ := hz
  rcases hz with ⟨_, hz, y1, y2, hTO⟩ | ⟨a, f, oa, hz, ha, hai, ha1, ha2, haS⟩
  · exact wpAny_pyNext_zipD2_end Z D1 D2 hz hTI hTO st1 st2 le1 le2 en hQ
  · have hT : s.TypeIs (.ref z) "zip" := ⟨_, hz, rfl⟩
    unfold pyNext
    refine wpAny_bind (wpAny_attempt (wpAny_callSpecial?_slot (name := Str.ofString "__next__") hT F.slot_zip_next
      (wpAny_call_entry F.slot_zip_next hT F.entry_zip_next (out_end Z D1 D2 hz ha hTI st1 st2 le1 le2 en fun h' tk e hk he => ?_) (F.args_zip_next_1 _))))
    obtain ⟨o, ho, hc⟩ := he
    refine wpAny_bind (wpAny_isInstance (T := "StopIteration") (b := true) ⟨o, ho, hc⟩ isSubtype_stop ?_)
    exact wpAny_pure (hQ _ _ fun c o cz _ c1 c2 e => hk c o cz c1 c2 e)
end
/-- the tuples that were made, in their sequence -/
structure ZG (P1 P2 : Nat → Value → Prop) (lo : Addr) (h : Heap) (as : List Addr) : Prop where
  rise : as.Pairwise (· < ·)
  above : ∀ a ∈ as, lo < a
  pairs : ∀ (j : Nat) (a : Addr), as[j]? = some a → ∃ x1 x2, P1 j x1 ∧ P2 j x2 ∧ IsTupOf2 h a x1 x2
theorem ZG.there {P1 P2 : Nat → Value → Prop} {lo : Addr} {h : Heap} {as : List Addr} (g : ZG P1 P2 lo h as) {a : Addr} (ha : a ∈ as) : a < h.objs.size := by
  obtain ⟨j, hj⟩ := List.mem_iff_getElem?.mp ha
  obtain ⟨_, _, _, _, e⟩ := g.pairs j a hj
  exact Heap.lt_size e
section
variable {prog : Program} {w : World} {A : Around} {s : Shared} {R : Result → Shared → Prop} {S z TI TO i1 i2 : Addr} {fp1 fp2 : List Addr} {n1 n2 : Nat} {P1 P2 : Nat → Value → Prop} {St1 St2 : Nat → Heap → Prop}
theorem z_loop (Z : ZipSep2 z TI TO i1 i2 fp1 fp2) (D1 : Draws prog w A.in1.in1 i1 fp1 n1 P1 St1) (D2 : Draws prog w A.in1.in1 i2 fp2 n2 P2 St2) (zS : z < S) (TOS : TO < S) (TIS : TI < S) (f1 : ∀ b ∈ fp1, b < S) (f2 : ∀ b ∈ fp2, b < S)
    (hn : min n1 n2 ≤ sizeLine) (res : Value) {h₁ : Heap}
    (hR : ∀ h' tk acc c as, (∀ b o, b ≠ S → b ≠ z → b ≠ TO → b ≠ i1 → b ≠ i2 → h₁.get? b = some o → h'.get? b = some o) → h'.get? S = some { cls := .type "list", dict := none, data := .seq acc c, slots := #[] } → as.length = min n1 n2 → ZG P1 P2 S h' as →
      acc.toList = as.map Value.ref → R (.ok (.ret res)) { s with heap := h', toks := tk }) :
    ∀ (k i : Nat) (h : Heap) (tk c : Nat) (acc : Array Value) (as : List Addr), min n1 n2 - i = k → i ≤ min n1 n2 → ZSt h z TI TO i1 i2 S i → St1 i h → St2 i h → (∀ b o, b ≠ S → b ≠ z → b ≠ TO → b ≠ i1 → b ≠ i2 → h₁.get? b = some o → h.get? b = some o) →
      h.get? S = some { cls := .type "list", dict := none, data := .seq acc c, slots := #[] } → acc.toList = as.map Value.ref → as.length = i → ZG P1 P2 S h as →
      codeAny (model prog w) A (.builtin "list.extend.loop" ⟨[.ref S, .ref z, res], []⟩) R { s with heap := h, toks := tk } := by
  have lt1 : i1 < S := f1 _ Z.mem1
  have lt2 : i2 < S := f2 _ Z.mem2
  have ne : ∀ {b : Addr}, b < S → S ≠ b := fun h => Nat.ne_of_gt h
  intro k
  induction k with
  | zero =>
    intro i h tk c acc as hk hi hst s1 s2 hkeep hS hacc hal hG
    refine codeAny_builtin PySem.F.entry_extend_loop ?_
    rw [Around.under_plainId PySem.F.plain_extend_loop _]
    show wpAny _ A.in1 (pyNext (.ref z) >>= _) _ _ _
    refine wpAny_bind (zst_end (s := { s with heap := h, toks := tk }) (A := A.in1) Z D1 D2 hst s1 s2 (by omega) (by omega) (by omega) fun h' tk' he => ?_)
    replace he : ∀ c o, c ≠ z → c ≠ TO → c ≠ i1 → c ≠ i2 → h.get? c = some o → h'.get? c = some o := he
    refine wpAny_pure (hR h' tk' acc c as (fun b o b0 b1 b2 b3 b4 e => he b o b1 b2 b3 b4 (hkeep b o b0 b1 b2 b3 b4 e)) (he S _ (ne zS) (ne TOS) (ne lt1) (ne lt2) hS) (by omega) ⟨hG.rise, hG.above, fun j a hj => ?_⟩ hacc)
    obtain ⟨x1, x2, e1, e2, e3⟩ := hG.pairs j a hj
    have ha := hG.above a (List.mem_of_getElem? hj)
    exact ⟨x1, x2, e1, e2, he a _ (Nat.ne_of_gt (Nat.lt_trans zS ha)) (Nat.ne_of_gt (Nat.lt_trans TOS ha)) (Nat.ne_of_gt (Nat.lt_trans lt1 ha)) (Nat.ne_of_gt (Nat.lt_trans lt2 ha)) e3⟩
  | succ k ih =>
    intro i h tk c acc as hk hi hst s1 s2 hkeep hS hacc hal hG
    have hsz : acc.size = i := by rw [← Array.length_toList, hacc, List.length_map, hal]
    have hSl : S < h.objs.size := Heap.lt_size hS
    refine codeAny_builtin PySem.F.entry_extend_loop ?_
    rw [Around.under_plainId PySem.F.plain_extend_loop _]
    show wpAny _ A.in1 (pyNext (.ref z) >>= _) _ _ _
    refine wpAny_bind (zst_item (s := { s with heap := h, toks := tk }) (A := A.in1) hSl Z D1 D2 hst s1 s2 (by omega) (by omega) fun x1 x2 h' tk' q1 q2 z' t1 t2 hT hz hkp => ?_)
    replace hT : IsTupOf2 h' h.objs.size x1 x2 := hT
    replace hkp : ∀ c o, c ≠ z → c ≠ TO → c ≠ i1 → c ≠ i2 → h.get? c = some o → h'.get? c = some o := hkp
    have hS' := hkp S _ (ne zS) (ne TOS) (ne lt1) (ne lt2) hS
    have up : ∀ b o, b ≠ S → h'.get? b = some o → (h'.update S (Obj.mapSeq (·.push (Value.ref h.objs.size)))).get? b = some o := fun b o hb e => (Heap.get?_update_other _ _ (Ne.symm hb)).trans e
    show wpAny _ A.in1 (updateSeq S (·.push (Value.ref h.objs.size)) >>= _) _ _ _
    refine wpAny_bind ?_
    refine wpAny_updateSeq hS' rfl (wpAny_pure ⟨plainId_quiet PySem.F.plain_extend_loop _, ih (i + 1) _ tk' _ (acc.push (Value.ref h.objs.size)) (as ++ [h.objs.size]) (by omega) (by omega) ⟨up _ _ (ne TIS).symm z'.1, ?_⟩
      (D1.frame _ _ _ t1 fun b hb o e => up b o (ne (f1 b hb)).symm e) (D2.frame _ _ _ t2 fun b hb o e => up b o (ne (f2 b hb)).symm e)
      (fun b o b0 b1 b2 b3 b4 e => up b o b0 (hkp b o b1 b2 b3 b4 (hkeep b o b0 b1 b2 b3 b4 e))) (Heap.get?_update_self _ hS' rfl) (by rw [Array.toList_push, hacc, List.map_append]; rfl) (by rw [List.length_append, hal]; rfl) ⟨?_, ?_, ?_⟩⟩) (by rw [hsz]; omega) (by show (acc.push (Value.ref h.objs.size)).size ≤ sizeLine + 1; rw [Array.size_push, hsz]; omega)
    · rcases z'.2 with ⟨e, _⟩ | ⟨a, f, oa, y1, y2, y3, y4, y5, y6⟩
      · exact absurd e (Nat.succ_ne_zero _)
      · exact .inr ⟨a, f, oa, up _ _ (ne zS).symm y1, up _ _ y6 y2, y3, y4, y5, y6⟩
    · refine List.pairwise_append.mpr ⟨hG.rise, List.pairwise_singleton _ _, fun a ha b hb => ?_⟩
      rw [List.mem_singleton.mp hb]
      exact hG.there ha
    · intro a ha
      rcases List.mem_append.mp ha with ha | ha
      · exact hG.above a ha
      · rw [List.mem_singleton.mp ha]; exact hSl
    · intro j b hj
      rcases Nat.lt_trichotomy j as.length with y | y | y
      · rw [List.getElem?_append_left y] at hj
        obtain ⟨u1, u2, e1, e2, e3⟩ := hG.pairs j b hj
        have hb := hG.above b (List.mem_of_getElem? hj)
        exact ⟨u1, u2, e1, e2, up b _ (Nat.ne_of_gt hb) (hkp b _ (Nat.ne_of_gt (Nat.lt_trans zS hb)) (Nat.ne_of_gt (Nat.lt_trans TOS hb)) (Nat.ne_of_gt (Nat.lt_trans lt1 hb)) (Nat.ne_of_gt (Nat.lt_trans lt2 hb)) e3)⟩
      · subst y
        obtain rfl : h.objs.size = b := by simpa using hj
        exact ⟨x1, x2, by rw [hal]; exact q1, by rw [hal]; exact q2, up _ _ (Nat.ne_of_gt hSl) hT⟩
      · have hn : (as ++ [h.objs.size])[j]? = none := List.getElem?_eq_none (by rw [List.length_append, List.length_singleton]; omega)
        rw [hn] at hj; cases hj
end
theorem zip_nolen : typeLookup (.type "zip") "__len__" = pure none := by rw [typeLookup_type, builtinLookup_eq_fast]; kernel_rfl
theorem zip_nohint : typeLookup (.type "zip") "__length_hint__" = pure none := by rw [typeLookup_type, builtinLookup_eq_fast]; kernel_rfl
section
variable {prog : Program} {w : World} {A : Around} {E : Value → Shared → Prop} {s : Shared} {z TI TO i1 i2 : Addr} {fp1 fp2 : List Addr} {n1 n2 : Nat} {P1 P2 : Nat → Value → Prop} {St1 St2 : Nat → Heap → Prop} {x1 x2 : Value}
theorem z_hint (hT : s.TypeIs (.ref z) "zip") {Q : Bool → Shared → Prop} (h : Q true s) : wpAny (model prog w) A (Builtin.List.listLengthHint (.ref z)) Q E s := by
  unfold Builtin.List.listLengthHint
  refine wpAny_bind (wpAny_specialOf hT zip_nolen ?_)
  show wpAny _ A (specialOf (Value.ref z) (Str.ofString "__length_hint__") >>= _) _ _ _
  refine wpAny_bind (wpAny_specialOf hT zip_nohint ?_)
  exact wpAny_pure h
theorem z_call {Q : Value → Shared → Prop} (Z : ZipSep2 z TI TO i1 i2 fp1 fp2) (D1 : Draws prog w A.in1.in1.in1 i1 fp1 n1 P1 St1) (D2 : Draws prog w A.in1.in1.in1 i2 fp2 n2 P2 St2) (hz : IsZip s.heap z TI TO .none) (hTI : IsTupOf2 s.heap TI (.ref i1) (.ref i2)) (hTO : IsTupOf2 s.heap TO x1 x2)
    (st1 : St1 0 s.heap) (st2 : St2 0 s.heap) (f1 : ∀ b ∈ fp1, b < s.heap.objs.size) (f2 : ∀ b ∈ fp2, b < s.heap.objs.size) (hn : min n1 n2 ≤ sizeLine)
    (hQ : ∀ h' tk acc c as, (∀ b o, b ≠ z → b ≠ TO → b ≠ i1 → b ≠ i2 → s.heap.get? b = some o → h'.get? b = some o) → h'.get? s.heap.objs.size = some { cls := .type "list", dict := none, data := .seq acc c, slots := #[] } → as.length = min n1 n2 → ZG P1 P2 s.heap.objs.size h' as →
      acc.toList = as.map Value.ref → Q (.ref s.heap.objs.size) { s with heap := h', toks := tk }) :
    wpAny (model prog w) A (call (.type "list") [.ref z]) Q E s := by
  refine callType_codes (Q₁ := fun obj t => obj = .ref s.heap.objs.size ∧ t = { s with heap := s.heap.push { cls := .type "list", data := .seq #[] } }) PySem.F.called_list (PySem.F.typeCall_list_1 _) PySem.F.entry_list_init
    (code_list_new _ ⟨rfl, rfl⟩) fun obj t ht => ?_
  obtain ⟨rfl, rfl⟩ := ht
  have lz : z < s.heap.objs.size := Heap.lt_size hz
  have lTI : TI < s.heap.objs.size := Heap.lt_size hTI
  have lTO : TO < s.heap.objs.size := Heap.lt_size hTO
  have hS : (s.heap.push { cls := .type "list", data := .seq #[] }).get? s.heap.objs.size = some { cls := .type "list", data := .seq #[] } := Heap.get?_push_size _ rfl
  refine ⟨⟨_, hS, rfl⟩, PySem.F.args_list_init_2 _ _, ?_⟩
  show wpAny _ _ (do let old ← Builtin.List.listItems (.ref s.heap.objs.size); Builtin.List.listUpdate (.ref s.heap.objs.size) (fun _ => #[]); letGo old.toList.reverse; Builtin.List.listExtendWith (.ref s.heap.objs.size) (.ref z) .none) _ _ _
  refine wpAny_bind ?_
  unfold Builtin.List.listItems
  refine wpAny_bind (wpAny_seqItems hS rfl (wpAny_pure ?_))
  show wpAny _ _ (updateSeq s.heap.objs.size (fun _ => #[]) >>= fun _ => letGo (#[] : Array Value).toList.reverse >>= fun _ => Builtin.List.listExtendWith (.ref s.heap.objs.size) (.ref z) .none) _ _ _
  refine wpAny_bind (wpAny_updateSeq hS rfl ?_)
  have hS2 := Heap.get?_update_self (Obj.mapSeq (fun _ => (#[] : Array Value))) hS rfl
  have o2 : ∀ b o, s.heap.get? b = some o → ((s.heap.push { cls := .type "list", data := .seq #[] }).update s.heap.objs.size (Obj.mapSeq (fun _ => (#[] : Array Value)))).get? b = some o :=
    fun b o e => (Heap.get?_update_other _ _ (Nat.ne_of_gt (Heap.lt_size e))).trans (Heap.get?_push_of_some _ e)
  refine wpAny_bind (wpAny_letGo ?_)
  generalize (s.heap.push { cls := .type "list", data := .seq #[] }).update s.heap.objs.size (Obj.mapSeq (fun _ => (#[] : Array Value))) = h2 at hS2 o2
  have key : ∀ (h : Heap) (c tk : Nat), (∀ b o, s.heap.get? b = some o → h.get? b = some o) → h.get? s.heap.objs.size = some { cls := .type "list", data := .seq #[] c } →
      codeAny (model prog w) A.in1 (.builtin "list.extend.loop" ⟨[.ref s.heap.objs.size, .ref z, .none], []⟩) (wants (fun r s₂ => r = .none ∧ Q (.ref s.heap.objs.size) s₂) E) { s with heap := h, toks := tk } := fun h c tk hk hs => by
    refine z_loop (s := s) (h₁ := s.heap) Z D1 D2 lz lTO lTI f1 f2 hn .none (fun h' tk' acc c' as hk' hS' hl hG hacc => ?_)
      (min n1 n2) 0 h tk c #[] [] (Nat.sub_zero _) (Nat.zero_le _) ⟨hk _ _ hTI, .inl ⟨rfl, hk _ _ hz, _, _, hk _ _ hTO⟩⟩ (D1.frame _ _ _ st1 fun b _ o e => hk b o e) (D2.frame _ _ _ st2 fun b _ o e => hk b o e) (fun b o _ _ _ _ _ e => hk b o e) hs rfl rfl
      ⟨List.Pairwise.nil, (fun _ ha => nomatch ha), (fun j a hj => by simp at hj)⟩
    exact ⟨rfl, hQ h' tk' acc c' as (fun b o b1 b2 b3 b4 e => hk' b o (Nat.ne_of_lt (Heap.lt_size e)) b1 b2 b3 b4 e) hS' hl hG hacc⟩
  have hT : ∀ (h : Heap) tk, (∀ b o, s.heap.get? b = some o → h.get? b = some o) → Shared.TypeIs { s with heap := h, toks := tk } (.ref z) "zip" := fun h tk hk => ⟨_, hk _ _ hz, rfl⟩
  show wpAny _ _ (Builtin.List.listExtendWith (.ref s.heap.objs.size) (.ref z) .none) _ _ { s with heap := h2, toks := s.toks }
  unfold Builtin.List.listExtendWith
  refine wpAny_bind (wpAny_typeOf (hT h2 _ o2) ?_)
  have h1 : Builtin.List.listSameRef (.ref s.heap.objs.size) (.ref z) = false := by simp [Builtin.List.listSameRef, Nat.ne_of_gt lz]
  have h3 : (Value.type "zip" == Value.type "list") = false := by decide
  have h4 : (Value.type "zip" == Value.type "tuple") = false := by decide
  simp only [h1, h3, h4, Bool.or_false, Bool.false_eq_true, if_false]
  refine wpAny_bind (wpAny_pyIter_zip (o2 _ _ hz) ?_)
  refine wpAny_bind (wpAny_holding (z_hint (hT h2 _ o2) ?_))
  refine wpAny_ite_split (fun _ => ?_) (fun _ => wpAny_pure ⟨plainId_quiet PySem.F.plain_extend_loop _, key h2 _ _ o2 hS2⟩)
  refine wpAny_bind (wpAny_rule ?_)
  refine wpAny_bind ?_
  show wpAny _ _ (updateSeq s.heap.objs.size (·.push .none) >>= fun _ => updateSeq s.heap.objs.size (·.pop)) _ _ _
  refine wpAny_bind (wpAny_updateSeq hS2 rfl ?_)
  have hS3 := Heap.get?_update_self (Obj.mapSeq (·.push Value.none)) hS2 rfl
  refine wpAny_updateSeq (hz := by seq_fits) hS3 rfl ?_
  have hS4 := Heap.get?_update_self (Obj.mapSeq (·.pop)) hS3 rfl
  refine wpAny_pure ⟨plainId_quiet PySem.F.plain_extend_loop _, key _ _ _ (fun b o e => ?_) hS4⟩
  have nb : s.heap.objs.size ≠ b := Nat.ne_of_gt (Heap.lt_size e)
  exact (Heap.get?_update_other _ _ nb).trans ((Heap.get?_update_other _ _ nb).trans (o2 b o e))
end
end FZ
set_option maxHeartbeats 4000000
/-! Fx1: displays with stars, xs[::-1], list(zip(x, y)). -/
namespace Fs
open PySem PySem.Spec PyProof.Rows L2

def wStar (w : WE) (r : WA) : WA := fun ex ρ M P => w ex ρ M fun d M1 => oL (seqD M1 d) fun ds => r ex ρ M1 fun es M2 => P (ds ++ es) M2
def wRev (w : WE) : WE := fun ex ρ M P => w ex ρ M fun d M1 => oL (listD M1 d) fun ds => nwL ds.reverse M1 P
section
variable {X : Cx} {W : WX} {e : Expr} {es : List Expr} {w : WE} {r : WA} {p pos p1 p2 p3 : Pos}
theorem ja_star (ha : JE X W e w) (hr : JA X W es r) : JA X W (.Starred e p :: es) (wStar w r) := by
  refine PA.imp (StX.pa_star ha hr (by rfl)) fun σ H Q h => ?_
  obtain ⟨ρ, M, G, F, P, ex, R, E, h, k, kx⟩ := h
  refine ⟨ρ, M, G, F, _, ex, R, E, h, fun d M1 F1 H1 v1 h1 le1 R1 i1 => ?_, kx⟩
  obtain ⟨ds, eq, h1⟩ := h1.of
  obtain ⟨b, a, vs, rfl, hq, hd⟩ := seqD_ok R1 i1 eq
  refine ⟨a, vs, rfl, ?_, ρ, M1, G, F1, _, ex, R1, E.mono le1, h1, fun ds2 M2 F2 H2 us h2 le2 R2 i2 => ?_, kx.mono le1⟩
  · cases b with
    | true => exact .inr hq
    | false => exact .inl hq
  · exact k (ds ++ ds2) M2 F2 H2 (vs ++ us) h2 (le1.trans le2) R2 ((IsDs.mono le2 _ _ hd).append i2)
theorem je_rev {k : Nat} (he : JE X W e w) : JE X W (.Subscript e (.Slice none none (some (.UnaryOp .USub (.Constant (.int 1) k p1) p2)) p3) pos) (wRev w) := by
  refine PE.imp (pe_revL he) fun σ H Q h => ?_
  obtain ⟨ρ, M, G, F, P, ex, R, E, h, k, kx⟩ := h
  refine ⟨ρ, M, G, F, _, ex, R, E, h, fun d M1 F1 H1 v1 h1 le1 R1 i1 => ?_, kx⟩
  obtain ⟨ds, eq, h1⟩ := h1.of
  obtain ⟨a, vs, rfl, hq, hd⟩ := listD_ok R1 i1 eq
  exact ⟨a, vs, rfl, hq, fun q hq' => nwL_ok R1 hq' hd.reverse (k.mono le1) h1⟩
end

/-! ### list(zip(x, y)) -/
/-- pairs tracked at their addresses -/
def putP : Hp → List Addr → List (V × V) → Hp
  | H, a :: as, p :: ps => putP (upd H a (.tup [p.1, p.2])) as ps
  | H, _, _ => H
theorem putP_off {b : Addr} : ∀ (as : List Addr) (ps : List (V × V)) (H : Hp), b ∉ as → putP H as ps b = H b
  | [], _, _, _ => rfl
  | _ :: _, [], _, _ => rfl
  | a :: as, p :: ps, H, h => by
    show putP (upd H a _) as ps b = H b
    rw [putP_off as ps _ (fun z => h (List.mem_cons_of_mem _ z)), upd_ne (fun z => h (by rw [z]; exact List.mem_cons_self))]
theorem putP_at {b : Addr} : ∀ (as : List Addr) (ps : List (V × V)) (H : Hp) (j : Nat) (p : V × V), as.Nodup → as[j]? = some b → ps[j]? = some p → putP H as ps b = some (.tup [p.1, p.2])
  | [], _, _, _, _, _, e, _ => by simp at e
  | _ :: _, [], _, _, _, _, _, e => by simp at e
  | a :: as, q :: ps, H, 0, p, n, e1, e2 => by
    simp at e1 e2
    subst e1 e2
    show putP (upd H a _) as ps a = _
    rw [putP_off as ps _ (List.nodup_cons.mp n).1, upd_same]
  | a :: as, q :: ps, H, j + 1, p, n, e1, e2 => by
    simp at e1 e2
    exact putP_at as ps _ j p (List.nodup_cons.mp n).2 e1 e2
def tLZip (K : PySem.W.Frag) (ta : TA) : TE := fun σ H Q => ta σ H fun vs H1 => ∃ b1 b2 a1 a2 xs1 xs2, vs = [.ref a1, .ref a2] ∧ SqB K b1 H1 a1 xs1 ∧ SqB K b2 H1 a2 xs2 ∧
  ∀ (ts : List Addr) (p : Addr), ts.length = min xs1.length xs2.length → ts.Nodup → (∀ t ∈ ts, H1 t = none) → H1 p = none → p ∉ ts → Q (.ref p) (upd (putP H1 ts (xs1.zip xs2)) p (.lst (ts.map V.ref)))
theorem vals_refs' : ∀ as : List Addr, Vals (as.map V.ref) (as.map Value.ref)
  | [] => .nil
  | _ :: as => .cons rfl (vals_refs' as)
section
variable {X : Cx}
theorem pairs_laid {pins : List (Addr × Obj)} {σ : L2.St} {H : Hp} {s : Shared} {h' : Heap} {tk : Nat} {xs1 xs2 : List V} {its1 its2 : List Value} {acc : Array Value} {c : Nat} {S : Addr} {as : List Addr} (I : Inv X pins σ H s) (r1 : Vals xs1 its1) (r2 : Vals xs2 its2)
    (hS0 : s.heap.objs.size ≤ S) (hz : min xs1.length xs2.length ≤ sizeLine) (hk : ∀ b o, s.heap.get? b = some o → h'.get? b = some o) (hS : h'.get? S = some { cls := .type "list", dict := none, data := .seq acc c, slots := #[] }) (hl : as.length = min xs1.length xs2.length)
    (hG : FZ.ZG (fun i v => its1.toArray[i]? = some v) (fun i v => its2.toArray[i]? = some v) S h' as) (hacc : acc.toList = as.map Value.ref) :
    as.Nodup ∧ (∀ t ∈ as, H t = none) ∧ H S = none ∧ S ∉ as ∧ Inv X pins σ (upd (putP H as (xs1.zip xs2)) S (.lst (as.map V.ref))) { s with heap := h', toks := tk } := by
  have hSn : S ∉ as := fun z => Nat.lt_irrefl _ (hG.above _ z)
  have nd : as.Nodup := List.Pairwise.imp (fun {a b} (h : a < b) => Nat.ne_of_lt h) hG.rise
  have fresh : ∀ b, s.heap.objs.size ≤ b → H b = none := fun b h => I.hok.fresh h
  have new : ∀ t ∈ as, H t = none := fun t ht => fresh t (Nat.le_trans hS0 (Nat.le_of_lt (hG.above t ht)))
  have newS : H S = none := fresh S hS0
  have low : ∀ b o, s.heap.get? b = some o → b ∉ as ∧ b ≠ S := fun b o e => ⟨fun z => absurd (Heap.lt_size e) (Nat.not_lt.mpr (Nat.le_trans hS0 (Nat.le_of_lt (hG.above b z)))), fun z => absurd (Heap.lt_size e) (Nat.not_lt.mpr (by rw [z]; exact hS0))⟩
  have off : ∀ b, b ∉ as → b ≠ S → upd (putP H as (xs1.zip xs2)) S (.lst (as.map V.ref)) b = H b := fun b n1 n2 => by rw [upd_ne n2, putP_off as _ _ n1]
  have kp : ∀ b u, H b = some u → upd (putP H as (xs1.zip xs2)) S (.lst (as.map V.ref)) b = some u := fun b u e => by
    rw [off b (fun z => by rw [new b z] at e; cases e) (fun z => by rw [z, newS] at e; cases e)]
    exact e
  refine ⟨nd, new, newS, hSn, I.call' (ch := []) rfl ⟨fun b o q _ _ _ => hk b o q, fun b o q _ _ _ => ⟨o.slots, hk b o q⟩, fun b o q n _ => ?_, fun b o q _ => ⟨o, hk b o q⟩, fun b xs q => kp b _ q, fun b o u q => kp b _ q, fun b ps q => ⟨#[], by rw [kp b _ q]; simp⟩⟩ (fun b u q => ?_) I.bare fun b z => by simp at z⟩
  · obtain ⟨z1, z2⟩ := low b o q
    rw [off b z1 z2]
    exact n
  · by_cases hb2 : b = S
    · subst hb2
      rw [upd_same] at q
      cases q
      refine ⟨by rw [List.length_map]; omega, acc.toList, c, by rw [hacc]; exact vals_refs' as, ?_⟩
      rw [Array.toArray_toList]
      exact hS
    · by_cases hb : b ∈ as
      · obtain ⟨j, ej⟩ := List.getElem?_of_mem hb
        have jl := (List.getElem?_eq_some_iff.mp ej).1
        obtain ⟨x1, x2, e1, e2, e3⟩ := hG.pairs j b ej
        have g1 : its1[j]? = some x1 := by simpa using e1
        have g2 : its2[j]? = some x2 := by simpa using e2
        obtain ⟨v1, f1, k1⟩ : ∃ v, xs1[j]? = some v ∧ RelV v x1 := by
          obtain ⟨v, f⟩ : ∃ v, xs1[j]? = some v := ⟨_, List.getElem?_eq_getElem (by omega)⟩
          obtain ⟨u, y1, y2⟩ := r1.get f
          rw [g1] at y1; cases y1
          exact ⟨v, f, y2⟩
        obtain ⟨v2, f2, k2⟩ : ∃ v, xs2[j]? = some v ∧ RelV v x2 := by
          obtain ⟨v, f⟩ : ∃ v, xs2[j]? = some v := ⟨_, List.getElem?_eq_getElem (by omega)⟩
          obtain ⟨u, y1, y2⟩ := r2.get f
          rw [g2] at y1; cases y1
          exact ⟨v, f, y2⟩
        have ez : (xs1.zip xs2)[j]? = some (v1, v2) := by rw [List.getElem?_zip_eq_some]; exact ⟨f1, f2⟩
        rw [upd_ne hb2, putP_at as _ _ j (v1, v2) nd ej ez] at q
        cases q
        exact ⟨by show 2 ≤ sizeLine; decide, [x1, x2], .cons k1 (.cons k2 .nil), ⟨_, e3, rfl, _, rfl⟩⟩
      · rw [off b hb hb2] at q
        exact (I.hok b u q).stay (fun d v _ y => hk d v y) (fun d y => kp d _ y) fun d xs y => kp d _ y
theorem pe_lzip {e1 e2 : Expr} {ta : TA} {p pos p2 pos2 : Pos} (hc : X.calm = true) (hg : Gl X "list") (hm : X.mg "list" = none) (hg2 : Gl X "zip") (hm2 : X.mg "zip" = none) (ha : PA X [e1, e2] ta)
    (hs : starEach [e1, e2] X.env = (false, eval e1 X.env) :: starEach [e2] X.env) (hpl : (backTo pos2 (starEach [e2] X.env)).any (·.1) = false)
    (hs2 : starEach [.Call (.Name "zip" p2) [e1, e2] [] pos2] X.env = [(false, eval (.Call (.Name "zip" p2) [e1, e2] [] pos2) X.env)]) :
    PE X (.Call (.Name "list" p) [.Call (.Name "zip" p2) [e1, e2] [] pos2] [] pos) (tLZip X.K ta) := by
  refine ⟨fun pins s σ H Q I h => ?_⟩
  refine wpAny_Call_Name_kw (ld_blt I hg hm PyProof.Rows.boot_list ?_)
  refine PyProof.Rows.callWith_type1 ?_ hs2 rfl
  rw [hs2]
  show wpAny _ _ (spliced ((false, eval (.Call (.Name "zip" p2) [e1, e2] [] pos2) X.env) :: backTo pos [])) _ _ s
  refine Calls.spliced_cons ?_
  refine wpAny_Call_Name_kw (ld_blt I hg2 hm2 PyProof.Rows.boot_zip ?_)
  refine PyProof.Rows.callWith_type1 (thn (ha.run pos2 pins s σ H _ I h) fun us s1 ⟨vs, H1, I1, rr, q1⟩ => ?_) hs hpl
  obtain ⟨b1, b2, a1, a2, xs1, xs2, ex, hq1, hq2, q⟩ := q1
  subst ex
  obtain rfl : us = [.ref a1, .ref a2] := vals_refs2 rr
  obtain ⟨its1, rv1, t1, z1⟩ := inv_seqB I1 hq1
  have lt1 := seqB_lt t1
  obtain ⟨its2, rv2, t2, z2⟩ := inv_seqB I1 hq2
  have lt2 := seqB_lt t2
  refine zip_begins2 (beginsB b1 a1 its1.toArray) (beginsB b2 a2 its2.toArray) t1 t2 fun h' hz hTI hTO g1 g2 hsz hk => ?_
  have I2 : Inv X pins σ H1 { s1 with heap := h' } := I1.kept (t' := s1.toks) hk
  refine Calls.spliced_nil ?_
  have hd := I1.ok.hd hc
  have hz5 : h'.objs.size = s1.heap.objs.size + 5 := hsz
  have e1 := rv1.length
  have e2 := rv2.length
  have Z := zap2 lt1 lt2
  have at1 : ItB b1 h' s1.heap.objs.size a1 0 ∧ SeqB b1 h' a1 its1.toArray := ⟨itB_new g1, by
    have := (drawsB (prog := X.prog) (w := X.w) (A := X.A) hd b1 s1.heap.objs.size a1 Z.ne1 its1.toArray)
    cases b1 with
    | true => obtain ⟨o, e, r⟩ := t1; exact ⟨o, hk _ _ e, r⟩
    | false => obtain ⟨o, e, r⟩ := t1; exact ⟨o, hk _ _ e, r⟩⟩
  have at2 : ItB b2 h' (s1.heap.objs.size + 1) a2 0 ∧ SeqB b2 h' a2 its2.toArray := ⟨itB_new g2, by
    cases b2 with
    | true => obtain ⟨o, e, r⟩ := t2; exact ⟨o, hk _ _ e, r⟩
    | false => obtain ⟨o, e, r⟩ := t2; exact ⟨o, hk _ _ e, r⟩⟩
  have l0 : s1.heap.objs.size < h'.objs.size := by omega
  have l1 : s1.heap.objs.size + 1 < h'.objs.size := by omega
  have la1 : a1 < h'.objs.size := Nat.lt_trans lt1 l0
  have la2 : a2 < h'.objs.size := Nat.lt_trans lt2 l0
  have fpl : ∀ {a b c : Addr} {n : Nat}, (show Nat from a) < n → (show Nat from b) < n → c ∈ [a, b] → (show Nat from c) < n := fun h1 h2 hc => by
    rcases List.mem_cons.mp hc with e | e
    · rw [e]; exact h1
    · rw [List.mem_singleton.mp e]; exact h2
  refine FZ.z_call (s := { s1 with heap := h' }) (A := X.A) (St1 := fun i h => ItB b1 h s1.heap.objs.size a1 i ∧ SeqB b1 h a1 its1.toArray) (St2 := fun i h => ItB b2 h (s1.heap.objs.size + 1) a2 i ∧ SeqB b2 h a2 its2.toArray) (n1 := its1.toArray.size) (n2 := its2.toArray.size) (fp1 := [s1.heap.objs.size, a1]) (fp2 := [s1.heap.objs.size + 1, a2]) (P1 := fun i v => its1.toArray[i]? = some v) (P2 := fun i v => its2.toArray[i]? = some v) Z.sep (drawsB (A := X.A.in1.in1.in1) hd b1 _ a1 Z.ne1 its1.toArray) (drawsB (A := X.A.in1.in1.in1) hd b2 _ a2 Z.ne2 its2.toArray) hz hTI hTO at1 at2
    (fun b hb => fpl l0 la1 hb) (fun b hb => fpl l1 la2 hb) (by rw [List.size_toArray, List.size_toArray]; omega) fun h'' tk acc c as hk2 hS hl hG hacc => ?_
  have hk3 : ∀ b o, s1.heap.get? b = some o → h''.get? b = some o := fun b o e => by
    have gt : ∀ k : Nat, b ≠ s1.heap.objs.size + k := fun k z => absurd (Heap.lt_size e) (by rw [z]; exact Nat.not_lt.mpr (Nat.le_add_right _ k))
    exact hk2 b o (gt 4) (gt 3) (gt 0) (gt 1) (hk b o e)
  rw [List.size_toArray, List.size_toArray, ← e1, ← e2] at hl
  obtain ⟨k1, k2, k3, k4, J⟩ := pairs_laid (tk := tk) I1 rv1 rv2 (S := h'.objs.size) (by omega) (by omega) hk3 hS hl hG hacc
  exact ⟨.ref _, _, J, rfl, q as _ hl k1 k2 k3 k4⟩
end
def wLZip (r : WA) : WE := fun ex ρ M P => r ex ρ M fun ds M1 => match ds with
  | [x, y] => oL (seqD M1 x) fun as => oL (seqD M1 y) fun bs => nwL (zip2D as bs) M1 P
  | _ => False
theorem Rep.putP {K : PySem.W.Frag} {G : Hp} {M : Mem} {as bs : List Dt} {vs us : List V} : ∀ {ts : List Addr} {F H : Hp} (R : Rep K G F H M), ts.Nodup → (∀ t ∈ ts, H t = none) → IsDs K F as vs → IsDs K F bs us → ts.length = min vs.length us.length →
    ∃ F', Same F F' ∧ Rep K G F' (putP H ts (vs.zip us)) M ∧ IsDs K F' (zip2D as bs) (ts.map V.ref) := by
  induction as generalizing bs vs us with
  | nil =>
    intro ts F H R _ _ ha _ hl
    cases (show vs = [] from ha)
    have : ts = [] := List.length_eq_zero_iff.mp (by rw [hl]; simp)
    subst this
    exact ⟨F, Same.refl F, R, rfl⟩
  | cons a as ih =>
    intro ts F H R nd hn ha hb hl
    cases bs with
    | nil =>
      cases (show us = [] from hb)
      have : ts = [] := List.length_eq_zero_iff.mp (by rw [hl]; simp)
      subst this
      obtain ⟨v, r, rfl, _⟩ := ha
      exact ⟨F, Same.refl F, R, rfl⟩
    | cons b bs =>
      obtain ⟨v, r, rfl, i1, ha⟩ := ha
      obtain ⟨u, r', rfl, i2, hb⟩ := hb
      cases ts with
      | nil => simp at hl
      | cons t ts =>
        obtain ⟨n1, n2⟩ := List.nodup_cons.mp nd
        obtain ⟨s, R', _⟩ := R.tupNew (o := .tup [v, u]) (hn t (List.mem_cons_self ..))
        obtain ⟨F', s', R'', i⟩ := ih (bs := bs) (vs := r) (us := r') (ts := ts) R' n2 (fun x hx => by rw [upd_ne (fun z => n1 (by rw [← z]; exact hx))]; exact hn x (List.mem_cons_of_mem _ hx)) (IsDs.mono s _ _ ha) (IsDs.mono s _ _ hb) (by simp at hl; omega)
        refine ⟨F', s.trans s', R'', .ref t, ts.map V.ref, rfl, ⟨t, [v, u], rfl, SqT.of (s' _ _ upd_same), v, [u], rfl, IsD.mono (s.trans s') _ _ i1, u, [], rfl, IsD.mono (s.trans s') _ _ i2, rfl⟩, i⟩
section
variable {X : Cx} {W : WX}
theorem je_lzip {e1 e2 : Expr} {r : WA} {p pos p2 pos2 : Pos} (hc : X.calm = true) (hg : Gl X "list") (hm : X.mg "list" = none) (hg2 : Gl X "zip") (hm2 : X.mg "zip" = none) (ha : JA X W [e1, e2] r)
    (hs : starEach [e1, e2] X.env = (false, eval e1 X.env) :: starEach [e2] X.env) (hpl : (backTo pos2 (starEach [e2] X.env)).any (·.1) = false)
    (hs2 : starEach [.Call (.Name "zip" p2) [e1, e2] [] pos2] X.env = [(false, eval (.Call (.Name "zip" p2) [e1, e2] [] pos2) X.env)]) :
    JE X W (.Call (.Name "list" p) [.Call (.Name "zip" p2) [e1, e2] [] pos2] [] pos) (wLZip r) := by
  refine PE.imp (pe_lzip hc hg hm hg2 hm2 ha hs hpl hs2) fun σ H Q h => ?_
  obtain ⟨ρ, M, G, F, P, ex, R, E, h, k, kx⟩ := h
  refine ⟨ρ, M, G, F, _, ex, R, E, h, fun ds M1 F1 H1 vs h1 le1 R1 i1 => ?_, kx⟩
  match ds, h1, i1 with
  | [x, y], h1, i1 =>
    obtain ⟨v, u, rfl, j1, j2⟩ := isDs2 i1
    obtain ⟨as, ea, h1⟩ := oL.of h1
    obtain ⟨bs, eb, h1⟩ := oL.of h1
    obtain ⟨b1, a1, xs1, rfl, q1, d1⟩ := seqD_ok R1 j1 ea
    obtain ⟨b2, a2, xs2, rfl, q2, d2⟩ := seqD_ok R1 j2 eb
    refine ⟨b1, b2, a1, a2, xs1, xs2, rfl, q1, q2, fun ts p hl nd hn hp hpn => ?_⟩
    obtain ⟨F', s', R', i⟩ := R1.putP nd hn d1 d2 hl
    exact nwL_ok R' (by rw [putP_off _ _ _ hpn]; exact hp) i (k.mono (le1.trans s')) h1
end
end Fs
set_option maxHeartbeats 4000000
/-! Fs18: the reading of any expression; it is kept. -/
namespace Fs
open PySem PySem.Spec PyProof.Rows L2

structure Rd where
  e : Expr → WE
  t : Expr → WT
def needE (b : Bool) (w : WE) : WE := match b with
  | true => w
  | false => eFalse
def needT (b : Bool) (w : WT) : WT := match b with
  | true => w
  | false => tFalse
def needI (b : Bool) (w : WI) : WI := match b with
  | true => w
  | false => iFalse
section
variable {X : Cx} {W : WX}
theorem je_need {e : Expr} {b : Bool} {w : WE} (h : b = true → JE X W e w) : JE X W e (needE b w) := by
  cases b with
  | true => exact h rfl
  | false => exact je_false
theorem jt_need {e : Expr} {b : Bool} {w : WT} (h : b = true → JT X W e w) : JT X W e (needT b w) := by
  cases b with
  | true => exact h rfl
  | false => exact jt_false
theorem ji_need {tg e : Expr} {b : Bool} {w : WI} (h : b = true → JI X W tg e w) : JI X W tg e (needI b w) := by
  cases b with
  | true => exact h rfl
  | false => exact ji_false
end

/-! ### the parts -/
def noStar (es : List Expr) : Bool := es.all fun e => !isStar e
def Cc.isG (c : Cc) (x : Str) : Bool := match c.kd x with
  | some .globalImplicit => true
  | _ => false
def Cc.isV (c : Cc) (x : Str) : Bool := match c.kd x with
  | some .local => true
  | some .cell => true
  | some .free => true
  | _ => false
def eqS (x : Str) (y : Str) : Bool := decide (x = y)
def rA (r : Expr → WE) : List Expr → WA
  | [] => wNil
  | e :: es => wCons (r e) (rA r es)
/-- items of a display, stars among them -/
def rAs (r : Expr → WE) : List Expr → WA
  | [] => wNil
  | .Starred e _ :: es => wStar (r e) (rAs r es)
  | e :: es => wCons (r e) (rAs r es)
def rVar (c : Cc) (x : Str) : WE := match ixOf c.N x with
  | some i => wVar i
  | none => eFalse
def rGlo (c : Cc) (x : Str) : WE := match c.gi x with
  | some d => wC d
  | none => (match c.gl x with
    | true => wC (.glo x)
    | false => (match tyO x with
      | some T => wC (.ty T)
      | none => eFalse))
def rName (c : Cc) (x : Str) : WE := match c.kd x with
  | some .globalImplicit => rGlo c x
  | some .local => rVar c x
  | some .cell => rVar c x
  | some .free => rVar c x
  | _ => eFalse
def rB (r : Expr → WE) (op : BoolOp) : Expr → List Expr → WE
  | v, [] => r v
  | v, w :: ws => match op with
    | .And => wAnd (r v) (rB r op w ws)
    | .Or => wOr (r v) (rB r op w ws)
def rTB (r : Expr → WT) (op : BoolOp) : Expr → List Expr → WT
  | v, [] => r v
  | v, w :: ws => match op with
    | .And => wAndT (r v) (rTB r op w ws)
    | .Or => wOrT (r v) (rTB r op w ws)
def rP (r : Expr → WE) : Option Expr → WO
  | none => wP0
  | some e => wP1 (r e)
section
variable {X : Cx} {W : WX} {c : Cc} {k : Nat}
theorem rA_ok {r : Expr → WE} (h : ∀ e, JE X W e (r e)) : ∀ {es : List Expr}, noStar es = true → JA X W es (rA r es)
  | [], _ => ja_nil
  | e :: es, hs => by
    simp only [noStar, List.all_cons, Bool.and_eq_true, Bool.not_eq_true'] at hs
    exact ja_cons (h e) (rA_ok h hs.2) (starE hs.1)
theorem rAs_ok {r : Expr → WE} (h : ∀ e, JE X W e (r e)) : ∀ (es : List Expr), JA X W es (rAs r es)
  | [] => ja_nil
  | e :: es => by
    unfold rAs
    split
    · rename_i q; cases q
    · rename_i e' p es' q; cases q; exact ja_star (h _) (rAs_ok h _)
    · rename_i e' es' hn q
      cases q
      exact ja_cons (h _) (rAs_ok h _) (starE (by cases e <;> first | rfl | exact absurd rfl (hn _ _)))
theorem isG_ok (hc : CtxOk c X W k) {x : Str} (h : c.isG x = true) : Gl X x := by
  show X.env.scope.names.lookup x = some .globalImplicit
  rw [hc.sc]
  unfold Cc.isG Cc.kd at h
  split at h
  · assumption
  · cases h
theorem rVar_ok (hc : CtxOk c X W k) {x : Str} {pos : Pos} (hv : c.kd x = some .local ∨ c.kd x = some .cell ∨ c.kd x = some .free) (h1 : x ≠ "__debug__") (h2 : x ≠ "__classdict__") : JE X W (.Name x pos) (rVar c x) := by
  unfold rVar
  split
  · rename_i i e
    refine je_var (by rw [hc.N]; exact ixOf_ok e) ?_ (dbg_ok h1) (by simpa using h2)
    show Vis X.env.scope x
    rw [hc.sc]
    exact hv
  · exact je_false
theorem rName_ok (hc : CtxOk c X W k) {x : Str} {pos : Pos} (h1 : x ≠ "__debug__") (h2 : x ≠ "__classdict__") : JE X W (.Name x pos) (rName c x) := by
  unfold rName
  split
  · rename_i e
    have hg : Gl X x := isG_ok hc (by unfold Cc.isG; rw [e])
    unfold rGlo
    split
    · rename_i d ed
      rcases hc.gi x d ed with ⟨i, t, rfl, q⟩ | ⟨z, t, rfl, q⟩
      · exact je_gint hg q (dbg_ok h1)
      · exact je_gstr hg q (dbg_ok h1)
    · split
      · rename_i q
        exact je_glo hg (hc.gl x q) (dbg_ok h1)
      · split
        · rename_i T q
          obtain ⟨m, a, b, f⟩ := ty_ok q
          exact je_c (pe_bltn (v := .ty T) hg (hc.bn x m) f rfl a b) fun _ => rfl
        · exact je_false
  · rename_i e; exact rVar_ok hc (.inl e) h1 h2
  · rename_i e; exact rVar_ok hc (.inr (.inl e)) h1 h2
  · rename_i e; exact rVar_ok hc (.inr (.inr e)) h1 h2
  · exact je_false
theorem rB_ok {r : Expr → WE} (h : ∀ e, JE X W e (r e)) {op : BoolOp} {pos : Pos} : ∀ (ws : List Expr) (v : Expr), JE X W (.BoolOp op (v :: ws) pos) (rB r op v ws)
  | [], v => je_one (h v)
  | w :: ws, v => by
    cases op with
    | And => exact je_and (h v) (rB_ok h ws w)
    | Or => exact je_or (h v) (rB_ok h ws w)
theorem rTB_ok {r : Expr → WT} (h : ∀ e, JT X W e (r e)) {op : BoolOp} {pos : Pos} : ∀ (ws : List Expr) (v : Expr), JW X W (.BoolOp op (v :: ws) pos) (rTB r op v ws)
  | [], v => by
    cases op with
    | And => exact jw_and1 (h v)
    | Or => exact jw_or1 (h v)
  | w :: ws, v => by
    cases op with
    | And => exact jw_and (h v) (rTB_ok h ws w)
    | Or => exact jw_or (h v) (rTB_ok h ws w)
theorem rP_ok {r : Expr → WE} (h : ∀ e, JE X W e (r e)) : ∀ o, JP X W o (rP r o)
  | none => jp_none
  | some e => jp_some (h e)
end

/-! ### calls -/
def rCallB (r : Expr → WE) (c : Cc) (x : Str) (args : List Expr) : WE := match biO c.S x with
  | some d => (match args with
    | [] => eFalse
    | e :: es => wB d (rA r (e :: es)))
  | none => eFalse
def rCallL (r : Expr → WE) (c : Cc) (args : List Expr) : WE := match args with
  | [.Call (.Name y _) [a] [] _] => (match eqS y "range" && c.isG y && !isStar a with
    | true => wLRg1 (r a)
    | false => rCallB r c "list" args)
  | [.Call (.Name y _) [a, b] [] _] => (match eqS y "range" && c.isG y && noStar [a, b] with
    | true => wLRg2 (r a) (r b)
    | false => (match eqS y "zip" && c.isG y && noStar [a, b] with
      | true => wLZip (rA r [a, b])
      | false => rCallB r c "list" args))
  | _ => rCallB r c "list" args
def rCallS (r : Expr → WE) (c : Cc) (args : List Expr) : WE := match args with
  | [.Call (.Name y _) [a] [] _] => (match eqS y "set" && c.isG y && !isStar a with
    | true => wSS (r a)
    | false => rCallB r c "sorted" args)
  | _ => rCallB r c "sorted" args
def rCallN (r : Expr → WE) (c : Cc) (x : Str) (args : List Expr) : WE := match c.gl x with
  | true => wCall c.S x (rA r args)
  | false => (match eqS x "list" with
    | true => rCallL r c args
    | false => (match eqS x "sorted" with
      | true => rCallS r c args
      | false => rCallB r c x args))
def rMeth (r : Expr → WE) (c : Cc) (o : Expr) (m : Str) (args : List Expr) : WE := match args with
  | [] => (match eqS m "pop" with
    | true => wLM lmPop (r o) wNil
    | false => wMeth c.S m (r o) wNil)
  | e :: es => (match eqS m "append" with
    | true => wLM lmAppend (r o) (rA r (e :: es))
    | false => (match eqS m "extend" with
      | true => wLM lmExtend (r o) (rA r (e :: es))
      | false => (match eqS m "join" with
        | true => wSM smJoin (r o) (rA r (e :: es))
        | false => (match eqS m "split" with
          | true => wSM smSplit (r o) (rA r (e :: es))
          | false => (match eqS m "removeprefix" with
            | true => wSM smRemovep (r o) (rA r (e :: es))
            | false => wMeth c.S m (r o) (rA r (e :: es)))))))
theorem eqS_ok {x y : Str} (h : eqS x y = true) : x = y := of_decide_eq_true h
section
variable {X : Cx} {W : WX} {c : Cc} {k : Nat} {r : Expr → WE}
theorem rCallB_ok (hc : CtxOk c X W k) (h : ∀ e, JE X W e (r e)) {x : Str} {args : List Expr} {p pos : Pos} (hg : c.isG x = true) (hs : noStar args = true) : JE X W (.Call (.Name x p) args [] pos) (rCallB r c x args) := by
  unfold rCallB
  split
  · rename_i d e
    split
    · exact je_false
    · rename_i e0 es
      have hs' := hs
      simp only [noStar, List.all_cons, Bool.and_eq_true, Bool.not_eq_true'] at hs'
      obtain ⟨m, a, b, f⟩ := bi_ok (hc.room.mono (by omega)) hc.calm hc.sok e
      rcases f with ⟨id, f, cb⟩ | ⟨T, f, cb⟩
      · exact je_callB cb (isG_ok hc hg) (hc.bn x m) f (rA_ok h hs) a b (starE hs'.1) (starAny hs'.2)
      · exact je_callTy cb (isG_ok hc hg) (hc.bn x m) f (rA_ok h hs) a b (starE hs'.1) (starAny hs'.2)
  · exact je_false
theorem rCallN_ok (hc : CtxOk c X W k) (h : ∀ e, JE X W e (r e)) {x : Str} {args : List Expr} {p pos : Pos} (hg : c.isG x = true) (hs : noStar args = true) (hd : x ≠ "__debug__") : JE X W (.Call (.Name x p) args [] pos) (rCallN r c x args) := by
  unfold rCallN
  split
  · cases args with
    | nil => exact je_call0 hc.sok (hc.room.mono (by omega)) hc.tk (isG_ok hc hg) (dbg_ok hd)
    | cons e es =>
      have hs' := hs
      simp only [noStar, List.all_cons, Bool.and_eq_true, Bool.not_eq_true'] at hs'
      exact je_call hc.sok (hc.room.mono (by omega)) hc.tk (isG_ok hc hg) (rA_ok h hs) (dbg_ok hd) (starE hs'.1) (starAny hs'.2)
  · split
    · rename_i q
      obtain rfl := eqS_ok q
      unfold rCallL
      split
      · rename_i y p2 a pos2
        split
        · rename_i q2
          simp only [Bool.and_eq_true, Bool.not_eq_true'] at q2
          obtain ⟨⟨q2, q3⟩, q4⟩ := q2
          obtain rfl := eqS_ok q2
          exact je_lrg1 hc.calm (isG_ok hc hg) (hc.bn _ (by decide)) (isG_ok hc q3) (hc.bn _ (by decide)) (h a) (by rw [starE q4]; rfl) rfl
        · exact rCallB_ok hc h hg hs
      · rename_i y p2 a b pos2
        split
        · rename_i q2
          simp only [Bool.and_eq_true, noStar, List.all_cons, Bool.not_eq_true', List.all_nil, and_true] at q2
          obtain ⟨⟨q2, q3⟩, q4, q5⟩ := q2
          obtain rfl := eqS_ok q2
          exact je_lrg2 hc.calm (isG_ok hc hg) (hc.bn _ (by decide)) (isG_ok hc q3) (hc.bn _ (by decide)) (h a) (h b) (starE q4) (by rw [starE q5]; rfl) rfl
        · split
          · rename_i q2
            simp only [Bool.and_eq_true, noStar, List.all_cons, Bool.not_eq_true', List.all_nil, and_true] at q2
            obtain ⟨⟨q2, q3⟩, q4, q5⟩ := q2
            obtain rfl := eqS_ok q2
            exact je_lzip hc.calm (isG_ok hc hg) (hc.bn _ (by decide)) (isG_ok hc q3) (hc.bn _ (by decide)) (rA_ok h (by simp [noStar, q4, q5])) (starE q4) (starAny (by simp [q5])) rfl
          · exact rCallB_ok hc h hg hs
      · exact rCallB_ok hc h hg hs
    · split
      · rename_i q
        obtain rfl := eqS_ok q
        unfold rCallS
        split
        · rename_i y p2 a pos2
          split
          · rename_i q2
            simp only [Bool.and_eq_true, Bool.not_eq_true'] at q2
            obtain ⟨⟨q2, q3⟩, q4⟩ := q2
            obtain rfl := eqS_ok q2
            exact je_ss hc.calm (isG_ok hc hg) (hc.bn _ (by decide)) (isG_ok hc q3) (hc.bn _ (by decide)) (h a) rfl (by rw [starE q4]; rfl)
          · exact rCallB_ok hc h hg hs
        · exact rCallB_ok hc h hg hs
      · exact rCallB_ok hc h hg hs
theorem rMeth_ok (hc : CtxOk c X W k) (h : ∀ e, JE X W e (r e)) {o : Expr} {m : Str} {args : List Expr} {apos pos : Pos} (hb : plainBase o = true) (hs : noStar args = true) (hn : args.length < 30) (hl : (apos.endLine == pos.line) = true) :
    JE X W (.Call (.Attribute o m apos) args [] pos) (rMeth r c o m args) := by
  unfold rMeth
  split
  · split
    · rename_i q
      obtain rfl := eqS_ok q
      exact je_pop (h o) (plainBase_ok hb _ _ _) hl
    · exact je_meth0 hc.sok (hc.room.mono (by omega)) hc.tk (h o) (mcall_eq (plainBase_ok hb _ _ _) hl (fewOk hs hn))
  · rename_i e es
    have hs' := hs
    simp only [noStar, List.all_cons, Bool.and_eq_true, Bool.not_eq_true'] at hs'
    split
    · rename_i q; obtain rfl := eqS_ok q; exact je_append (h o) (rA_ok h hs) (mc_ok hb hs hl hn)
    · split
      · rename_i q; obtain rfl := eqS_ok q; exact je_extend (h o) (rA_ok h hs) (mc_ok hb hs hl hn)
      · split
        · rename_i q; obtain rfl := eqS_ok q; exact je_join (h o) (rA_ok h hs) (mc_ok hb hs hl hn)
        · split
          · rename_i q; obtain rfl := eqS_ok q; exact je_split (h o) (rA_ok h hs) (mc_ok hb hs hl hn)
          · split
            · rename_i q; obtain rfl := eqS_ok q; exact je_removep (h o) (rA_ok h hs) (mc_ok hb hs hl hn)
            · exact je_meth hc.sok (hc.room.mono (by omega)) hc.tk (h o) (rA_ok h hs) (starE hs'.1) (starAny hs'.2) (mcall_eq (plainBase_ok hb _ _ _) hl (fewOk hs hn))
end
end Fs
set_option maxHeartbeats 4000000
/-! Fs19: targets, walks, comprehensions; the step from parts to the whole. -/
namespace Fs
open PySem PySem.Spec PyProof.Rows L2

/-! ### targets -/
def rGs (f : Expr → DG × List Nat) : List Expr → DGs × List Nat
  | [] => (dgNil, [])
  | e :: es => (dgCons (f e).1 (rGs f es).1, (f e).2 ++ (rGs f es).2)
def Cc.stores (c : Cc) (x : Str) : Bool := match c.kd x with
  | some .local => true
  | some .cell => c.fnl x
  | _ => false
def rG (r : Expr → WE) (c : Cc) : Nat → Expr → DG × List Nat
  | 0, _ => (gFalse, [])
  | n + 1, .Name x _ => (match c.stores x with
    | true => (match ixOf c.N x with
      | some i => (dgN i, [i])
      | none => (gFalse, []))
    | false => (gFalse, []))
  | n + 1, .Tuple es _ _ => (match noStar es with
    | true => (dgTup es.length (rGs (rG r c n) es).1, (rGs (rG r c n) es).2)
    | false => (gFalse, []))
  | n + 1, .Subscript o i _ => (match nsl i with
    | true => (dgSub (r o) (r i), [])
    | false => (gFalse, []))
  | n + 1, _ => (gFalse, [])
section
variable {X : Cx} {W : WX} {c : Cc} {k : Nat} {r : Expr → WE}
theorem asgE {e : Expr} {es : List Expr} {env : Env} (h : isStar e = false) : assignEach (e :: es) env = (false, assign e env) :: assignEach es env := by
  cases e <;> first | rfl | cases h
theorem asg_len {env : Env} : ∀ {es : List Expr}, noStar es = true → (assignEach es env).length = es.length ∧ (assignEach es env).findIdx? (·.1) = none
  | [], _ => ⟨rfl, rfl⟩
  | e :: es, h => by
    simp only [noStar, List.all_cons, Bool.and_eq_true, Bool.not_eq_true'] at h
    obtain ⟨h1, h2⟩ := asg_len (env := env) h.2
    rw [asgE h.1]
    refine ⟨by rw [List.length_cons, h1, List.length_cons], ?_⟩
    rw [List.findIdx?_cons]
    simp [h2]
theorem rGs_ok {f : Expr → DG × List Nat} (h : ∀ e, JG X e (f e).1 (f e).2) : ∀ {es : List Expr}, noStar es = true → JGs X es (rGs f es).1 (rGs f es).2
  | [], _ => jgs_nil
  | e :: es, hs => by
    simp only [noStar, List.all_cons, Bool.and_eq_true, Bool.not_eq_true'] at hs
    exact jgs_cons (h e) (rGs_ok h hs.2) (by rw [asgE hs.1]; rfl)
theorem rG_ok (hc : CtxOk c X W k) (h : ∀ e, JE X W e (r e)) : ∀ (n : Nat) (e : Expr), JG X e (rG r c n e).1 (rG r c n e).2
  | 0, _ => jg_false
  | n + 1, e => by
    cases e with
    | Name x pos =>
      unfold rG
      split
      · rename_i hst
        split
        · rename_i i ei
          have hl : (X.env.scope.names.lookup x = some .local) ∨ (X.env.scope.names.lookup x = some .cell ∧ c.fnl x = true) := by
            rw [hc.sc]
            unfold Cc.stores Cc.kd at hst
            split at hst
            · exact .inl (by assumption)
            · exact .inr ⟨by assumption, hst⟩
            · cases hst
          refine jg_name hc.nd (by rw [hc.N]; exact ixOf_ok ei) ?_ ?_
          · exact hl.elim .inl fun z => .inr z.1
          · exact hl.elim .inr fun z => .inl (hc.fn x z.2)
        · exact jg_false
      · exact jg_false
    | Tuple es kk pos =>
      unfold rG
      split
      · rename_i hs
        exact jg_tup hc.calm (rGs_ok (rG_ok hc h n) hs) (asg_len hs).1 (asg_len hs).2
      · exact jg_false
    | Subscript o i pos =>
      unfold rG
      split
      · rename_i hs
        exact jg_sub (h o) (h i) (fun v => by cases i <;> first | rfl | cases hs)
      · exact jg_false
    | _ => exact jg_false
end

/-! ### what is walked -/
def nset : Expr → Bool
  | .Set _ _ _ => false
  | _ => true
def isTup : Expr → Bool
  | .Tuple _ _ _ => true
  | _ => false
def rIc (r : Expr → WE) (c : Cc) (tg : Expr) (f : Str) (args : List Expr) (w : WE) : WI := match eqS f "range" with
  | true => (match args with
    | [a] => wRng1 (rA r [a])
    | [a, b] => wRng2 (rA r [a, b])
    | _ => iFalse)
  | false => (match eqS f "zip" with
    | true => (match isTup tg with
      | true => (match args with
        | [a, b] => wZip2 (rA r [a, b])
        | [a, b, d] => wZip3 (rA r [a, b, d])
        | _ => iFalse)
      | false => iFalse)
    | false => wIt w)
def rI (r : Expr → WE) (c : Cc) (tg : Expr) : Expr → WI
  | .Call (.Name f p) args [] pos => needI (c.isG f && noStar args) (rIc r c tg f args (r (.Call (.Name f p) args [] pos)))
  | e => wIt (r e)
section
variable {X : Cx} {W : WX} {c : Cc} {k : Nat} {r : Expr → WE}
theorem rI_ok (hc : CtxOk c X W k) (h : ∀ e, JE X W e (r e)) (tg : Expr) (e : Expr) : JI X W tg e (rI r c tg e) := by
  unfold rI
  split
  · rename_i f p args pos
    refine ji_need fun hn => ?_
    simp only [Bool.and_eq_true] at hn
    obtain ⟨hg, hs⟩ := hn
    unfold rIc
    split
    · rename_i q
      obtain rfl := eqS_ok q
      split
      · rename_i a
        have hs' := hs
        simp only [noStar, List.all_cons, Bool.and_eq_true, Bool.not_eq_true'] at hs'
        exact ji_range1 (isG_ok hc hg) (hc.bn _ (by decide)) (rA_ok h hs) (by rw [starE hs'.1]; rfl)
      · rename_i a b
        have hs' := hs
        simp only [noStar, List.all_cons, Bool.and_eq_true, Bool.not_eq_true'] at hs'
        exact ji_range2 (isG_ok hc hg) (hc.bn _ (by decide)) (rA_ok h hs) (by rw [starE hs'.1, starE hs'.2.1]; rfl) (by rw [starE hs'.2.1]; rfl)
      · exact ji_false
    · split
      · rename_i q
        obtain rfl := eqS_ok q
        split
        · rename_i ht
          cases tg with
          | Tuple elts kk tpos =>
            split
            · rename_i a b
              have hs' := hs
              simp only [noStar, List.all_cons, Bool.and_eq_true, Bool.not_eq_true'] at hs'
              exact ji_zip2 (isG_ok hc hg) (hc.bn _ (by decide)) (rA_ok h hs) (starE hs'.1) (starAny (by simp [hs'.2.1]))
            · rename_i a b d
              have hs' := hs
              simp only [noStar, List.all_cons, Bool.and_eq_true, Bool.not_eq_true'] at hs'
              exact ji_zip3 (isG_ok hc hg) (hc.bn _ (by decide)) (rA_ok h hs) (starE hs'.1) (starAny (by simp [hs'.2.1, hs'.2.2.1]))
            · exact ji_false
          | _ => cases ht
        · exact ji_false
      · exact ji_val (h _)
  · exact ji_val (h _)
end

/-! ### comprehensions -/
def ownOf (N : List Str) (scope : Scope) : List (Str × Nat) := scope.names.filterMap fun y => match y.2 with
  | .local => (ixOf N y.1).map fun i => (y.1, i)
  | .cell => (ixOf N y.1).map fun i => (y.1, i)
  | _ => none
def rIfs (t : Expr → WT) : List Expr → WT
  | [] => wYes
  | [e] => t e
  | _ => tFalse
def subN (a b : List Nat) : Bool := a.all fun i => b.contains i
def rLc (r : Cc → Rd) (c : Cc) (elt : Expr) (gens : List Comprehension) (scope : Scope) : WE := match gens with
  | [⟨tg, iter, ifs, a⟩] => needE (decide (a = 0) && nset iter && blkC c.N c.sc scope (ownOf c.N scope) && subN (rG (r (c.blk scope)).e (c.blk scope) 9 tg).2 ((ownOf c.N scope).map (·.2)))
    (wLc (rI (r c).e c tg iter) (rG (r (c.blk scope)).e (c.blk scope) 9 tg).1 (rIfs (r (c.blk scope)).t ifs) ((r (c.blk scope)).e elt) ((ownOf c.N scope).map (·.2)))
  | [⟨tg, iter, ifs, a⟩, ⟨tg1, iter1, ifs1, a1⟩] => needE (decide (a = 0) && decide (a1 = 0) && nset iter && nset iter1 && blkC c.N c.sc scope (ownOf c.N scope) && subN (rG (r (c.blk scope)).e (c.blk scope) 9 tg).2 ((ownOf c.N scope).map (·.2)) && subN (rG (r (c.blk scope)).e (c.blk scope) 9 tg1).2 ((ownOf c.N scope).map (·.2)))
    (wLc2 (rI (r c).e c tg iter) (rG (r (c.blk scope)).e (c.blk scope) 9 tg).1 (rIfs (r (c.blk scope)).t ifs) (rI (r (c.blk scope)).e (c.blk scope) tg1 iter1) (rG (r (c.blk scope)).e (c.blk scope) 9 tg1).1 (rIfs (r (c.blk scope)).t ifs1) ((r (c.blk scope)).e elt)
      ((ownOf c.N scope).map (·.2)) (rG (r (c.blk scope)).e (c.blk scope) 9 tg1).2)
  | _ => eFalse
def RdOk (r : Cc → Rd) : Prop := ∀ (c : Cc) (X : Cx) (W : WX) (k : Nat), CtxOk c X W k → (∀ e, JE X W e ((r c).e e)) ∧ ∀ e, JT X W e ((r c).t e)
section
variable {X : Cx} {W : WX} {c : Cc} {k : Nat}
theorem subN_ok {a b : List Nat} (h : subN a b = true) : ∀ i ∈ a, i ∈ b := fun i hi => by
  have := List.all_eq_true.mp h i hi
  simpa using this
theorem jts_false {ifs : List Expr} : JTs X W ifs tFalse := ⟨fun pins s σ H Q I h => by obtain ⟨_, _, _, _, _, _, _, _, h, _⟩ := h; exact h.elim⟩
theorem rIfs_ok {t : Expr → WT} (h : ∀ e, JT X W e (t e)) : ∀ ifs, JTs X W ifs (rIfs t ifs)
  | [] => jts_nil
  | [e] => jts_one (h e)
  | _ :: _ :: _ => jts_false
theorem foldOk {e : Expr} (h : nset e = true) (env : Env) (x : Value) : foldedSetIterable e env x = pure x := by
  cases e <;> first | rfl | cases h
/-- what a comprehension's block keeps -/
theorem rLc_ok {r : Cc → Rd} (hr : RdOk r) (hc : CtxOk c X W k) (elt : Expr) (gens : List Comprehension) (scope : Scope) (pos : Pos) : JE X W (.ListComp elt gens scope pos) (rLc r c elt gens scope) := by
  have he := (hr c X W k hc).1
  have hb := fun (s : Shared) (H : Hp) (C : Addr) (cl : List (Str × Addr)) (fp : List Addr) => hr (c.blk scope) _ _ k (hc.blk scope s H C cl fp)
  unfold rLc
  split
  · rename_i tg iter ifs a
    refine je_need fun hn => ?_
    simp only [Bool.and_eq_true, decide_eq_true_eq] at hn
    obtain ⟨⟨⟨rfl, h1⟩, h2⟩, h3⟩ := hn
    exact je_lc hc.calm hc.nd (rI_ok hc he tg iter) (by rw [hc.N, hc.sc]; exact blkOk_by h2) (subN_ok h3)
      (fun s H C cl fp => rG_ok (hc.blk scope s H C cl fp) (hb s H C cl fp).1 9 tg) (fun s H C cl fp => rIfs_ok (hb s H C cl fp).2 ifs) (fun s H C cl fp => (hb s H C cl fp).1 elt) (foldOk h1 _)
  · rename_i tg iter ifs a tg1 iter1 ifs1 a1
    refine je_need fun hn => ?_
    simp only [Bool.and_eq_true, decide_eq_true_eq] at hn
    obtain ⟨⟨⟨⟨⟨⟨rfl, rfl⟩, h1⟩, h1'⟩, h2⟩, h3⟩, h4⟩ := hn
    exact je_lc2 hc.calm hc.nd (rI_ok hc he tg iter) (by rw [hc.N, hc.sc]; exact blkOk_by h2) (subN_ok h4) (subN_ok h3) (fun i hi => hi)
      (fun s H C cl fp => rG_ok (hc.blk scope s H C cl fp) (hb s H C cl fp).1 9 tg) (fun s H C cl fp => rIfs_ok (hb s H C cl fp).2 ifs) (fun s H C cl fp => rI_ok (hc.blk scope s H C cl fp) (hb s H C cl fp).1 tg1 iter1)
      (fun s H C cl fp => rG_ok (hc.blk scope s H C cl fp) (hb s H C cl fp).1 9 tg1) (fun s H C cl fp => rIfs_ok (hb s H C cl fp).2 ifs1) (fun s H C cl fp => (hb s H C cl fp).1 elt) (foldOk h1 _) (foldOk h1')
  · exact je_false
end

/-! ### the step -/
def relD (g : Int → Int → Bool) : DOp := fun x y M P => oII x y fun i j => P (.bl (g i j)) M
def relG : CmpOp → Option (Int → Int → Bool)
  | .Lt => some fun i j => decide (i < j)
  | .LtE => some fun i j => decide (i ≤ j)
  | .Gt => some fun i j => decide (j < i)
  | .GtE => some fun i j => decide (j ≤ i)
  | _ => none
def rChain (op op' : CmpOp) (wa wb wc : WE) : WE := match relG op with
  | some g => (match relG op' with
    | some g' => wCh (relD g) (relD g') wa wb wc
    | none => eFalse)
  | none => eFalse
def rE (r : Cc → Rd) (c : Cc) : Expr → WE
  | .Constant v _ _ => (match v with
    | .none => wC .non
    | .bool b => wC (.bl b)
    | .int i => wC (.int i)
    | .str s => wC (.str s)
    | _ => eFalse)
  | .Name x _ => needE (!eqS x "__debug__" && !eqS x "__classdict__") (rName c x)
  | .BinOp a op b _ => wOpX (binO c.S op) ((r c).e a) ((r c).e b)
  | .UnaryOp op a _ => (match op with
    | .Not => wNot ((r c).e a)
    | .USub => wUnX (negO c.S) ((r c).e a)
    | _ => eFalse)
  | .BoolOp op vs _ => (match vs with
    | [] => eFalse
    | v :: ws => rB (r c).e op v ws)
  | .IfExp t a b _ => wIfE ((r c).t t) ((r c).e a) ((r c).e b)
  | .Compare a ops bs _ => (match ops, bs with
    | [op], [b] => needE (!behindInMarks op b) (wOpX (cmpO c.S op) ((r c).e a) ((r c).e b))
    | [op, op'], [b, d] => needE (!lastMarks [op, op'] [b, d]) (rChain op op' ((r c).e a) ((r c).e b) ((r c).e d))
    | _, _ => eFalse)
  | .Subscript a (.Slice lo hi none _) _ => wSl oCut ((r c).e a) (rP (r c).e lo) (rP (r c).e hi)
  | .Subscript a (.Slice none none (some (.UnaryOp .USub (.Constant (.int 1) _ _) _)) _) _ => wRev ((r c).e a)
  | .Subscript a b _ => needE (nsl b) (wOpX (ixO c.S) ((r c).e a) ((r c).e b))
  | .Attribute a f _ => needE (plainBase a) (wAttr c.S f ((r c).e a))
  | .Tuple es _ _ => wTup (rAs (r c).e es)
  | .List es _ => wLst (rAs (r c).e es)
  | .Call (.Name x _) args [] _ => needE (c.isG x && noStar args && !eqS x "__debug__") (rCallN (r c).e c x args)
  | .Call (.Attribute o m apos) args [] pos => needE (plainBase o && noStar args && decide (args.length < 30) && (apos.endLine == pos.line)) (rMeth (r c).e c o m args)
  | .ListComp elt gens scope _ => rLc r c elt gens scope
  | _ => eFalse
def rT (r : Cc → Rd) (c : Cc) : Expr → WT
  | .UnaryOp .Not a _ => wNotT ((r c).t a)
  | .BoolOp op vs _ => (match vs with
    | [] => tFalse
    | v :: ws => rTB (r c).t op v ws)
  | .Compare a ops bs _ => (match ops, bs with
    | [op], [b] => needT (!behindInMarks op b) (wTru (wOpX (cmpO c.S op) ((r c).e a) ((r c).e b)))
    | _, _ => tFalse)
  | .IfExp _ _ _ _ => tFalse
  | e => wTru ((r c).e e)
def rd0 : Rd := ⟨fun _ => eFalse, fun _ => tFalse⟩
def rd : Nat → Cc → Rd
  | 0 => fun _ => rd0
  | n + 1 => fun c => ⟨rE (rd n) c, rT (rd n) c⟩
section
variable {X : Cx} {W : WX} {c : Cc} {k : Nat}
theorem relG_ok {op : CmpOp} {g : Int → Int → Bool} (e : relG op = some g) : OpD X (compareOp op) (relD g) := by
  cases op <;> cases e
  · exact opD_ib op_lt
  · exact opD_ib op_le
  · exact opD_ib op_gt
  · exact opD_ib op_ge
theorem rChain_ok {op op' : CmpOp} {a b d : Expr} {wa wb wd : WE} {pos : Pos} (ha : JE X W a wa) (hb : JE X W b wb) (hd : JE X W d wd) (hm : lastMarks [op, op'] [b, d] = false) : JE X W (.Compare a [op, op'] [b, d] pos) (rChain op op' wa wb wd) := by
  unfold rChain
  split
  · split
    · exact je_chain (relG_ok (by assumption)) (relG_ok (by assumption)) ha hb hd hm
    · exact je_false
  · exact je_false
theorem rE_ok {r : Cc → Rd} (hr : RdOk r) (hc : CtxOk c X W k) (e : Expr) : JE X W e (rE r c e) := by
  obtain ⟨he, ht⟩ := hr c X W k hc
  unfold rE
  split
  · split
    · exact je_non
    · exact je_bl
    · exact je_int
    · exact je_str
    · exact je_false
  · refine je_need fun hn => ?_
    simp only [Bool.and_eq_true, Bool.not_eq_true'] at hn
    exact rName_ok hc (of_decide_eq_false hn.1) (of_decide_eq_false hn.2)
  · exact je_binX (op_binX hc.sok (hc.room.mono (by omega)) hc.tk _) (he _) (he _)
  · split
    · exact je_not (he _)
    · exact je_neg hc.sok (hc.room.mono (by omega)) hc.tk (he _)
    · exact je_false
  · split
    · exact je_false
    · exact rB_ok he _ _
  · exact je_if (ht _) (he _) (he _)
  · split
    · refine je_need fun hn => ?_
      exact je_cmpX (op_cmpX hc.sok (hc.room.mono (by omega)) hc.tk _) (he _) (he _) (by simpa using hn)
    · refine je_need fun hn => ?_
      exact rChain_ok (he _) (he _) (he _) (by simpa using hn)
    · exact je_false
  · exact je_slice slD_seq (he _) (rP_ok he _) (rP_ok he _)
  · exact je_rev (he _)
  · exact je_need fun hn => je_ixX (op_ixX hc.sok (hc.room.mono (by omega)) hc.tk) (he _) (he _) hn
  · exact je_need fun hn => je_attr hc.sok (hc.room.mono (by omega)) hc.tk (he _) (plainBase_ok hn _ _ _)
  · exact je_tup (rAs_ok he _)
  · exact je_lst (rAs_ok he _)
  · refine je_need fun hn => ?_
    simp only [Bool.and_eq_true, Bool.not_eq_true'] at hn
    exact rCallN_ok hc he hn.1.1 hn.1.2 (of_decide_eq_false hn.2)
  · refine je_need fun hn => ?_
    simp only [Bool.and_eq_true, decide_eq_true_eq] at hn
    exact rMeth_ok hc he hn.1.1.1 hn.1.1.2 hn.1.2 hn.2
  · exact rLc_ok hr hc _ _ _ _
  · exact je_false
theorem rT_ok {r : Cc → Rd} (hr : RdOk r) (hc : CtxOk c X W k) (e : Expr) : JT X W e (rT r c e) := by
  obtain ⟨he, ht⟩ := hr c X W k hc
  unfold rT
  split
  · exact jt_not (ht _)
  · split
    · exact jt_false
    · exact jt_w (rTB_ok ht _ _)
  · split
    · refine jt_need fun hn => ?_
      exact jt_cmpX (op_cmpX hc.sok (hc.room.mono (by omega)) hc.tk _) (he _) (he _) (by simpa using hn)
    · exact jt_false
  · exact jt_false
  · rename_i h1 h2 h3 h4
    refine jt_val (he _) fun whole => ?_
    cases e <;> first
      | rfl
      | exact absurd rfl (h2 _ _ _)
      | exact absurd rfl (h3 _ _ _ _)
      | exact absurd rfl (h4 _ _ _ _)
      | skip
    rename_i op a p
    cases op <;> first
      | rfl
      | exact absurd rfl (h1 _ _)
theorem rd_ok : ∀ n, RdOk (rd n)
  | 0 => fun c X W k _ => ⟨fun _ => je_false, fun _ => jt_false⟩
  | n + 1 => fun c X W k hc => ⟨fun e => rE_ok (rd_ok n) hc e, fun e => rT_ok (rd_ok n) hc e⟩
end
end Fs
set_option maxHeartbeats 4000000
/-! Fs20: readings of statements by their form. -/
namespace Fs
open PySem PySem.Spec PyProof.Rows L2

def needS (b : Bool) (w : WS) : WS := match b with
  | true => w
  | false => sFalse
theorem js_need {X : Cx} {W : WX} {e : Stmt} {b : Bool} {w : WS} (h : b = true → JS X W e w) : JS X W e (needS b w) := by
  cases b with
  | true => exact h rfl
  | false => exact js_false
def isComp : Expr → Bool
  | .ListComp _ _ _ _ => true
  | .SetComp _ _ _ _ => true
  | .DictComp _ _ _ _ _ => true
  | _ => false
theorem swN {v : Expr} (h : isComp v = false) (t : Option Expr) (l : Nat) (env : Env) : swapsWith v t l env = pure false := by
  cases v <;> first | rfl | cases h
def Cc.bk (c : Cc) : ScopeKind := if c.sc.kind.isAnnotationScope then ScopeKind.function else c.sc.kind
/-- a comprehension's value on one line with its name -/
def swB (c : Cc) (x : Str) (tp : Pos) (scope : Scope) (p : Pos) : Bool :=
  c.bk == .function && c.kd x == some .local && tp.line == p.line && !(scope.names.any fun (n, k) => n == x && (k == .local || k == .cell))
/-- the names of a parallel assignment -/
def swT (c : Cc) (ts vs : List Expr) : Option (Option (List Str)) :=
  if !(ts.length == 2 || ts.length == 3) || vs.length != ts.length || c.bk != .function then some none
  else if (vs.any fun | .Starred .. => true | _ => false) then some none
  else
    let line := (ts.head?.map (·.pos.line)).getD 0
    let names := ts.filterMap fun
      | .Name id pos => if c.kd id == some .local && pos.line == line then some id else none
      | _ => none
    if names.length != ts.length || names.eraseDups.length != names.length then some none
    else if vs.all (foldedForSure 8) then some none
    else if vs.all (constantsAlone 8) then none
    else some (some names)
def rPar2 (r : Expr → WE) (c : Cc) (x y : Str) (vs : List Expr) : WS := match ixOf c.N x with
  | some i => (match ixOf c.N y with
    | some j => needS (decide (i ≠ j) && decide (c.kd x = some .local) && decide (c.kd y = some .local)) (wPar i j (rA r vs))
    | none => sFalse)
  | none => sFalse
def rPar3 (r : Expr → WE) (c : Cc) (x y z : Str) (vs : List Expr) : WS := match ixOf c.N x with
  | some i => (match ixOf c.N y with
    | some j => (match ixOf c.N z with
      | some l => needS (decide (i ≠ j) && decide (i ≠ l) && decide (j ≠ l) && decide (c.kd x = some .local) && decide (c.kd y = some .local) && decide (c.kd z = some .local)) (wPar3 i j l (rA r vs))
      | none => sFalse)
    | none => sFalse)
  | none => sFalse
def rAsgT (r : Expr → WE) (c : Cc) (ts : List Expr) (kt : Nat) (pt : Pos) (v : Expr) : WS := match v with
  | .Tuple vs _ _ => needS (noStar vs) (match swT c ts vs with
    | some none => wAsg (r v) (rG r c 9 (.Tuple ts kt pt)).1
    | some (some ns) => (match ts, vs, ns with
      | [.Name x _, .Name y _], [a, b], [x', y'] => needS (eqS x x' && eqS y y') (rPar2 r c x y [a, b])
      | [.Name x _, .Name y _, .Name z _], [a, b, d], [x', y', z'] => needS (eqS x x' && eqS y y' && eqS z z') (rPar3 r c x y z [a, b, d])
      | _, _, _ => sFalse)
    | none => sFalse)
  | _ => wAsg (r v) (rG r c 9 (.Tuple ts kt pt)).1
def rSetN (r : Cc → Rd) (c : Cc) (x : Str) (tp : Pos) (v : Expr) : WS := match c.stores x with
  | true => (match ixOf c.N x with
    | some i => (match isComp v with
      | false => wSet i ((r c).e v)
      | true => (match v with
        | .ListComp elt gens scope p => (match swB c x tp scope p with
          | true => (match gens with
            | [_] => wSet i (rLc r c elt gens scope)
            | _ => sFalse)
          | false => wSet i ((r c).e v))
        | _ => sFalse))
    | none => sFalse)
  | false => sFalse
def rAsg (r : Cc → Rd) (c : Cc) (v : Expr) : Expr → WS
  | .Name x tp => rSetN r c x tp v
  | .Tuple ts kt pt => rAsgT (r c).e c ts kt pt v
  | .Attribute o f _ => wSlot c.S f ((r c).e o) ((r c).e v)
  | .Subscript o i p => wAsg ((r c).e v) (rG (r c).e c 9 (.Subscript o i p)).1
  | _ => sFalse
def rSs (f : Stmt → WS) : List Stmt → WS
  | [] => wNext
  | s :: rest => (match rest with
    | [] => f s
    | _ :: _ => wSeq (f s) (rSs f rest))
def rS (r : Cc → Rd) (c : Cc) : Nat → Stmt → WS
  | 0, _ => sFalse
  | n + 1, s => match s with
    | .Return none _ => wRetN
    | .Return (some e) _ => wRet ((r c).e e)
    | .Pass _ => wNext
    | .Break _ => wBrk
    | .Continue _ => wCnt
    | .Expr e _ => needS (!isComp e) (wDrop ((r c).e e))
    | .If t a b _ => wIf ((r c).t t) (rSs (rS r c n) a) (rSs (rS r c n) b)
    | .While t a [] _ => wWhile ((r c).t t) (rSs (rS r c n) a)
    | .For tg it a [] _ => needS (nset it) (wFor (rI (r c).e c tg it) (rG (r c).e c 9 tg).1 (rSs (rS r c n) a))
    | .Assign [tg] v _ => rAsg r c v tg
    | _ => sFalse
section
variable {X : Cx} {W : WX} {c : Cc} {k : Nat}
theorem kd_eq (hc : CtxOk c X W k) (x : Str) : X.env.kindOf x = c.kd x := by
  show X.env.scope.names.lookup x = _
  rw [hc.sc]
  rfl
theorem bk_eq (hc : CtxOk c X W k) : X.env.blockKind = c.bk := by
  unfold Env.blockKind Cc.bk
  rw [hc.sc]
theorem swB_ok (hc : CtxOk c X W k) {x : Str} {tp : Pos} {scope : Scope} {p : Pos} {elt : Expr} {gens : List Comprehension} {l : Nat} : swapsWith (.ListComp elt gens scope p) (some (.Name x tp)) l X.env = pure (swB c x tp scope p) := by
  show pure (X.env.blockKind == .function && X.env.kindOf x == some .local && tp.line == p.line && !(scope.names.any fun (n, k) => n == x && (k == .local || k == .cell))) = _
  rw [bk_eq hc, kd_eq hc]
  rfl
theorem swGen {A B C D : Bool} {ns ns' : List Str} {l : Nat} {o : Option (List Str)} {u : Sem (Option (List Str))} (e : ns = ns')
    (h : (if A then some none else if B then some none else if (ns.length != l || ns.eraseDups.length != ns.length) = true then some none else if C then some none else if D then none else some (some ns)) = some o) :
    (if A then pure none else if B then pure none else if (ns'.length != l || ns'.eraseDups.length != ns'.length) = true then pure none else if C then pure none else if D then u else pure (some ns')) = (pure o : Sem (Option (List Str))) := by
  subst e
  cases A with
  | true => cases h; rfl
  | false =>
    cases B with
    | true => cases h; rfl
    | false =>
      simp only [Bool.false_eq_true, if_false] at h ⊢
      split at h
      · rename_i q; rw [if_pos q]; cases h; rfl
      · rename_i q
        rw [if_neg q]
        cases C with
        | true => cases h; rfl
        | false =>
          cases D with
          | true => cases h
          | false => cases h; rfl
theorem swT_ok (hc : CtxOk c X W k) {ts vs : List Expr} {kt k2 : Nat} {pt p2 : Pos} {o : Option (List Str)} (h : swT c ts vs = some o) : swappedStores [.Tuple ts kt pt] (.Tuple vs k2 p2) X.env = pure o := by
  unfold swT at h
  simp only [swappedStores]
  rw [bk_eq hc]
  simp only [kd_eq hc]
  exact swGen rfl h
theorem loc_of (hc : CtxOk c X W k) {x : Str} (hst : c.stores x = true) : Loc X.env.scope x ∧ (X.fn x = true ∨ X.env.scope.names.lookup x = some .local) := by
  have hl : (X.env.scope.names.lookup x = some .local) ∨ (X.env.scope.names.lookup x = some .cell ∧ c.fnl x = true) := by
    rw [hc.sc]
    unfold Cc.stores Cc.kd at hst
    split at hst
    · exact .inl (by assumption)
    · exact .inr ⟨by assumption, hst⟩
    · cases hst
  exact ⟨hl.elim .inl fun z => .inr z.1, hl.elim .inr fun z => .inl (hc.fn x z.2)⟩
theorem js_wsetF {st : Stmt} {i : Nat} {b : Bool} {w : WE} (h : b = true → JS X W st (wSet i w)) : JS X W st (wSet i (needE b w)) := by
  cases b with
  | true => exact h rfl
  | false => exact ⟨fun pins s σ H D I h => by obtain ⟨_, _, _, _, _, _, _, _, h, _⟩ := h; exact False.elim h⟩
theorem rSetN_ok {r : Cc → Rd} (hr : RdOk r) (hc : CtxOk c X W k) (x : Str) (tp : Pos) (v : Expr) (pos : Pos) : JS X W (.Assign [.Name x tp] v pos) (rSetN r c x tp v) := by
  obtain ⟨he, ht⟩ := hr c X W k hc
  unfold rSetN
  split
  · rename_i hst
    obtain ⟨l1, l2⟩ := loc_of hc hst
    split
    · rename_i i ei
      have hi : X.N[i]? = some x := by rw [hc.N]; exact ixOf_ok ei
      split
      · rename_i hv
        exact js_set hc.nd hi l1 (he v) (swN hv _ _ _) l2
      · rename_i hcv
        split
        · rename_i elt gens scope p
          split
          · rename_i hb
            split
            · rename_i g
              obtain ⟨tg, iter, ifs, a⟩ := g
              have hbl := fun (s : Shared) (H : Hp) (C : Addr) (cl : List (Str × Addr)) (fp : List Addr) => hr (c.blk scope) _ _ k (hc.blk scope s H C cl fp)
              have hl : X.env.scope.names.lookup x = some .local := by
                unfold swB at hb
                simp only [Bool.and_eq_true] at hb
                have := hb.1.1.2
                rw [hc.sc]
                simpa [Cc.kd] using this
              unfold rLc
              refine js_wsetF fun hn => ?_
              simp only [Bool.and_eq_true, decide_eq_true_eq] at hn
              obtain ⟨⟨⟨rfl, h1⟩, h2⟩, h3⟩ := hn
              exact js_setLc hc.calm hc.nd hi hl (by rw [swB_ok hc, hb]) (rI_ok hc he tg iter) (by rw [hc.N, hc.sc]; exact blkOk_by h2) (subN_ok h3)
                (fun s H C cl fp => rG_ok (hc.blk scope s H C cl fp) (hbl s H C cl fp).1 9 tg) (fun s H C cl fp => rIfs_ok (hbl s H C cl fp).2 ifs) (fun s H C cl fp => (hbl s H C cl fp).1 elt) (foldOk h1 _)
            · exact js_false
          · rename_i hb
            exact js_set hc.nd hi l1 (he _) (by rw [swB_ok hc, hb]) l2
        · exact js_false
    · exact js_false
  · exact js_false
theorem swS {tg v : Expr} {l : Nat} {env : Env} (h : (match tg with | .Name _ _ => false | _ => true) = true) : swapsWithSole [tg] v l env = pure false := by
  cases tg <;> first
    | (cases v <;> rfl)
    | cases h
theorem rAsgG_ok (hc : CtxOk c X W k) {r : Expr → WE} (he : ∀ e, JE X W e (r e)) (tg v : Expr) (pos : Pos) (h : (match tg with | .Name _ _ => false | .Starred _ _ => false | _ => true) = true) (hw : swappedStores [tg] v X.env = pure none) : JS X W (.Assign [tg] v pos) (wAsg (r v) (rG r c 9 tg).1) := by
  refine js_asg (he v) (rG_ok hc he 9 tg) (swS ?_) hw ?_
  · cases tg <;> first | rfl | cases h
  · rw [asgE (by cases tg <;> first | rfl | cases h)]
    rfl
theorem rAsgT_ok (hc : CtxOk c X W k) {r : Expr → WE} (he : ∀ e, JE X W e (r e)) (ts : List Expr) (kt : Nat) (pt : Pos) (v : Expr) (pos : Pos) : JS X W (.Assign [.Tuple ts kt pt] v pos) (rAsgT r c ts kt pt v) := by
  unfold rAsgT
  split
  · rename_i vs k2 p2
    refine js_need fun hvs => ?_
    split
    · rename_i q
      exact rAsgG_ok hc he _ _ pos rfl (swT_ok hc q)
    · rename_i ns q
      split
      · rename_i x px y py a b x' y'
        refine js_need fun hn => ?_
        simp only [Bool.and_eq_true] at hn
        obtain rfl := eqS_ok hn.1
        obtain rfl := eqS_ok hn.2
        unfold rPar2
        split
        · rename_i i ei
          split
          · rename_i j ej
            refine js_need fun hn => ?_
            simp only [Bool.and_eq_true, decide_eq_true_eq] at hn
            exact js_par hc.calm hc.nd (by rw [hc.N]; exact ixOf_ok ei) (by rw [hc.N]; exact ixOf_ok ej) hn.1.1 (by rw [hc.sc]; exact hn.1.2) (by rw [hc.sc]; exact hn.2) (rA_ok he hvs) (swT_ok hc q) rfl
          · exact js_false
        · exact js_false
      · rename_i x px y py z pz a b d x' y' z'
        refine js_need fun hn => ?_
        simp only [Bool.and_eq_true] at hn
        obtain rfl := eqS_ok hn.1.1
        obtain rfl := eqS_ok hn.1.2
        obtain rfl := eqS_ok hn.2
        unfold rPar3
        split
        · rename_i i ei
          split
          · rename_i j ej
            split
            · rename_i l el
              refine js_need fun hn => ?_
              simp only [Bool.and_eq_true, decide_eq_true_eq] at hn
              exact js_par3 hc.calm hc.nd (by rw [hc.N]; exact ixOf_ok ei) (by rw [hc.N]; exact ixOf_ok ej) (by rw [hc.N]; exact ixOf_ok el) hn.1.1.1.1.1 hn.1.1.1.1.2 hn.1.1.1.2 (by rw [hc.sc]; exact hn.1.1.2) (by rw [hc.sc]; exact hn.1.2) (by rw [hc.sc]; exact hn.2) (rA_ok he hvs) (swT_ok hc q) rfl
            · exact js_false
          · exact js_false
        · exact js_false
      · exact js_false
    · exact js_false
  · rename_i hv
    refine rAsgG_ok hc he _ _ pos rfl ?_
    cases v <;> first | rfl | exact absurd rfl (hv _ _ _)
theorem rAsg_ok {r : Cc → Rd} (hr : RdOk r) (hc : CtxOk c X W k) (v tg : Expr) (pos : Pos) : JS X W (.Assign [tg] v pos) (rAsg r c v tg) := by
  obtain ⟨he, ht⟩ := hr c X W k hc
  unfold rAsg
  split
  · exact rSetN_ok hr hc _ _ _ _
  · exact rAsgT_ok hc he _ _ _ _ _
  · exact js_slot hc.sok (he _) (he _) (by cases v <;> rfl)
  · exact rAsgG_ok hc he _ _ pos rfl (by cases v <;> rfl)
  · exact js_false
theorem rSs_ok {f : Stmt → WS} (h : ∀ s, JS X W s (f s)) : ∀ ss, JSs X W ss (rSs f ss)
  | [] => jss_nil
  | [s] => jss_one (h s)
  | s :: t :: rest => show JSs X W (s :: t :: rest) (wSeq (f s) (rSs f (t :: rest))) from jss_cons (u := f s) (v := rSs f (t :: rest)) (h s) (rSs_ok h (t :: rest))
theorem rS_ok {r : Cc → Rd} (hr : RdOk r) (hc : CtxOk c X W k) (hp : PassesOwn (model X.prog X.w) X.A X.env X.xe) : ∀ (n : Nat) (s : Stmt), JS X W s (rS r c n s)
  | 0, _ => js_false
  | n + 1, s => by
    obtain ⟨he, ht⟩ := hr c X W k hc
    unfold rS
    split
    · exact js_retN
    · exact js_ret (he _)
    · exact js_pass
    · exact js_break
    · exact js_continue
    · exact js_need fun hn => js_expr (he _) (swN (by simpa using hn) _ _ _)
    · exact js_if (ht _) (rSs_ok (rS_ok hr hc hp n) _) (rSs_ok (rS_ok hr hc hp n) _)
    · exact js_while hp (ht _) (rSs_ok (rS_ok hr hc hp n) _)
    · exact js_need fun hn => js_for hp hc.calm (rI_ok hc he _ _) (rG_ok hc he 9 _) (rSs_ok (rS_ok hr hc hp n) _) (foldOk hn _)
    · exact rAsg_ok hr hc _ _ _
    · exact js_false
end
end Fs
set_option maxHeartbeats 4000000
/-! Fs21: what a head tells: defs wherever they stand, classes with slots, properties. -/
namespace Fs
open PySem PySem.Spec PyProof.Rows L2

/-! ### addresses -/
/-- the getter of a property -/
def gtA (K : PySem.W.Frag) (c f : Str) : Addr := match PySem.W.recIn K (He.ma K (He.ga K c) f) "property" with
  | some (.ref g :: _) => g
  | _ => 0
inductive Pl where
  | f (x : Str) | m (c m : Str) | p (c f : Str)
def Pl.at (K : PySem.W.Frag) : Pl → Addr
  | .f x => He.ga K x
  | .m x y => He.ma K (He.ga K x) y
  | .p x y => gtA K x y

/-! ### defs -/
def fnAt (K : PySem.W.Frag) (a : Addr) : He.FnW := match K.lookup a with
  | some ⟨_, _, .func fd, _⟩ => some (fd.name, fd.qualname, fd.params, fd.body, fd.scope, fd.globals, fd.closure, fd.builtins)
  | _ => none
structure DefG where
  at_ : Pl
  name : Str
  qual : Str
  params : Arguments
  body : List Stmt
  scope : Scope
  dfl : List He.Dv := []
def DefG.val (d : DefG) : He.FnW := some (d.name, d.qual, d.params, .stmts d.body, d.scope, mainGlobals, [], builtinsNs)
def DefG.dvs (K : PySem.W.Frag) (d : DefG) : List V := d.dfl.map (He.Dv.v K)
def DefG.ok (K : PySem.W.Frag) (d : DefG) : Bool := PySem.W.keepIn K (.ref (d.at_.at K)) && (match K.lookup (d.at_.at K) with
  | some ⟨_, _, .func fd, _⟩ => PySem.W.codeIn K fd.code d.qual && (He.dflB K fd.defaults (d.dvs K) && He.kwdB K fd.kwdefaults [])
  | _ => false)
theorem DefG.funD {K : PySem.W.Frag} {d : DefG} (e : fnAt K (d.at_.at K) = d.val) (c : d.ok K = true) : ∃ fd, FunD K d.name d.qual d.params d.body d.scope (d.dvs K) [] (d.at_.at K) fd := by
  obtain ⟨kp, c2⟩ := He.ba c
  unfold fnAt at e
  cases q : K.lookup (d.at_.at K) with
  | none => rw [q] at c2; cases c2
  | some o =>
    obtain ⟨oc, od, dt, osl⟩ := o
    rw [q] at c2 e
    cases dt with
    | func fd =>
      obtain ⟨n1, n2, n3, n4, n5, n6, n7, n8, n9, n10, n11, n12, n13, n14, n15⟩ := fd
      have e2 : (some (n1, n2, n3, n4, n5, n6, n7, n15) : He.FnW) = some (d.name, d.qual, d.params, .stmts d.body, d.scope, mainGlobals, [], builtinsNs) := e
      simp only [Option.some.injEq, Prod.mk.injEq] at e2
      obtain ⟨h1, h2, h3, h4, h5, h6, h7, h8⟩ := e2
      subst h1 h2 h3 h4 h5 h6 h7 h8
      have c3 : (PySem.W.codeIn K n13 d.qual && (He.dflB K n8 (d.dvs K) && He.kwdB K n9 [])) = true := c2
      obtain ⟨k1, k2⟩ := He.ba c3
      obtain ⟨k3, k4⟩ := He.ba k2
      exact ⟨_, ⟨oc, od, n8, n9, n10, n11, n12, n13, n14, osl, rfl, q, k1, He.dflB_ok k3, He.kwdB_ok k4⟩, kp⟩
    | _ => cases c2
theorem DefG.fnIn {K : PySem.W.Frag} {d : DefG} (c : d.ok K = true) : PySem.W.fnIn K (d.at_.at K) = true := by
  obtain ⟨kp, c2⟩ := He.ba c
  unfold PySem.W.fnIn
  cases q : K.lookup (d.at_.at K) with
  | none => rw [q] at c2; cases c2
  | some o =>
    obtain ⟨oc, od, dt, osl⟩ := o
    rw [q] at c2
    cases dt <;> first | rfl | cases c2

/-! ### classes with slots -/
def slB (K : PySem.W.Frag) (c f : Str) (i : Nat) : Bool := match PySem.W.findIn K (.ref (He.ga K c)) f with
  | some (some (.ref p)) => He.eqO (PySem.W.specialIn K (.ref p) "__get__") (some (some (.builtin "member_descriptor.__get__"))) && (decide (PySem.W.takesIn K (.ref p) = some true) &&
    (decide (PySem.W.typeIn K (.ref p) = some (.type "member_descriptor")) && (decide (PySem.W.slotIn K p (He.ga K c) = some i) && decide (i < 1000))))
  | _ => false
def noTys : List String := ["NoneType", "bool", "int", "str", "tuple", "list", "dict"]
def clsB (K : PySem.W.Frag) (c : Str) (sl : List (Str × Nat)) : Bool :=
  PySem.W.plainGet K (He.ga K c) Str.empty && (PySem.W.isClsIn K (He.ga K c) && (PySem.W.plainOver K (He.ga K c) && (He.eqO (PySem.W.findIn K (.ref (He.ga K c)) "__setattr__") (some (some (.builtin "object.__setattr__"))) &&
  (He.eqO (PySem.W.findIn K (.ref (He.ga K c)) "__class__") (some (some (.builtin "object.__class__"))) && (He.eqO (PySem.W.specialIn K (.builtin "object.__class__") "__get__") (some (some (.builtin "getset_descriptor.__get__"))) &&
  (decide (PySem.W.takesIn K (.builtin "object.__class__") = some true) && (decide (PySem.W.mroIn K (He.ga K c) (.type "object") = some true) && (He.eqO (PySem.W.findIn K (.ref (He.ga K c)) "__ne__") (some (some (.builtin "object.__ne__"))) && (decide (PySem.W.mroIn K (He.ga K c) (.type "int") = some false) && (PySem.W.selfFirst K (He.ga K c) && (decide (PySem.W.typeIn K (.ref (He.ga K c)) = some (.type "type")) &&
  ((noTys.all fun T => decide (PySem.W.kitOne K (.ref (He.ga K c)) (.type T) = some false)) && sl.all fun p => slB K c p.1 p.2))))))))))))
def SlKnown (c : Str) (sl : List (Str × Nat)) : Prop := ∀ f i, slotIx c f = some i → (f, i) ∈ sl
theorem clsB_ok {K : PySem.W.Frag} {c : Str} {sl : List (Str × Nat)} (hs : SlKnown c sl) (h : clsB K c sl = true) : ClsF K c := by
  obtain ⟨h1, h⟩ := He.ba h
  obtain ⟨h2, h⟩ := He.ba h
  obtain ⟨h3, h⟩ := He.ba h
  obtain ⟨h4, h⟩ := He.ba h
  obtain ⟨h5, h⟩ := He.ba h
  obtain ⟨h6, h⟩ := He.ba h
  obtain ⟨h7, h⟩ := He.ba h
  obtain ⟨h8, h⟩ := He.ba h
  obtain ⟨hne, h⟩ := He.ba h
  obtain ⟨hni, h⟩ := He.ba h
  obtain ⟨h9, h⟩ := He.ba h
  obtain ⟨h10, h⟩ := He.ba h
  obtain ⟨h11, h12⟩ := He.ba h
  refine ⟨⟨h1, h2, h3, He.eqO_ok h4⟩, ⟨He.eqO_ok h5, He.eqO_ok h6, of_decide_eq_true h7, of_decide_eq_true h8⟩, h9, fun f i e => ?_, of_decide_eq_true h10, fun T hT => of_decide_eq_true (List.all_eq_true.mp h11 T hT), He.eqO_ok hne, of_decide_eq_true hni⟩
  have z := List.all_eq_true.mp h12 _ (hs f i e)
  unfold slB at z
  dsimp only at z
  split at z
  · rename_i p q
    obtain ⟨z1, z⟩ := He.ba z
    obtain ⟨z2, z⟩ := He.ba z
    obtain ⟨z3, z⟩ := He.ba z
    obtain ⟨z4, z5⟩ := He.ba z
    exact ⟨p, q, He.eqO_ok z1, of_decide_eq_true z2, of_decide_eq_true z3, of_decide_eq_true z4, of_decide_eq_true z5⟩
  · cases z
def prpB (K : PySem.W.Frag) (c f : Str) : Bool := He.eqO (PySem.W.findIn K (.ref (He.ga K c)) f) (some (some (.ref (He.ma K (He.ga K c) f)))) && (He.eqO (PySem.W.specialIn K (.ref (He.ma K (He.ga K c) f)) "__get__") (some (some (.builtin "property.__get__"))) &&
  (decide (PySem.W.takesIn K (.ref (He.ma K (He.ga K c) f)) = some true) && (match PySem.W.recIn K (He.ma K (He.ga K c) f) "property" with
    | some (.ref _ :: _) => true
    | _ => false)))
theorem prpB_ok {K : PySem.W.Frag} {c f : Str} (h : prpB K c f = true) : PrpF K (He.ga K c) f (He.ma K (He.ga K c) f) (gtA K c f) := by
  obtain ⟨h1, h⟩ := He.ba h
  obtain ⟨h2, h⟩ := He.ba h
  obtain ⟨h3, h4⟩ := He.ba h
  refine ⟨He.eqO_ok h1, He.eqO_ok h2, of_decide_eq_true h3, ?_⟩
  unfold gtA
  split at h4
  · rename_i g r q
    rw [q]
    exact ⟨r, rfl⟩
  · cases h4

/-! ### the Hook -/
def obsF (fn : List DefG) (ex : PySem.W.Frag → Bool) (K : PySem.W.Frag) : He.AlD := (ex K && fn.all fun d => d.ok K, fn.map fun d => fnAt K (d.at_.at K))
def valF (fn : List DefG) : He.AlD := (true, fn.map DefG.val)
def SaysF (fn : List DefG) (ex : PySem.W.Frag → Bool) (K : PySem.W.Frag) : Prop := obsF fn ex K = valF fn
def obsFG (n : Nat) (fn : List DefG) (ex : PySem.W.Frag → Bool) (g : Addr → Option Obj) : He.AlD := obsF fn ex (He.frG g (He.asD g n))
def hookF (n : Nat) (fn : List DefG) (ex : PySem.W.Frag → Bool) : PySem.W.Hook where
  α := He.AlD
  obs := fun s => obsFG n fn ex s.heap.get?
  val := fun _ => valF fn
  says := fun _ h => ∃ K : PySem.W.Frag, K.In h ∧ SaysF fn ex K
  of := fun _ _ e => ⟨_, He.frG_in, e⟩
  keeps := fun _ _ _ ⟨K, hK, c⟩ k => ⟨K, PySem.W.Frag.In.keeps hK k, c⟩
theorem obsFG_eq {n : Nat} {fn : List DefG} {ex : PySem.W.Frag → Bool} {g : Addr → Option Obj} {s : Shared} (h : ∀ a, g a = s.heap.get? a) : obsFG n fn ex g = (hookF n fn ex).obs s := by
  have e : g = s.heap.get? := funext h
  rw [e]
  rfl
theorem SaysF.ex {fn : List DefG} {ex : PySem.W.Frag → Bool} {K : PySem.W.Frag} (c : SaysF fn ex K) : ex K = true := (He.ba (show (ex K && fn.all fun d => d.ok K) = true from congrArg (fun z : He.AlD => z.1) c)).1
theorem SaysF.def_ {fn : List DefG} {ex : PySem.W.Frag → Bool} {K : PySem.W.Frag} (c : SaysF fn ex K) (i : Nat) {d : DefG} (h : fn[i]? = some d) : d.ok K = true ∧ ∃ fd, FunD K d.name d.qual d.params d.body d.scope (d.dvs K) [] (d.at_.at K) fd := by
  have c2 := (He.ba (show (ex K && fn.all fun d => d.ok K) = true from congrArg (fun z : He.AlD => z.1) c)).2
  have e : fn.map (fun d => fnAt K (d.at_.at K)) = fn.map DefG.val := congrArg (fun z : He.AlD => z.2) c
  have e2 : (fn.map fun d => fnAt K (d.at_.at K))[i]? = (fn.map DefG.val)[i]? := by rw [e]
  rw [List.getElem?_map, List.getElem?_map, h] at e2
  have ok := List.all_eq_true.mp c2 d (List.mem_of_getElem? h)
  exact ⟨ok, DefG.funD (Option.some.inj e2) ok⟩

/-! ### what is known of a module -/
structure Mo where
  ci : List (Str × Int)
  cz : List (Str × Str)
  cg : List Str
  cc : List (Str × List (Str × Nat))
  cm : List (Str × Str)
  cp : List (Str × Str)
def Mo.ok (m : Mo) (K : PySem.W.Frag) : Bool :=
  (m.ci.all fun p => (He.Fa.int p.1 p.2).ok K) && ((m.cz.all fun p => (He.Fa.str p.1 p.2).ok K) && ((m.cg.all fun x => (He.Fa.glo x).ok K) && ((bltNames.all fun x => (He.Fa.free x).ok K) &&
  ((m.cc.all fun p => (He.Fa.mkr p.1).ok K && clsB K p.1 p.2) && ((m.cm.all fun p => (He.Fa.meth p.1 p.2).ok K) && (m.cp.all fun p => prpB K p.1 p.2))))))
def Mo.gi (m : Mo) (x : Str) : Option Dt := match m.ci.lookup x with
  | some i => some (.int i)
  | none => (match m.cz.lookup x with
    | some z => some (.str z)
    | none => none)
def Mo.gl (m : Mo) (x : Str) : Bool := m.cg.contains x
structure MoOk' (m : Mo) (K : PySem.W.Frag) (mg : Str → Option Value) : Prop where
  gi : ∀ x d, m.gi x = some d → (∃ i t, d = .int i ∧ mg x = some (.int i t)) ∨ (∃ z t, d = .str z ∧ mg x = some (.str z t))
  gl : ∀ x, m.gl x = true → mg x = some (.ref (He.ga K x))
  bn : ∀ x ∈ bltNames, mg x = none
theorem Mo.facts {m : Mo} {K : PySem.W.Frag} {h : Heap} {mg : Str → Option Value} (X : K.In h) (G : h.Ns mainGlobals mg) (c : m.ok K = true) : MoOk' m K mg := by
  obtain ⟨c1, c⟩ := He.ba c
  obtain ⟨c2, c⟩ := He.ba c
  obtain ⟨c3, c⟩ := He.ba c
  obtain ⟨c4, _⟩ := He.ba c
  refine ⟨fun x d e => ?_, fun x e => ?_, fun x hx => He.free_ok X G (List.all_eq_true.mp c4 x hx)⟩
  · unfold Mo.gi at e
    split at e
    · rename_i i q
      cases e
      obtain ⟨t, ht⟩ := He.int_ok X G (List.all_eq_true.mp c1 _ (lookup_mem q))
      exact .inl ⟨i, t, rfl, ht⟩
    · split at e
      · rename_i z q
        cases e
        obtain ⟨t, ht⟩ := He.str_ok X G (List.all_eq_true.mp c2 _ (lookup_mem q))
        exact .inr ⟨z, t, rfl, ht⟩
      · cases e
  · unfold Mo.gl at e
    exact He.glo_ok X G (List.all_eq_true.mp c3 x (by simpa using e))
theorem Mo.cls_ok {m : Mo} {K : PySem.W.Frag} (c : m.ok K = true) {p : Str × List (Str × Nat)} (h : p ∈ m.cc) (hs : SlKnown p.1 p.2) : ClsF K p.1 ∧ Mk K (He.ga K p.1) (He.ma K (He.ga K p.1) "__init__") := by
  obtain ⟨_, c⟩ := He.ba c
  obtain ⟨_, c⟩ := He.ba c
  obtain ⟨_, c⟩ := He.ba c
  obtain ⟨_, c⟩ := He.ba c
  obtain ⟨c5, _⟩ := He.ba c
  obtain ⟨d1, d2⟩ := He.ba (List.all_eq_true.mp c5 p h)
  exact ⟨clsB_ok hs d2, He.mkr_ok d1⟩
theorem Mo.meth_ok {m : Mo} {K : PySem.W.Frag} (c : m.ok K = true) {p : Str × Str} (h : p ∈ m.cm) : Meth K (He.ga K p.1) p.2 (He.ma K (He.ga K p.1) p.2) := by
  obtain ⟨_, c⟩ := He.ba c
  obtain ⟨_, c⟩ := He.ba c
  obtain ⟨_, c⟩ := He.ba c
  obtain ⟨_, c⟩ := He.ba c
  obtain ⟨_, c⟩ := He.ba c
  obtain ⟨c6, _⟩ := He.ba c
  exact He.meth_ok (List.all_eq_true.mp c6 p h)
theorem Mo.prp_ok {m : Mo} {K : PySem.W.Frag} (c : m.ok K = true) {p : Str × Str} (h : p ∈ m.cp) : PrpF K (He.ga K p.1) p.2 (He.ma K (He.ga K p.1) p.2) (gtA K p.1 p.2) := by
  obtain ⟨_, c⟩ := He.ba c
  obtain ⟨_, c⟩ := He.ba c
  obtain ⟨_, c⟩ := He.ba c
  obtain ⟨_, c⟩ := He.ba c
  obtain ⟨_, c⟩ := He.ba c
  obtain ⟨_, c7⟩ := He.ba c
  exact prpB_ok (List.all_eq_true.mp c7 p h)

/-! ### a def keeps its promise, by its reading -/
def rDef (m : Mo) (S : Sps) (N : List Str) (scope : Scope) (body : List Stmt) : WS := rSs (rS (rd 24) ⟨N, scope, fun _ => true, S, m.gi, m.gl⟩ 24) body
section
variable {P : Program} {w : World} {K : PySem.W.Frag} {mg : Str → Option Value} {base : Heap} {m : Mo} {S : Sps} {k : Nat}
theorem def_ok {x qual : Str} {params : Arguments} {body : List Stmt} {scope : Scope} {dvs : List V} {f : Addr} {fd : FuncData} {N ps : List Str} {sp : DSp}
    (L : MoOk' m K mg) (hS : SOk P w K mg base S k) (F : FunD K x qual params body scope dvs [] f fd) (Sc : FnScope N ps scope) (len : ∀ ds M P ex, sp ds M P ex → ds.length = ps.length)
    (spec : ∀ ds M P ex, sp ds M P ex → wBody N (rDef m S N scope body) ds M P ex) : FnOk P w K mg base (L2.CX P w) (k + 3) f fd ps (toSp K sp) := by
  refine fn_ok (k := k + 2) F Sc len (fun cdv A outer s H E hr => ?_) spec
  have hc : CtxOk ⟨N, scope, fun _ => true, S, m.gi, m.gl⟩ (cxOf (L2.CX P w) P w K mg base N qual scope f cdv A outer s H E) (fun cls d _ H => E cls d H) k := by
    refine ⟨rfl, Sc.nd, rfl, rfl, fun _ _ => rfl, hS, hr, ?_, L.gi, L.gl, L.bn⟩
    exact takes_of (E₁ := fun e' s'' => L2.CX P w outer H s E e' s'') rfl rfl rfl rfl
  exact rSs_ok (rS_ok (rd_ok 24) hc (passes_of rfl) 24) body
end
end Fs
set_option maxHeartbeats 0
namespace FsH
open PySem PySem.Spec PyProof.Rows L2 Fs
def top (i : Nat) : Stmt := PySem.Challenge.pw_finestairs_k06_whole_moved_and_held.main.body.getD i (.Pass ⟨0, 0, 0, 0⟩)
def fd0 : DefG := ⟨.f "is_ahead", "is_ahead", "is_ahead", defArgs (top 9), defBody (top 9), defScope (top 9), []⟩
def fd1 : DefG := ⟨.f "number_in", "number_in", "number_in", defArgs (top 11), defBody (top 11), defScope (top 11), []⟩
def fd2 : DefG := ⟨.f "spot_from", "spot_from", "spot_from", defArgs (top 10), defBody (top 10), defScope (top 10), []⟩
def fd3 : DefG := ⟨.f "leaving", "leaving", "leaving", defArgs (top 12), defBody (top 12), defScope (top 12), []⟩
def fd4 : DefG := ⟨.f "told", "told", "told", defArgs (top 13), defBody (top 13), defScope (top 13), []⟩
def fd5 : DefG := ⟨.f "spot_of", "spot_of", "spot_of", defArgs (top 7), defBody (top 7), defScope (top 7), []⟩
def fd6 : DefG := ⟨.f "number_on", "number_on", "number_on", defArgs (top 8), defBody (top 8), defScope (top 8), []⟩
def fd7 : DefG := ⟨.f "rate_on", "rate_on", "rate_on", defArgs (top 15), defBody (top 15), defScope (top 15), []⟩
def fd8 : DefG := ⟨.f "is_integer", "is_integer", "is_integer", defArgs (top 32), defBody (top 32), defScope (top 32), [.non, .non]⟩
def fd9 : DefG := ⟨.f "is_tuple", "is_tuple", "is_tuple", defArgs (top 33), defBody (top 33), defScope (top 33), [.non]⟩
def fd10 : DefG := ⟨.f "are_pieces", "are_pieces", "are_pieces", defArgs (top 36), defBody (top 36), defScope (top 36), []⟩
def fd11 : DefG := ⟨.f "check_day", "check_day", "check_day", defArgs (top 37), defBody (top 37), defScope (top 37), []⟩
def fd12 : DefG := ⟨.f "moved_pieces", "moved", "moved", defArgs (top 21), defBody (top 21), defScope (top 21), []⟩
def fd13 : DefG := ⟨.f "held_pieces", "held", "held", defArgs (top 23), defBody (top 23), defScope (top 23), []⟩
def fd14 : DefG := ⟨.p "Stairs" "pieces", "pieces", "Stairs.pieces", defArgs (inClass (top 38) 3), defBody (inClass (top 38) 3), defScope (inClass (top 38) 3), []⟩
def fd15 : DefG := ⟨.m "Stairs" "__init__", "__init__", "Stairs.__init__", defArgs (inClass (top 38) 1), defBody (inClass (top 38) 1), defScope (inClass (top 38) 1), []⟩
def fd16 : DefG := ⟨.m "Stairs" "__getitem__", "__getitem__", "Stairs.__getitem__", defArgs (inClass (top 38) 14), defBody (inClass (top 38) 14), defScope (inClass (top 38) 14), []⟩
def fd17 : DefG := ⟨.m "Stairs" "__eq__", "__eq__", "Stairs.__eq__", defArgs (inClass (top 38) 24), defBody (inClass (top 38) 24), defScope (inClass (top 38) 24), []⟩
def fd18 : DefG := ⟨.m "Stairs" "moved", "moved", "Stairs.moved", defArgs (inClass (top 38) 9), defBody (inClass (top 38) 9), defScope (inClass (top 38) 9), []⟩
def fd19 : DefG := ⟨.m "Stairs" "held", "held", "Stairs.held", defArgs (inClass (top 38) 10), defBody (inClass (top 38) 10), defScope (inClass (top 38) 10), []⟩
def fd20 : DefG := ⟨.f "_law_take", "_law_take", "_law_take", defArgs (top 42), defBody (top 42), defScope (top 42), []⟩
def fd21 : DefG := ⟨.f "_law_of", "_law_of", "_law_of", defArgs (top 43), defBody (top 43), defScope (top 43), []⟩
def fd22 : DefG := ⟨.f "_law_draws", "_law_draws", "_law_draws", defArgs (top 41), defBody (top 41), defScope (top 41), []⟩
def fd23 : DefG := ⟨.f "_law_cells", "_law_cells", "_law_cells", defArgs (top 44), defBody (top 44), defScope (top 44), []⟩
def fd24 : DefG := ⟨.f "_law_at", "_law_at", "_law_at", defArgs (top 45), defBody (top 45), defScope (top 45), []⟩
def fd25 : DefG := ⟨.f "_law_pieces", "_law_pieces", "_law_pieces", defArgs (top 46), defBody (top 46), defScope (top 46), []⟩
def fd26 : DefG := ⟨.f "_law_stairs", "_law_stairs", "_law_stairs", defArgs (top 47), defBody (top 47), defScope (top 47), []⟩
def fd27 : DefG := ⟨.f "_law_amount", "_law_amount", "_law_amount", defArgs (top 50), defBody (top 50), defScope (top 50), []⟩
def fd28 : DefG := ⟨.f "_law_first_off", "_law_first_off", "_law_first_off", defArgs (top 49), defBody (top 49), defScope (top 49), []⟩
def fd29 : DefG := ⟨.f "_law_canon", "_law_canon", "_law_canon", defArgs (top 48), defBody (top 48), defScope (top 48), []⟩
def fd30 : DefG := ⟨.f "_law_corners", "_law_corners", "_law_corners", defArgs (top 51), defBody (top 51), defScope (top 51), []⟩
def fd31 : DefG := ⟨.f "_law_are_pieces", "_law_are_pieces", "_law_are_pieces", defArgs (top 52), defBody (top 52), defScope (top 52), []⟩
def fd32 : DefG := ⟨.f "_law_numbers", "_law_numbers", "_law_numbers", defArgs (top 53), defBody (top 53), defScope (top 53), []⟩
def fd33 : DefG := ⟨.f "_law_is_as", "_law_is_as", "_law_is_as", defArgs (top 54), defBody (top 54), defScope (top 54), []⟩
def fd34 : DefG := ⟨.f "_law_ten", "_law_ten", "_law_ten", defArgs (top 55), defBody (top 55), defScope (top 55), []⟩
def fd35 : DefG := ⟨.f "_law_right", "_law_right", "_law_right", defArgs (top 56), defBody (top 56), defScope (top 56), []⟩
def fd36 : DefG := ⟨.f "law", "law", "law", defArgs (top 57), defBody (top 57), defScope (top 57), []⟩
def fn : List DefG := ([fd0, fd1, fd2, fd3, fd4, fd5, fd6, fd7, fd8, fd9] : List DefG) ++ ([fd10, fd11, fd12, fd13, fd14, fd15, fd16, fd17, fd18, fd19] : List DefG) ++ ([fd20, fd21, fd22, fd23, fd24, fd25, fd26, fd27, fd28, fd29] : List DefG) ++ ([fd30, fd31, fd32, fd33, fd34, fd35, fd36] : List DefG)
def mo : Mo := ⟨[("MOST_FIGURES", 3000), ("TRIPLE", 3)], [("BLANK", " "), ("COMMA", ", "), ("MINUS", "-"), ("FIGURES", "0123456789")], (["is_ahead", "number_in", "spot_from", "leaving", "told", "spot_of", "number_on", "rate_on", "is_integer", "is_tuple", "are_pieces", "check_day", "moved_pieces", "held_pieces", "Stairs", "_law_take", "_law_of", "_law_draws", "_law_cells", "_law_at", "_law_pieces", "_law_stairs", "_law_amount", "_law_first_off", "_law_canon", "_law_corners", "_law_are_pieces", "_law_numbers", "_law_is_as", "_law_ten", "_law_right", "law"] : List String).map Str.ofString, [("Stairs", [("own_pieces", 0)])], [("Stairs", "__init__"), ("Stairs", "__getitem__"), ("Stairs", "__eq__"), ("Stairs", "moved"), ("Stairs", "held")], [("Stairs", "pieces")]⟩
abbrev R : PySem.W.OpenRow := PySem.W.OpenLaw.row PySem.Challenge.rw_finestairs_k06_whole_moved_and_held
abbrev hk : PySem.W.Hook := hookF 5 fn mo.ok
def ob (s : PySem.W.SharedT) : He.AlD := obsFG 5 fn mo.ok (HandSHeadRun.getT s)
theorem ob_eq (s : PySem.W.SharedT) : ob s = hk.obs s.abs := obsFG_eq (HandSHeadRun.getT_eq s)
def loose : List PySem.Str := (["_wall", "FineError", "BadPieces", "BadDay", "BadText", "spot_of", "number_on", "is_ahead", "spot_from", "number_in", "leaving", "told", "days_of_both", "rate_on", "on_days", "summed", "multiplied", "turning", "greater", "moved", "moved_pieces", "held", "held_pieces", "BLANK", "COMMA", "MINUS", "FIGURES", "MOST_FIGURES", "TRIPLE", "is_integer", "is_tuple", "whole_in", "are_pieces", "check_day", "Stairs", "stairs_in", "_law_draws", "_law_take", "_law_of", "_law_cells", "_law_at", "_law_pieces", "_law_stairs", "_law_canon", "_law_first_off", "_law_amount", "_law_corners", "_law_are_pieces", "_law_numbers", "_law_is_as", "_law_ten", "_law_right"] : List String).map Str.ofString
end FsH
set_option maxHeartbeats 4000000
/-! Fs22: promises one by one. -/
namespace Fs
open PySem PySem.Spec PyProof.Rows L2
def upS (S : Sps) (y : SK) (sp : DSp) : Sps := fun z => if z = y then some sp else S z
theorem upS_inv {S : Sps} {y z : SK} {sp sp' : DSp} (h : upS S y sp z = some sp') : (z = y ∧ sp' = sp) ∨ S z = some sp' := by
  unfold upS at h
  split at h
  · rename_i e; cases h; exact .inl ⟨e, rfl⟩
  · exact .inr h
section
variable {P : Program} {w : World} {K : PySem.W.Frag} {mg : Str → Option Value} {base : Heap} {S : Sps} {j k : Nat}
theorem SOk.nil : SOk P w K mg base (fun _ => none) k := ⟨(by intro _ _ e; cases e), (by intro _ _ _ e; cases e), (by intro _ _ _ e; cases e), (by intro _ _ e; cases e)⟩
theorem SOk.addF {x : Str} {sp : DSp} (h : SOk P w K mg base S j) (le : j ≤ k) (hm : mg x = some (.ref (He.ga K x))) (kp : PySem.W.keepIn K (.ref (He.ga K x)) = true) (cl : Clb P w K mg base k (He.ga K x) (toSp K sp)) : SOk P w K mg base (upS S (.f x) sp) k := by
  have g := h.mono le
  refine ⟨fun x' sp' e => ?_, fun c m sp' e => ?_, fun c f sp' e => ?_, fun c sp' e => ?_⟩
  · rcases upS_inv e with ⟨e1, rfl⟩ | e1
    · cases e1; exact ⟨hm, kp, cl⟩
    · exact g.f _ _ e1
  · rcases upS_inv e with ⟨e1, rfl⟩ | e1
    · cases e1
    · exact g.m _ _ _ e1
  · rcases upS_inv e with ⟨e1, rfl⟩ | e1
    · cases e1
    · exact g.p _ _ _ e1
  · rcases upS_inv e with ⟨e1, rfl⟩ | e1
    · cases e1
    · exact g.c _ _ e1
theorem SOk.addM {c m : Str} {sp : DSp} (h : SOk P w K mg base S j) (le : j ≤ k) (hc : ClsF K c) (kp : PySem.W.fnIn K (He.ma K (He.ga K c) m) = true) (me : Meth K (He.ga K c) m (He.ma K (He.ga K c) m)) (F : FnR P w K mg base (L2.CX P w) k (He.ma K (He.ga K c) m) (toSp K sp)) : SOk P w K mg base (upS S (.m c m) sp) k := by
  have g := h.mono le
  refine ⟨fun x' sp' e => ?_, fun c m sp' e => ?_, fun c f sp' e => ?_, fun c sp' e => ?_⟩
  · rcases upS_inv e with ⟨e1, rfl⟩ | e1
    · cases e1
    · exact g.f _ _ e1
  · rcases upS_inv e with ⟨e1, rfl⟩ | e1
    · cases e1; exact ⟨hc, kp, me, F⟩
    · exact g.m _ _ _ e1
  · rcases upS_inv e with ⟨e1, rfl⟩ | e1
    · cases e1
    · exact g.p _ _ _ e1
  · rcases upS_inv e with ⟨e1, rfl⟩ | e1
    · cases e1
    · exact g.c _ _ e1
theorem SOk.addP {c f : Str} {sp : DSp} (h : SOk P w K mg base S j) (le : j ≤ k) (hc : ClsF K c) {p g : Addr} (pr : PrpF K (He.ga K c) f p g) (F : FnR P w K mg base (L2.CX P w) k g (toSp K sp)) : SOk P w K mg base (upS S (.p c f) sp) k := by
  have gg := h.mono le
  refine ⟨fun x' sp' e => ?_, fun c m sp' e => ?_, fun c f sp' e => ?_, fun c sp' e => ?_⟩
  · rcases upS_inv e with ⟨e1, rfl⟩ | e1
    · cases e1
    · exact gg.f _ _ e1
  · rcases upS_inv e with ⟨e1, rfl⟩ | e1
    · cases e1
    · exact gg.m _ _ _ e1
  · rcases upS_inv e with ⟨e1, rfl⟩ | e1
    · cases e1; exact ⟨hc, _, _, pr, F⟩
    · exact gg.p _ _ _ e1
  · rcases upS_inv e with ⟨e1, rfl⟩ | e1
    · cases e1
    · exact gg.c _ _ e1
theorem SOk.addC {c : Str} {sp : DSp} (h : SOk P w K mg base S k) (hc : ClsF K c) : SOk P w K mg base (upS S (.c c) sp) k := by
  refine ⟨fun x' sp' e => ?_, fun c m sp' e => ?_, fun c f sp' e => ?_, fun c sp' e => ?_⟩
  · rcases upS_inv e with ⟨e1, rfl⟩ | e1
    · cases e1
    · exact h.f _ _ e1
  · rcases upS_inv e with ⟨e1, rfl⟩ | e1
    · cases e1
    · exact h.m _ _ _ e1
  · rcases upS_inv e with ⟨e1, rfl⟩ | e1
    · cases e1
    · exact h.p _ _ _ e1
  · rcases upS_inv e with ⟨e1, rfl⟩ | e1
    · cases e1; exact hc
    · exact h.c _ _ e1
end
end Fs
/-! Fr: the readings of the program's defs, printed. -/
namespace Fs
open PySem PySem.Spec PyProof.Rows L2
def n_spot_of : List Str := ["pieces", "day", "low", "high", "middle"]
def r_spot_of (S : Sps) : WS := (wSeq (wPar 2 3 (wCons (wC (.int 0)) (wCons (wOpX (binO S .Sub) (wB (one dLen) (wCons (wVar 0) wNil)) (wC (.int 1))) wNil)))
 (wSeq (wWhile (wTru (wOpX (cmpO S .Lt) (wVar 2) (wVar 3))) (wSeq (wSet 4 (wOpX (binO S .FloorDiv) (wOpX (binO S .Add) (wOpX (binO S .Add) (wVar 2) (wVar 3)) (wC (.int 1))) (wC (.int 2))))
 (wIf (wTru (wOpX (cmpO S .LtE) (wOpX (ixO S) (wOpX (ixO S) (wVar 0) (wVar 4)) (wC (.int 0))) (wVar 1))) (wSet 2 (wVar 4)) (wSet 3 (wOpX (binO S .Sub) (wVar 4) (wC (.int 1)))))))
 (wRet (wVar 2))))
def n_number_on : List Str := ["pieces", "day", "begin", "value", "rate"]
def r_number_on (S : Sps) : WS := (wSeq (wAsg (wOpX (ixO S) (wVar 0) (wCall S "spot_of" (wCons (wVar 0) (wCons (wVar 1) wNil)))) (dgTup 3 (dgCons (dgN 2) (dgCons (dgN 3) (dgCons (dgN 4) dgNil)))))
 (wRet (wOpX (binO S .Add) (wVar 3) (wOpX (binO S .Mult) (wVar 4) (wOpX (binO S .Sub) (wVar 1) (wVar 2))))))
def n_ends_of : List Str := ["pieces", "piece"]
def r_ends_of (S : Sps) : WS := (wRet (wOpX (binO S .Add) (wLc (wIt (wSl oCut (wVar 0) (wP1 (wC (.int 1))) wP0)) (dgN 1) wYes (wOpX (ixO S) (wVar 1) (wC (.int 0))) [1]) (wLst (wCons (wC .non) wNil))))
def n_is_ahead : List Str := ["day", "end"]
def r_is_ahead (S : Sps) : WS := (wRet (wOr (wOpX (cmpO S .Is) (wVar 1) (wC .non)) (wOpX (cmpO S .Lt) (wVar 0) (wVar 1))))
def n_spot_from : List Str := ["pieces", "spot", "day", "here"]
def r_spot_from (S : Sps) : WS := (wSeq (wSet 3 (wVar 1))
 (wSeq (wWhile (wAndT (wTru (wOpX (cmpO S .Lt) (wOpX (binO S .Add) (wVar 3) (wC (.int 1))) (wB (one dLen) (wCons (wVar 0) wNil)))) (wTru (wOpX (cmpO S .LtE) (wOpX (ixO S) (wOpX (ixO S) (wVar 0) (wOpX (binO S .Add) (wVar 3) (wC (.int 1)))) (wC (.int 0))) (wVar 2)))) (wSet 3 (wOpX (binO S .Add) (wVar 3) (wC (.int 1)))))
 (wRet (wVar 3))))
def n_number_in : List Str := ["piece", "day"]
def r_number_in (S : Sps) : WS := (wRet (wOpX (binO S .Add) (wOpX (ixO S) (wVar 0) (wC (.int 1))) (wOpX (binO S .Mult) (wOpX (ixO S) (wVar 0) (wC (.int 2))) (wOpX (binO S .Sub) (wVar 1) (wOpX (ixO S) (wVar 0) (wC (.int 0)))))))
def n_leaving : List Str := ["pieces", "spot", "begin", "value", "rate", "first", "here", "start", "number", "slope", "end", "day"]
def r_leaving (S : Sps) : WS := (wSeq (wSet 5 (wOpX (binO S .Add) (wVar 2) (wC (.int 2))))
 (wSeq (wFor (wRng2 (wCons (wCall S "spot_from" (wCons (wVar 0) (wCons (wVar 1) (wCons (wVar 5) wNil)))) (wCons (wB (one dLen) (wCons (wVar 0) wNil)) wNil))) (dgN 6) (wSeq (wAsg (wOpX (ixO S) (wVar 0) (wVar 6)) (dgTup 3 (dgCons (dgN 7) (dgCons (dgN 8) (dgCons (dgN 9) dgNil)))))
 (wSeq (wSet 10 (wIfE (wTru (wOpX (cmpO S .Lt) (wOpX (binO S .Add) (wVar 6) (wC (.int 1))) (wB (one dLen) (wCons (wVar 0) wNil)))) (wOpX (ixO S) (wOpX (ixO S) (wVar 0) (wOpX (binO S .Add) (wVar 6) (wC (.int 1)))) (wC (.int 0))) (wC .non)))
 (wFor (wIt (wTup (wCons (wB (dMax) (wCons (wVar 7) (wCons (wVar 5) wNil))) (wCons (wOpX (binO S .Add) (wB (dMax) (wCons (wVar 7) (wCons (wVar 5) wNil))) (wC (.int 1))) wNil)))) (dgN 11) (wIf (wAndT (wTru (wCall S "is_ahead" (wCons (wVar 11) (wCons (wVar 10) wNil)))) (wTru (wOpX (cmpO S .NotEq) (wOpX (binO S .Add) (wVar 8) (wOpX (binO S .Mult) (wVar 9) (wOpX (binO S .Sub) (wVar 11) (wVar 7)))) (wOpX (binO S .Add) (wVar 3) (wOpX (binO S .Mult) (wVar 4) (wOpX (binO S .Sub) (wVar 11) (wVar 2))))))) (wRet (wVar 11)) wNext)))))
 (wRet (wC .non))))
def n_told : List Str := ["pieces", "found", "spot", "begin", "value", "rate"]
def r_told (S : Sps) : WS := (wSeq (wSet 1 (wLst wNil))
 (wSeq (wSet 2 (wC (.int 0)))
 (wSeq (wSet 3 (wC (.int 0)))
 (wSeq (wWhile (wTru (wOpX (cmpO S .IsNot) (wVar 3) (wC .non))) (wSeq (wSet 2 (wCall S "spot_from" (wCons (wVar 0) (wCons (wVar 2) (wCons (wVar 3) wNil)))))
 (wSeq (wSet 4 (wCall S "number_in" (wCons (wOpX (ixO S) (wVar 0) (wVar 2)) (wCons (wVar 3) wNil))))
 (wSeq (wSet 5 (wOpX (binO S .Sub) (wCall S "number_in" (wCons (wOpX (ixO S) (wVar 0) (wCall S "spot_from" (wCons (wVar 0) (wCons (wVar 2) (wCons (wOpX (binO S .Add) (wVar 3) (wC (.int 1))) wNil))))) (wCons (wOpX (binO S .Add) (wVar 3) (wC (.int 1))) wNil))) (wVar 4)))
 (wSeq (wDrop (wLM lmAppend (wVar 1) (wCons (wTup (wCons (wVar 3) (wCons (wVar 4) (wCons (wVar 5) wNil)))) wNil)))
 (wSet 3 (wCall S "leaving" (wCons (wVar 0) (wCons (wVar 2) (wCons (wVar 3) (wCons (wVar 4) (wCons (wVar 5) wNil))))))))))))
 (wRet (wB (one dTuple) (wCons (wVar 1) wNil)))))))
def n_days_of_both : List Str := ["one", "other", "piece"]
def r_days_of_both (S : Sps) : WS := (wRet (wSS (wOpX (binO S .Add) (wLc (wIt (wVar 0)) (dgN 2) wYes (wOpX (ixO S) (wVar 2) (wC (.int 0))) [2]) (wLc (wIt (wVar 1)) (dgN 2) wYes (wOpX (ixO S) (wVar 2) (wC (.int 0))) [2]))))
def n_on_days : List Str := ["pieces", "days", "found", "spot", "day"]
def r_on_days (S : Sps) : WS := (wSeq (wSet 2 (wLst wNil))
 (wSeq (wSet 3 (wC (.int 0)))
 (wSeq (wFor (wIt (wVar 1)) (dgN 4) (wSeq (wSet 3 (wCall S "spot_from" (wCons (wVar 0) (wCons (wVar 3) (wCons (wVar 4) wNil)))))
 (wDrop (wLM lmAppend (wVar 2) (wCons (wTup (wCons (wVar 4) (wCons (wCall S "number_in" (wCons (wOpX (ixO S) (wVar 0) (wVar 3)) (wCons (wVar 4) wNil))) (wCons (wOpX (ixO S) (wOpX (ixO S) (wVar 0) (wVar 3)) (wC (.int 2))) wNil)))) wNil)))))
 (wRet (wVar 2)))))
def n_summed : List Str := ["one", "other", "sign", "found", "days", "day", "mine", "rate", "same", "its", "slope", "value"]
def r_summed (S : Sps) : WS := (wSeq (wSet 3 (wLst wNil))
 (wSeq (wSet 4 (wCall S "days_of_both" (wCons (wVar 0) (wCons (wVar 1) wNil))))
 (wSeq (wFor (wZip2 (wCons (wCall S "on_days" (wCons (wVar 0) (wCons (wVar 4) wNil))) (wCons (wCall S "on_days" (wCons (wVar 1) (wCons (wVar 4) wNil))) wNil))) (dgTup 2 (dgCons (dgTup 3 (dgCons (dgN 5) (dgCons (dgN 6) (dgCons (dgN 7) dgNil)))) (dgCons (dgTup 3 (dgCons (dgN 8) (dgCons (dgN 9) (dgCons (dgN 10) dgNil)))) dgNil))) (wSeq (wSet 11 (wOpX (binO S .Add) (wVar 6) (wOpX (binO S .Mult) (wVar 2) (wVar 9))))
 (wDrop (wLM lmAppend (wVar 3) (wCons (wTup (wCons (wVar 5) (wCons (wVar 11) (wCons (wOpX (binO S .Add) (wVar 7) (wOpX (binO S .Mult) (wVar 2) (wVar 10))) wNil)))) wNil)))))
 (wRet (wCall S "told" (wCons (wVar 3) wNil))))))
def n_first_above : List Str := ["pieces", "begin", "value", "rate", "end", "day"]
def r_first_above (S : Sps) : WS := (wSeq (wFor (wZip2 (wCons (wVar 0) (wCons (wCall S "ends_of" (wCons (wVar 0) wNil)) wNil))) (dgTup 2 (dgCons (dgTup 3 (dgCons (dgN 1) (dgCons (dgN 2) (dgCons (dgN 3) dgNil)))) (dgCons (dgN 4) dgNil))) (wSeq (wIf (wTru (wOpX (cmpO S .Gt) (wVar 2) (wC (.int 0)))) (wRet (wVar 1)) wNext)
 (wIf (wTru (wOpX (cmpO S .Gt) (wVar 3) (wC (.int 0)))) (wSeq (wSet 5 (wOpX (binO S .Add) (wOpX (binO S .Add) (wVar 1) (wOpX (binO S .FloorDiv) (wUnX (negO S) (wVar 2)) (wVar 3))) (wC (.int 1))))
 (wIf (wTru (wCall S "is_ahead" (wCons (wVar 5) (wCons (wVar 4) wNil)))) (wRet (wVar 5)) wNext)) wNext)))
 (wRet (wC .non)))
def n_is_integer : List Str := ["value", "low", "high"]
def r_is_integer (S : Sps) : WS := (wSeq (wIf (wOrT (wNotT (wTru (wB (dIsi S) (wCons (wVar 0) (wCons (wC (.ty "int")) wNil))))) (wTru (wB (dIsi S) (wCons (wVar 0) (wCons (wC (.ty "bool")) wNil))))) (wRet (wC (.bl false))) wNext)
 (wRet (wAnd (wOr (wOpX (cmpO S .Is) (wVar 1) (wC .non)) (wOpX (cmpO S .LtE) (wVar 1) (wVar 0))) (wOr (wOpX (cmpO S .Is) (wVar 2) (wC .non)) (wOpX (cmpO S .LtE) (wVar 0) (wVar 2))))))
def n_is_tuple : List Str := ["value", "least", "most"]
def r_is_tuple (S : Sps) : WS := (wSeq (wIf (wOrT (wNotT (wTru (wB (dIsi S) (wCons (wVar 0) (wCons (wC (.ty "tuple")) wNil))))) (wTru (wOpX (cmpO S .Lt) (wB (one dLen) (wCons (wVar 0) wNil)) (wVar 1)))) (wRet (wC (.bl false))) wNext)
 (wRet (wOr (wOpX (cmpO S .Is) (wVar 2) (wC .non)) (wOpX (cmpO S .LtE) (wB (one dLen) (wCons (wVar 0) wNil)) (wVar 2)))))
def n_are_pieces : List Str := ["value", "piece", "number", "one", "other"]
def r_are_pieces (S : Sps) : WS := (wSeq (wIf (wOrT (wNotT (wTru (wCall S "is_tuple" (wCons (wVar 0) (wCons (wC (.int 1)) wNil))))) (wNotT (wTru (wB (one dAll) (wCons (wLc (wIt (wVar 0)) (dgN 1) wYes (wCall S "is_tuple" (wCons (wVar 1) (wCons (wC (.int 3)) (wCons (wC (.int 3)) wNil)))) [1]) wNil))))) (wRet (wC (.bl false))) wNext)
 (wSeq (wIf (wOrT (wNotT (wTru (wB (one dAll) (wCons (wLc2 (wIt (wVar 0)) (dgN 1) wYes (wIt (wVar 1)) (dgN 2) wYes (wCall S "is_integer" (wCons (wVar 2) wNil)) [1, 2] [2]) wNil)))) (wTru (wOpX (cmpO S .NotEq) (wOpX (ixO S) (wOpX (ixO S) (wVar 0) (wC (.int 0))) (wC (.int 0))) (wC (.int 0))))) (wRet (wC (.bl false))) wNext)
 (wRet (wB (one dAll) (wCons (wLc (wZip2 (wCons (wVar 0) (wCons (wSl oCut (wVar 0) (wP1 (wC (.int 1))) wP0) wNil))) (dgTup 2 (dgCons (dgN 3) (dgCons (dgN 4) dgNil))) wYes (wOpX (cmpO S .Lt) (wOpX (ixO S) (wVar 3) (wC (.int 0))) (wOpX (ixO S) (wVar 4) (wC (.int 0)))) [3, 4]) wNil)))))
def n_Stairs___init__ : List Str := ["self", "pieces"]
def r_Stairs___init__ (S : Sps) : WS := (wSeq (wIf (wNotT (wTru (wCall S "are_pieces" (wCons (wVar 1) wNil)))) sFalse wNext)
 (wSlot S "own_pieces" (wVar 0) (wCall S "told" (wCons (wVar 1) wNil))))
def n_Stairs_pieces : List Str := ["self"]
def r_Stairs_pieces (S : Sps) : WS := (wRet (wAttr S "own_pieces" (wVar 0)))
def n_Stairs_nowhere_above : List Str := ["self", "other"]
def r_Stairs_nowhere_above (S : Sps) : WS := (wSeq (wIf (wNotT (wTru (wB (dIsi S) (wCons (wVar 1) (wCons (wC (.glo "Stairs")) wNil))))) sFalse wNext)
 (wRet (wOpX (cmpO S .Is) (wCall S "first_above" (wCons (wAttr S "pieces" (wOpX (binO S .Sub) (wVar 0) (wVar 1))) wNil)) (wC .non))))
def n_Stairs_first_less : List Str := ["self", "other"]
def r_Stairs_first_less (S : Sps) : WS := (wSeq (wIf (wNotT (wTru (wB (dIsi S) (wCons (wVar 1) (wCons (wC (.glo "Stairs")) wNil))))) sFalse wNext)
 (wRet (wCall S "first_above" (wCons (wAttr S "pieces" (wOpX (binO S .Sub) (wVar 1) (wVar 0))) wNil))))
def n_Stairs___sub__ : List Str := ["self", "other"]
def r_Stairs___sub__ (S : Sps) : WS := (wSeq (wIf (wNotT (wTru (wB (dIsi S) (wCons (wVar 1) (wCons (wC (.glo "Stairs")) wNil))))) (wRet eFalse) wNext)
 (wRet (wCall S "Stairs" (wCons (wCall S "summed" (wCons (wAttr S "own_pieces" (wVar 0)) (wCons (wAttr S "pieces" (wVar 1)) (wCons (wUnX (negO S) (wC (.int 1))) wNil)))) wNil))))
def n_Stairs___eq__ : List Str := ["self", "other"]
def r_Stairs___eq__ (S : Sps) : WS := (wRet (wAnd (wB (dIsi S) (wCons (wVar 1) (wCons (wC (.glo "Stairs")) wNil))) (wOpX (cmpO S .Eq) (wAttr S "own_pieces" (wVar 0)) (wAttr S "pieces" (wVar 1)))))
end Fs
/-! Fm1: stairs as numbers by days: pieces, what they are worth, told in one way. -/
namespace Fs
abbrev Pc := Int × Int × Int
/-- the number of a piece on a day -/
def numberIn (p : Pc) (d : Int) : Int := p.2.1 + p.2.2 * (d - p.1)
/-- the number of stairs on a day -/
def vAt : List Pc → Int → Int
  | [], _ => 0
  | [p], d => numberIn p d
  | p :: q :: r, d => if q.1 ≤ d then vAt (q :: r) d else numberIn p d
/-- the rate of the piece in which a day lies -/
def rAt : List Pc → Int → Int
  | [], _ => 0
  | [p], _ => p.2.2
  | p :: q :: r, d => if q.1 ≤ d then rAt (q :: r) d else p.2.2
/-- ascending -/
def Asc : List Pc → Prop
  | [] => True
  | [_] => True
  | p :: q :: r => p.1 < q.1 ∧ Asc (q :: r)
theorem Asc.tail {p : Pc} {r : List Pc} (h : Asc (p :: r)) : Asc r := by
  cases r with
  | nil => trivial
  | cons q r => exact h.2
theorem Asc.lt {p : Pc} : ∀ {r : List Pc} {q : Pc}, Asc (p :: r) → q ∈ r → p.1 < q.1
  | x :: r, q, h, hq => by
    rcases List.mem_cons.mp hq with e | e
    · rw [e]; exact h.1
    · have h1 : x.1 < q.1 := Asc.lt h.2 e
      have h2 := h.1
      omega
theorem Asc.get {ps : List Pc} : ∀ {i j : Nat} {p q : Pc}, Asc ps → ps[i]? = some p → ps[j]? = some q → i < j → p.1 < q.1 := by
  induction ps with
  | nil => intro i j p q _ h; simp at h
  | cons x r ih =>
    intro i j p q ha hi hj hij
    cases j with
    | zero => omega
    | succ j =>
      cases i with
      | zero =>
        simp at hi hj
        subst hi
        exact Asc.lt ha (List.mem_of_getElem? hj)
      | succ i => exact ih ha.tail (by simpa using hi) (by simpa using hj) (by omega)
/-- the piece of a day -/
theorem vAt_ix : ∀ {ps : List Pc} {s : Nat} {p : Pc} {d : Int}, Asc ps → ps[s]? = some p → (s = 0 ∨ p.1 ≤ d) → (∀ q, ps[s + 1]? = some q → d < q.1) → vAt ps d = numberIn p d ∧ rAt ps d = p.2.2
  | [], s, p, d, _, h, _, _ => by simp at h
  | [x], s, p, d, _, h, _, _ => by
    cases s with
    | zero => simp at h; subst h; exact ⟨rfl, rfl⟩
    | succ s => simp at h
  | x :: y :: r, s, p, d, ha, h, h1, h2 => by
    cases s with
    | zero =>
      simp at h
      subst h
      have := h2 y rfl
      simp only [vAt, rAt]
      rw [if_neg (by omega), if_neg (by omega)]
      exact ⟨rfl, rfl⟩
    | succ s =>
      have hp : p.1 ≤ d := h1.resolve_left (by omega)
      have hy : y.1 ≤ d := by
        cases s with
        | zero => simp at h; subst h; exact hp
        | succ s =>
          have := Asc.get (i := 0) (j := s + 1) ha.2 (show (y :: r)[0]? = some y from rfl) (by simpa using h) (by omega)
          omega
      simp only [vAt, rAt]
      rw [if_pos hy, if_pos hy]
      refine vAt_ix (s := s) ha.2 (by simpa using h) (.inr hp) fun q hq => h2 q (by simpa using hq)
/-! ### where they leave a straight row -/
def IsLeaving (f : Int → Int) (b v k : Int) : Option Int → Prop
  | none => ∀ d, b + 2 ≤ d → f d = v + k * (d - b)
  | some e => b + 2 ≤ e ∧ f e ≠ v + k * (e - b) ∧ ∀ d, b + 2 ≤ d → d < e → f d = v + k * (d - b)
theorem IsLeaving.uniq {f : Int → Int} {b v k : Int} {r r' : Option Int} (h : IsLeaving f b v k r) (h' : IsLeaving f b v k r') : r = r' := by
  cases r with
  | none =>
    cases r' with
    | none => rfl
    | some e => exact absurd (h e h'.1) h'.2.1
  | some e =>
    cases r' with
    | none => exact absurd (h' e h.1) h.2.1
    | some e' =>
      have h1 : ¬ e < e' := fun z => h.2.1 (h'.2.2 e h.1 z)
      have h2 : ¬ e' < e := fun z => h'.2.1 (h.2.2 e' h'.1 z)
      have : e = e' := by omega
      rw [this]
/-- told in one way, from a day on -/
inductive CanonFrom (f : Int → Int) : Int → List Pc → Prop
  | last {b} : IsLeaving f b (f b) (f (b + 1) - f b) none → CanonFrom f b [(b, f b, f (b + 1) - f b)]
  | step {b e ts} : IsLeaving f b (f b) (f (b + 1) - f b) (some e) → CanonFrom f e ts → CanonFrom f b ((b, f b, f (b + 1) - f b) :: ts)
def Canon (f : Int → Int) (ts : List Pc) : Prop := CanonFrom f 0 ts
theorem CanonFrom.uniq {f : Int → Int} : ∀ {b : Int} {ts us : List Pc}, CanonFrom f b ts → CanonFrom f b us → ts = us
  | _, _, _, .last h, .last _ => rfl
  | _, _, _, .last h, .step h' _ => by cases h.uniq h'
  | _, _, _, .step h _, .last h' => by cases h.uniq h'
  | _, _, _, .step h c, .step h' c' => by
    cases h.uniq h'
    rw [c.uniq c']
theorem CanonFrom.head {f : Int → Int} {b : Int} {ts : List Pc} (h : CanonFrom f b ts) : ∃ r, ts = (b, f b, f (b + 1) - f b) :: r := by
  cases h with
  | last => exact ⟨[], rfl⟩
  | step => exact ⟨_, rfl⟩
theorem CanonFrom.asc {f : Int → Int} {b : Int} {ts : List Pc} (h : CanonFrom f b ts) : Asc ts := by
  induction h with
  | last => trivial
  | step hl c ih =>
    obtain ⟨r, e⟩ := c.head
    subst e
    exact ⟨by have := hl.1; show _ < _; simp only; omega, ih⟩
theorem line_two {f : Int → Int} {b d : Int} (h : d = b ∨ d = b + 1) : f d = f b + (f (b + 1) - f b) * (d - b) := by
  rcases h with h | h
  · subst h; simp
  · subst h
    have : b + 1 - b = 1 := by omega
    rw [this, Int.mul_one]; omega
theorem CanonFrom.at {f : Int → Int} {b : Int} {ts : List Pc} (h : CanonFrom f b ts) : ∀ d, b ≤ d → vAt ts d = f d := by
  induction h with
  | @last b hl =>
    intro d hd
    simp only [vAt, numberIn]
    by_cases h2 : b + 2 ≤ d
    · exact (hl d h2).symm
    · exact (line_two (by omega)).symm
  | @step b e ts hl c ih =>
    intro d hd
    obtain ⟨r, e'⟩ := c.head
    subst e'
    simp only [vAt]
    by_cases he : e ≤ d
    · rw [if_pos he]; exact ih d he
    · rw [if_neg he]
      simp only [numberIn]
      by_cases h2 : b + 2 ≤ d
      · exact (hl.2.2 d h2 (by omega)).symm
      · exact (line_two (by omega)).symm
theorem IsLeaving.congr {f g : Int → Int} {b v k : Int} {r : Option Int} (h : IsLeaving f b v k r) (e : ∀ d, b ≤ d → g d = f d) : IsLeaving g b v k r := by
  cases r with
  | none => exact fun d hd => by rw [e d (by omega)]; exact h d hd
  | some x => exact ⟨h.1, by rw [e x (by have := h.1; omega)]; exact h.2.1, fun d hd hx => by rw [e d (by omega)]; exact h.2.2 d hd hx⟩
theorem CanonFrom.congr {f g : Int → Int} {b : Int} {ts : List Pc} (h : CanonFrom f b ts) (e : ∀ d, b ≤ d → g d = f d) : CanonFrom g b ts := by
  induction h with
  | @last b hl =>
    have h0 := e b (by omega)
    have h1 := e (b + 1) (by omega)
    have := CanonFrom.last (f := g) (b := b) (by rw [h0, h1]; exact hl.congr e)
    rwa [h0, h1] at this
  | @step b x ts hl c ih =>
    have h0 := e b (by omega)
    have h1 := e (b + 1) (by omega)
    have := CanonFrom.step (f := g) (b := b) (e := x) (ts := ts) (by rw [h0, h1]; exact hl.congr e) (ih fun d hd => e d (by have := hl.1; omega))
    rwa [h0, h1] at this
/-- equal stairs, equal pieces -/
theorem Canon.eq {f g : Int → Int} {ts us : List Pc} (h : Canon f ts) (h' : Canon g us) (e : ∀ d, 0 ≤ d → f d = g d) : ts = us := h.uniq (h'.congr e)
theorem Canon.eq_iff {f g : Int → Int} {ts us : List Pc} (h : Canon f ts) (h' : Canon g us) : ts = us ↔ ∀ d, 0 ≤ d → f d = g d :=
  ⟨fun e d hd => by rw [← h.at d hd, ← h'.at d hd, e], h.eq h'⟩
end Fs
set_option maxHeartbeats 4000000
/-! Fc1: the small defs keep their promises. -/
namespace Fs
open PySem PySem.Spec PyProof.Rows L2

/-! ### data of pieces -/
def pcD (p : Pc) : Dt := .tup [.int p.1, .int p.2.1, .int p.2.2]
def pcsD (ps : List Pc) : List Dt := ps.map pcD
def eoD : Option Int → Dt
  | none => .non
  | some e => .int e
theorem eqv {a b : Prop} (h : a = b) (g : b) : a := h ▸ g
theorem exitP_refl {P : DK} {d : Dt} {M : Mem} (h : P d M) : exitP P d M := ⟨d, M, .refl, h⟩
theorem itD_seq {M : Mem} {x : Dt} {ds : List Dt} (h : seqD M x = some ds) (i : Int) : itD M x i = L2.atI ds i := by
  cases x with
  | tup es => cases h; rfl
  | lst es => cases h; rfl
  | scr ns => cases h; exact (atI_map _ _ _).symm
  | ref a =>
    unfold seqD listD at h
    dsimp only at h
    unfold itD
    dsimp only
    split at h
    · rename_i es q; cases h; first | rw [q] | rfl
    · cases h
  | _ => cases h
theorem ixO_seq (S : Sps) {M : Mem} {x : Dt} {ds : List Dt} (h : seqD M x = some ds) (i : Int) (P : DK) (ex : EX) : ixO S x (.int i) M P ex = oD (L2.atI ds i) fun d => P d M := by
  have e := itD_seq h i
  cases x with
  | ins c es => cases h
  | _ => unfold ixO ixP; dsimp only; rw [e]
theorem dLen_seq {M : Mem} {x : Dt} {ds : List Dt} (h : seqD M x = some ds) (P : DK) : dLen x M P = P (.int ds.length) M := by
  cases x with
  | str z => cases h
  | _ => unfold dLen; dsimp only; rw [h]; rfl
theorem ixN_of {n i : Nat} (h : i < n) : L2.ixN n (i : Int) = some i := by
  unfold L2.ixN
  simp
  omega
theorem atI_nat {α : Type} (xs : List α) (i : Nat) (h : i < xs.length) : L2.atI xs (i : Int) = xs[i]? := by
  unfold L2.atI
  rw [ixN_of h]
  rfl
theorem atI_pcs {ps : List Pc} {i : Nat} {p : Pc} (h : ps[i]? = some p) : L2.atI (pcsD ps) (i : Int) = some (pcD p) := by
  have hl := (List.getElem?_eq_some_iff.mp h).1
  rw [atI_nat _ _ (by unfold pcsD; rw [List.length_map]; exact hl)]; unfold pcsD; rw [List.getElem?_map, h]; rfl
theorem ix_pc0 (S : Sps) (p : Pc) (M : Mem) (P : DK) (ex : EX) : ixO S (pcD p) (.int 0) M P ex = P (.int p.1) M := rfl
theorem ix_pc1 (S : Sps) (p : Pc) (M : Mem) (P : DK) (ex : EX) : ixO S (pcD p) (.int 1) M P ex = P (.int p.2.1) M := rfl
theorem ix_pc2 (S : Sps) (p : Pc) (M : Mem) (P : DK) (ex : EX) : ixO S (pcD p) (.int 2) M P ex = P (.int p.2.2) M := rfl
theorem pcsD_len (ps : List Pc) : (pcsD ps).length = ps.length := List.length_map _

/-! ### is_ahead, number_in -/
def isAhead (d : Int) : Option Int → Bool
  | none => true
  | some e => decide (d < e)
def spIsAhead : DSp := fun ds M P ex => ∃ d e, ds = [.int d, eoD e] ∧ P (.bl (isAhead d e)) M
theorem c_is_ahead (S : Sps) (ds M P ex) (h : spIsAhead ds M P ex) : wBody n_is_ahead (r_is_ahead S) ds M P ex := by
  obtain ⟨d, e, rfl, h⟩ := h
  have z := exitP_refl h
  cases e with
  | none =>
    simp [wSeq, wRet, wRetN, wSet, wDrop, wIf, wNext, wBrk, wCnt, wOr, wAnd, wOrT, wAndT, wNot, wNotT, wTru, wIfE, wOpX, wUnX, wVar, wC, eget, eset, wCons, wNil, wTup, wLst, wB, one, wCall, oS, wPar, wPar3, wAsg, wLM, oA, refD, dgN, dgCons, dgNil, dgTup, binO, addO, subO, mulO, fdivO, modO, powO, cmpO, relO, isO, eqO, neO, oII, truD, Br, negO, isNon, oD, oL, sFalse, eFalse, wStar, notK, wBody, r_is_ahead, n_is_ahead, startD, eoD]
    exact z
  | some e =>
    simp [wSeq, wRet, wRetN, wSet, wDrop, wIf, wNext, wBrk, wCnt, wOr, wAnd, wOrT, wAndT, wNot, wNotT, wTru, wIfE, wOpX, wUnX, wVar, wC, eget, eset, wCons, wNil, wTup, wLst, wB, one, wCall, oS, wPar, wPar3, wAsg, wLM, oA, refD, dgN, dgCons, dgNil, dgTup, binO, addO, subO, mulO, fdivO, modO, powO, cmpO, relO, isO, eqO, neO, oII, truD, Br, negO, isNon, oD, oL, sFalse, eFalse, wStar, notK, wBody, r_is_ahead, n_is_ahead, startD, eoD]
    exact z
def spNumberIn : DSp := fun ds M P ex => ∃ p d, ds = [pcD p, .int d] ∧ MulOk p.2.2 (d - p.1) ∧ P (.int (numberIn p d)) M
theorem c_number_in (S : Sps) (ds M P ex) (h : spNumberIn ds M P ex) : wBody n_number_in (r_number_in S) ds M P ex := by
  obtain ⟨p, d, rfl, hm, h⟩ := h
  have z := exitP_refl h
  simp [wSeq, wRet, wRetN, wSet, wDrop, wIf, wNext, wBrk, wCnt, wOr, wAnd, wOrT, wAndT, wNot, wNotT, wTru, wIfE, wOpX, wUnX, wVar, wC, eget, eset, wCons, wNil, wTup, wLst, wB, one, wCall, oS, wPar, wPar3, wAsg, wLM, oA, refD, dgN, dgCons, dgNil, dgTup, binO, addO, subO, mulO, fdivO, modO, powO, cmpO, relO, isO, eqO, neO, oII, truD, Br, negO, isNon, oD, oL, sFalse, eFalse, wStar, notK, wBody, r_number_in, n_number_in, startD, ix_pc0, ix_pc1, ix_pc2, hm]
  exact z

/-! ### spot_from -/
def spSpotFrom : DSp := fun ds M P ex => ∃ (d : Dt) (ps : List Pc) (s : Nat) (day : Int), ds = [d, .int s, .int day] ∧ seqD M d = some (pcsD ps) ∧ s < ps.length ∧
  ∀ t : Nat, s ≤ t → t < ps.length → (∀ q, ps[t + 1]? = some q → day < q.1) → (∀ j q, s < j → j ≤ t → ps[j]? = some q → q.1 ≤ day) → P (.int t) M
theorem c_spot_from (S : Sps) (ds M P ex) (h : spSpotFrom ds M P ex) : wBody n_spot_from (r_spot_from S) ds M P ex := by
  obtain ⟨d, ps, s, day, rfl, hq, hs, h⟩ := h
  simp only [wBody, r_spot_from, n_spot_from, startD, wSeq, wSet, wVar, List.map, List.length, List.replicate, List.cons_append, List.nil_append, eget, eset]
  refine ⟨ps.length - s, ?_⟩
  have key : ∀ (n here : Nat), s ≤ here → here < ps.length → ps.length = here + n → (∀ j q, s < j → j ≤ here → ps[j]? = some q → q.1 ≤ day) →
      whN (wAndT (wTru (wOpX (cmpO S .Lt) (wOpX (binO S .Add) (wVar 3) (wC (.int 1))) (wB (one dLen) (wCons (wVar 0) wNil)))) (wTru (wOpX (cmpO S .LtE) (wOpX (ixO S) (wOpX (ixO S) (wVar 0) (wOpX (binO S .Add) (wVar 3) (wC (.int 1)))) (wC (.int 0))) (wVar 2)))) (wSet 3 (wOpX (binO S .Add) (wVar 3) (wC (.int 1))))
        (fun x d _ M' => ex x d M') { nx := fun ρ' M' => wRet (wVar 3) (fun x d _ M' => ex x d M') { nx := fun _ M' => exitP P .non M', rt := exitP P } ρ' M', rt := exitP P } n [some d, some (.int s), some (.int day), some (.int here)] M := by
    intro n
    induction n with
    | zero => intro here h1 h2 h3; omega
    | succ n ih =>
      intro here h1 h2 h3 h4
      simp [wSeq, wRet, wRetN, wSet, wDrop, wIf, wNext, wBrk, wCnt, wOr, wAnd, wOrT, wAndT, wNot, wNotT, wTru, wIfE, wOpX, wUnX, wVar, wC, eget, eset, wCons, wNil, wTup, wLst, wB, one, wCall, oS, wPar, wPar3, wAsg, wLM, oA, refD, dgN, dgCons, dgNil, dgTup, binO, addO, subO, mulO, fdivO, modO, powO, cmpO, relO, isO, eqO, neO, oII, truD, Br, negO, isNon, oD, oL, sFalse, eFalse, wStar, notK, whN, dLen_seq hq, pcsD_len]
      have e1 : ((here : Int) + 1) = ((here + 1 : Nat) : Int) := by omega
      refine ⟨fun hlt => ?_, fun hge => ?_⟩
      · have hl : here + 1 < ps.length := by omega
        obtain ⟨p, hp⟩ : ∃ p, ps[here + 1]? = some p := ⟨_, List.getElem?_eq_getElem hl⟩
        rw [e1, ixO_seq S hq, atI_pcs hp]
        simp only [oD, ix_pc0]
        refine ⟨fun hle => ?_, fun hgt => ?_⟩
        · exact ih (here + 1) (by omega) hl (by omega) fun j q a b c => by
            by_cases hj : j = here + 1
            · subst hj; rw [hp] at c; cases c; exact hle
            · exact h4 j q a (by omega) c
        · exact exitP_refl (h here h1 h2 (fun q hq' => by rw [hp] at hq'; cases hq'; omega) h4)
      · exact exitP_refl (h here h1 h2 (fun q hq' => by
          have := (List.getElem?_eq_some_iff.mp hq').1
          omega) h4)
  exact key _ s (Nat.le_refl _) hs (by omega) fun j q a b _ => by omega
end Fs
set_option maxHeartbeats 4000000
/-! Fc2: what is an integer, a tuple, what are pieces. -/
namespace Fs
open PySem PySem.Spec PyProof.Rows L2

/-- a def with defaults: so many arguments at least, the rest from the defaults -/
def dfl (req : Nat) (dv : List Dt) (sp : DSp) : DSp := fun ds M P ex => req ≤ ds.length ∧ ds.length ≤ req + dv.length ∧ sp (ds ++ dv.drop (ds.length - req)) M P ex

/-! ### lists by comprehensions -/
theorem gd_true {g : Gd} {M : Mem} {A : Prop} (h : gd g M True) (a : A) : gd g M A := by
  cases g with
  | none => exact a
  | some p => obtain ⟨x, y⟩ := p; exact ⟨h.1, a⟩
theorem br_true (A B : Prop) : Br true A B = A := propext ⟨fun h => h.1 rfl, Br.t⟩
theorem br_false (A B : Prop) : Br false A B = B := propext ⟨fun h => h.2 rfl, Br.f⟩
theorem lc_map {b : DG} {e : WE} {ρ : DEnv} {M : Mem} {g : Gd} {P : List Dt → Mem → Prop} (f : Dt → Dt) (hg : gd g M True) : ∀ (ds acc : List Dt), (∀ d ∈ ds, ∀ Q : DK, Q (f d) M → b d ρ M fun ρ1 M1 => e noX ρ1 M1 Q) → acc.length + ds.length ≤ sizeLine → P (acc ++ ds.map f) M → lcL b wYes e P ρ g ds acc M
  | [], acc, _, _, h => gd_true hg (by simpa using h)
  | d :: ds, acc, he, hz, h => by
    refine gd_true hg ?_
    simp only [wYes, br_true]
    refine he d (List.mem_cons_self ..) _ ?_
    have hl : (d :: ds).length = ds.length + 1 := rfl
    refine ⟨by omega, lc_map f hg ds (acc ++ [f d]) (fun x hx => he x (List.mem_cons_of_mem _ hx)) (by simp; omega) (by simpa using h)⟩
theorem lc2_map {b b1 : DG} {it1 : WI} {e : WE} {own1 : List Nat} {ρ : DEnv} {M : Mem} {g : Gd} {P : List Dt → Mem → Prop} (inner : Dt → List Dt) (f : Dt → Dt) (hg : gd g M True) : ∀ (ds acc : List Dt),
    (∀ d ∈ ds, ∀ (acc : List Dt) (R : List Dt → Mem → Prop), acc.length + (inner d).length ≤ sizeLine → R (acc ++ (inner d).map f) M → b d ρ M fun ρ1 M1 => it1 noX ρ1 M1 fun ds1 g1 M3 => lcL b1 wYes e R (dwipe ρ1 own1) g1 ds1 acc M3) →
    acc.length + (ds.flatMap inner).length ≤ sizeLine → P (acc ++ (ds.flatMap inner).map f) M → lc2L b wYes it1 b1 wYes e own1 P ρ g ds acc M
  | [], acc, _, _, h => gd_true hg (by simpa using h)
  | d :: ds, acc, he, hz, h => by
    refine gd_true hg ?_
    simp only [wYes, br_true]
    have hl : ((d :: ds).flatMap inner).length = (inner d).length + (ds.flatMap inner).length := by simp
    refine he d (List.mem_cons_self ..) acc _ (by omega) ?_
    exact lc2_map inner f hg ds _ (fun x hx => he x (List.mem_cons_of_mem _ hx)) (by simp only [List.length_append, List.length_map]; omega) (by simpa using h)
theorem blsD_all {ds : List Dt} (f : Dt → Bool) : blsD (ds.map fun d => .bl (f d)) = some (ds.map f) := by
  induction ds with
  | nil => rfl
  | cons d r ih => simp only [List.map_cons, blsD, ih, Option.map_some]

/-! ### is_integer, is_tuple -/
def loOk (lo : Option Int) (v : Int) : Bool := match lo with
  | none => true
  | some l => decide (l ≤ v)
def hiOk (hi : Option Int) (v : Int) : Bool := match hi with
  | none => true
  | some l => decide (v ≤ l)
def spIsInteger : DSp := fun ds M P ex => ∃ x lo hi, ds = [x, eoD lo, eoD hi] ∧ (match x with
  | .int v => P (.bl (loOk lo v && hiOk hi v)) M
  | x => (tyN M x).isSome = true ∧ P (.bl false) M)
theorem isi_prim (S : Sps) {x : Dt} {M : Mem} {a : String} (h : tyN M x = some a) (b : String) (hb : b ∈ tyNs) (P : DK) : dIsi S [x, .ty b] M P = P (.bl (tyT a b)) M := by
  unfold dIsi isiO
  cases x with
  | ins c ds => cases h
  | _ => dsimp only; rw [h]; simp [hb]
theorem tyN_int {M : Mem} {x : Dt} (h : tyN M x = some "int") : ∃ v, x = .int v := by
  cases x with
  | int v => exact ⟨v, rfl⟩
  | ref y =>
    dsimp only [tyN] at h
    split at h
    · simp at h
    · simp at h
  | _ => simp [tyN] at h
theorem tyN_tup {M : Mem} {x : Dt} (h : tyN M x = some "tuple") : ∃ v, x = .tup v := by
  cases x with
  | tup v => exact ⟨v, rfl⟩
  | ref y =>
    dsimp only [tyN] at h
    split at h
    · simp at h
    · simp at h
  | _ => simp [tyN] at h
theorem tyT_int {a : String} (h : a ∈ tyNs) (h2 : tyT a "int" = true) : a = "int" ∨ a = "bool" := by
  unfold tyNs at h
  simp at h
  rcases h with h | h | h | h | h | h <;> subst h <;> first | exact .inl rfl | exact .inr rfl | (exact absurd h2 (by decide))
theorem c_is_integer (S : Sps) (ds M P ex) (h : spIsInteger ds M P ex) : wBody n_is_integer (r_is_integer S) ds M P ex := by
  obtain ⟨x, lo, hi, rfl, h⟩ := h
  have prim : (tyN M x).isSome = true → (∀ v, x ≠ .int v) → P (.bl false) M → wBody n_is_integer (r_is_integer S) [x, eoD lo, eoD hi] M P ex := fun h1 h2 h3 => by
    obtain ⟨a, ea⟩ := Option.isSome_iff_exists.mp h1
    have z := exitP_refl h3
    have ha : a ≠ "int" := fun e => by
      subst e
      obtain ⟨v, e⟩ := tyN_int ea
      exact h2 v e
    simp [wSeq, wRet, wRetN, wSet, wDrop, wIf, wNext, wBrk, wCnt, wOr, wAnd, wOrT, wAndT, wNot, wNotT, wTru, wIfE, wOpX, wUnX, wVar, wC, eget, eset, wCons, wNil, wTup, wLst, wB, one, wCall, oS, wPar, wPar3, wAsg, wLM, oA, refD, dgN, dgCons, dgNil, dgTup, binO, addO, subO, mulO, fdivO, modO, powO, cmpO, relO, isO, eqO, neO, oII, truD, Br, negO, isNon, oD, oL, sFalse, eFalse, wStar, notK, wBody, r_is_integer, n_is_integer, startD, isi_prim S ea "int" (by decide), isi_prim S ea "bool" (by decide)]
    refine ⟨fun _ => z, fun hi => ⟨fun _ => z, fun hb => ?_⟩⟩
    rcases tyT_int (tyN_mem ea) hi with e | e
    · exact absurd e ha
    · subst e; exact absurd hb (by decide)
  cases x with
  | int v =>
    have z := exitP_refl (show P _ M from h)
    have e1 : tyN M (.int v) = some "int" := rfl
    have t1 : tyT "int" "int" = true := by decide
    have t2 : tyT "int" "bool" = false := by decide
    cases lo <;> cases hi <;>
      (simp [wSeq, wRet, wRetN, wSet, wDrop, wIf, wNext, wBrk, wCnt, wOr, wAnd, wOrT, wAndT, wNot, wNotT, wTru, wIfE, wOpX, wUnX, wVar, wC, eget, eset, wCons, wNil, wTup, wLst, wB, one, wCall, oS, wPar, wPar3, wAsg, wLM, oA, refD, dgN, dgCons, dgNil, dgTup, binO, addO, subO, mulO, fdivO, modO, powO, cmpO, relO, isO, eqO, neO, oII, truD, Br, negO, isNon, oD, oL, sFalse, eFalse, wStar, notK, wBody, r_is_integer, n_is_integer, startD, isi_prim S e1 "int" (by decide), isi_prim S e1 "bool" (by decide), t1, t2, eoD]
       simp [loOk, hiOk] at z
       try exact z)
    · rename_i l
      refine ⟨fun hl => ?_, fun hl => ?_⟩
      · simpa [hl] using z
      · simpa [Int.not_le.mpr hl] using z
    · rename_i l l2
      refine ⟨fun hl => ?_, fun hl => ?_⟩
      · simpa [hl] using z
      · simpa [Int.not_le.mpr hl] using z
  | _ => exact prim h.1 (fun _ z => by cases z) h.2
def spIsTuple : DSp := fun ds M P ex => ∃ x least most, ds = [x, .int least, eoD most] ∧ (match x with
  | .tup xs => P (.bl (decide (least ≤ xs.length) && hiOk most xs.length)) M
  | x => (tyN M x).isSome = true ∧ P (.bl false) M)
theorem c_is_tuple (S : Sps) (ds M P ex) (h : spIsTuple ds M P ex) : wBody n_is_tuple (r_is_tuple S) ds M P ex := by
  obtain ⟨x, lo, hi, rfl, h⟩ := h
  have prim : (tyN M x).isSome = true → (∀ v, x ≠ .tup v) → P (.bl false) M → wBody n_is_tuple (r_is_tuple S) [x, .int lo, eoD hi] M P ex := fun h1 h2 h3 => by
    obtain ⟨a, ea⟩ := Option.isSome_iff_exists.mp h1
    have z := exitP_refl h3
    have ha : tyT a "tuple" = false := by
      have hm := tyN_mem ea
      have : a ≠ "tuple" := fun e => by
        subst e
        obtain ⟨v, e⟩ := tyN_tup ea
        exact h2 v e
      unfold tyNs at hm
      simp at hm
      rcases hm with h | h | h | h | h | h <;> subst h <;> first | decide | (exact absurd rfl this)
    simp [wSeq, wRet, wRetN, wSet, wDrop, wIf, wNext, wBrk, wCnt, wOr, wAnd, wOrT, wAndT, wNot, wNotT, wTru, wIfE, wOpX, wUnX, wVar, wC, eget, eset, wCons, wNil, wTup, wLst, wB, one, wCall, oS, wPar, wPar3, wAsg, wLM, oA, refD, dgN, dgCons, dgNil, dgTup, binO, addO, subO, mulO, fdivO, modO, powO, cmpO, relO, isO, eqO, neO, oII, truD, Br, negO, isNon, oD, oL, sFalse, eFalse, wStar, notK, wBody, r_is_tuple, n_is_tuple, startD, isi_prim S ea "tuple" (by decide), ha]
    exact z
  cases x with
  | tup xs =>
    have z := exitP_refl (show P _ M from h)
    have e1 : tyN M (.tup xs) = some "tuple" := rfl
    have t1 : tyT "tuple" "tuple" = true := by decide
    have e2 : seqD M (.tup xs) = some xs := rfl
    cases hi <;>
      (simp [wSeq, wRet, wRetN, wSet, wDrop, wIf, wNext, wBrk, wCnt, wOr, wAnd, wOrT, wAndT, wNot, wNotT, wTru, wIfE, wOpX, wUnX, wVar, wC, eget, eset, wCons, wNil, wTup, wLst, wB, one, wCall, oS, wPar, wPar3, wAsg, wLM, oA, refD, dgN, dgCons, dgNil, dgTup, binO, addO, subO, mulO, fdivO, modO, powO, cmpO, relO, isO, eqO, neO, oII, truD, Br, negO, isNon, oD, oL, sFalse, eFalse, wStar, notK, wBody, r_is_tuple, n_is_tuple, startD, isi_prim S e1 "tuple" (by decide), t1, eoD, dLen_seq e2]
       simp [hiOk] at z)
    · refine ⟨fun hl => ?_, fun hl => ?_⟩
      · simpa [Int.not_le.mpr hl] using z
      · simpa [hl] using z
    · rename_i l
      refine ⟨fun hl => ?_, fun hl => ?_⟩
      · simpa [Int.not_le.mpr hl] using z
      · simpa [hl] using z
  | _ => exact prim h.1 (fun _ z => by cases z) h.2

theorem eqD_ii (M : Mem) (i j : Int) (f : Bool → Prop) : eqD M (.int i) (.int j) f = f (decide (i = j)) := by
  have e : PyData.eqv (.int i) (.int j) = decide (i = j) := by
    by_cases h : i = j
    · subst h; simp [PyData.eqv]
    · simp [PyData.eqv, h]
  refine propext ⟨fun ⟨p, q, h1, h2, _, _, h⟩ => ?_, fun h => ⟨.int i, .int j, rfl, rfl, rfl, rfl, by rw [e]; exact h⟩⟩
  cases h1
  cases h2
  rw [e] at h
  exact h

/-! ### are_pieces -/
theorem cut_from {α : Type} (xs : List α) (k : Nat) : cutD xs (some (k : Int)) none = xs.drop k := by
  unfold cutD
  rw [HT.sIx_nat, HT.sIx_none]
  by_cases h : k ≤ xs.length
  · rw [Nat.min_eq_left h, List.take_of_length_le (by simp)]
  · rw [Nat.min_eq_right (by omega), List.drop_eq_nil_of_le (Nat.le_refl _), List.drop_eq_nil_of_le (by omega)]
    simp
theorem pcs_get {ps : List Pc} {i : Nat} {d : Dt} (h : (pcsD ps)[i]? = some d) : ∃ p, ps[i]? = some p ∧ d = pcD p := by
  unfold pcsD at h
  rw [List.getElem?_map] at h
  cases e : ps[i]? with
  | none => rw [e] at h; cases h
  | some p => rw [e] at h; cases h; exact ⟨p, rfl, rfl⟩

def spArePieces : DSp := fun ds M P ex => ∃ ps : List Pc, ds = [.tup (pcsD ps)] ∧ ps ≠ [] ∧ 3 * ps.length ≤ sizeLine ∧ Asc ps ∧ (∀ p, ps[0]? = some p → p.1 = 0) ∧ P (.bl true) M
theorem all_true {α : Type} (l : List α) : (l.map fun _ => true).all id = true := by
  induction l with
  | nil => rfl
  | cons a r ih => simpa using ih
def inn : Dt → List Dt
  | .tup xs => xs
  | _ => []
theorem inn_len (ps : List Pc) : ((pcsD ps).flatMap inn).length = 3 * ps.length := by
  induction ps with
  | nil => rfl
  | cons p ps ih => 
    show (inn (pcD p) ++ (pcsD ps).flatMap inn).length = _
    rw [List.length_append, ih]
    show 3 + _ = _
    simp; omega
theorem c_are_pieces (S : Sps) (h1 : S (.f "is_tuple") = some (dfl 2 [.non] spIsTuple)) (h2 : S (.f "is_integer") = some (dfl 1 [.non, .non] spIsInteger)) (ds M P ex) (h : spArePieces ds M P ex) : wBody n_are_pieces (r_are_pieces S) ds M P ex := by
  obtain ⟨ps, rfl, hn, hz, ha, h0, h⟩ := h
  have z := exitP_refl h
  have tl : ∀ (xs : List Dt) (P : DK), (1 : Int) ≤ xs.length → P (.bl true) M → ∀ ex, (dfl 2 [.non] spIsTuple) [.tup xs, .int 1] M P ex := fun xs P hx q ex =>
    ⟨by simp, by simp, .tup xs, 1, none, rfl, by simpa [hiOk, hx] using q⟩
  have t3 : ∀ (p : Pc) (P : DK), P (.bl true) M → (dfl 2 [.non] spIsTuple) [pcD p, .int 3, .int 3] M P noX := fun p P q =>
    ⟨by simp, by simp, pcD p, 3, some 3, rfl, q⟩
  have i1 : ∀ (v : Int) (P : DK), P (.bl true) M → (dfl 1 [.non, .non] spIsInteger) [.int v] M P noX := fun v P q => ⟨by simp, by simp, .int v, none, none, rfl, q⟩
  have s0 : seqD M (.tup (pcsD ps)) = some (pcsD ps) := rfl
  have hl : (pcsD ps).length = ps.length := pcsD_len ps
  have hp : 0 < ps.length := List.length_pos_iff.mpr hn
  obtain ⟨p0, e0⟩ : ∃ p, ps[0]? = some p := ⟨_, List.getElem?_eq_getElem hp⟩
  have sl := sizeLine_eq
  simp [wSeq, wRet, wRetN, wSet, wDrop, wIf, wNext, wBrk, wCnt, wOr, wAnd, wOrT, wAndT, wNot, wNotT, wTru, wIfE, wOpX, wUnX, wVar, wC, eget, eset, wCons, wNil, wTup, wLst, wB, one, wCall, oS, wPar, wPar3, wAsg, wLM, oA, refD, dgN, dgCons, dgNil, dgTup, binO, addO, subO, mulO, fdivO, modO, powO, cmpO, relO, isO, eqO, neO, oII, truD, Br, negO, isNon, oD, oL, sFalse, eFalse, wStar, notK, wBody, r_are_pieces, n_are_pieces, startD, h1, h2]
  refine tl _ _ (by rw [hl]; omega) ?_ _
  simp [wLc, wIt, wVar, eget]
  refine lc_map (fun _ => .bl true) (show gd none M True from trivial) _ [] (fun d hd P q => ?_) (by simp [hl]; omega) (.inl ?_)
  · obtain ⟨p, _, rfl⟩ := List.mem_map.mp hd
    simp [wSeq, wRet, wRetN, wSet, wDrop, wIf, wNext, wBrk, wCnt, wOr, wAnd, wOrT, wAndT, wNot, wNotT, wTru, wIfE, wOpX, wUnX, wVar, wC, eget, eset, wCons, wNil, wTup, wLst, wB, one, wCall, oS, wPar, wPar3, wAsg, wLM, oA, refD, dgN, dgCons, dgNil, dgTup, binO, addO, subO, mulO, fdivO, modO, powO, cmpO, relO, isO, eqO, neO, oII, truD, Br, negO, isNon, oD, oL, sFalse, eFalse, wStar, notK, h1, dwipe]
    exact t3 p P q
  simp [wSeq, wRet, wRetN, wSet, wDrop, wIf, wNext, wBrk, wCnt, wOr, wAnd, wOrT, wAndT, wNot, wNotT, wTru, wIfE, wOpX, wUnX, wVar, wC, eget, eset, wCons, wNil, wTup, wLst, wB, one, wCall, oS, wPar, wPar3, wAsg, wLM, oA, refD, dgN, dgCons, dgNil, dgTup, binO, addO, subO, mulO, fdivO, modO, powO, cmpO, relO, isO, eqO, neO, oII, truD, Br, negO, isNon, oD, oL, sFalse, eFalse, wStar, notK, dAll, listD, oBs, blsD_all (fun _ => true), all_true]
  refine lc2_map inn (fun _ => .bl true) (show gd none M True from trivial) _ [] (fun d hd acc R hz q => ?_) ?_ (.inl ?_)
  · obtain ⟨p, _, rfl⟩ := List.mem_map.mp hd
    simp [wSeq, wRet, wRetN, wSet, wDrop, wIf, wNext, wBrk, wCnt, wOr, wAnd, wOrT, wAndT, wNot, wNotT, wTru, wIfE, wOpX, wUnX, wVar, wC, eget, eset, wCons, wNil, wTup, wLst, wB, one, wCall, oS, wPar, wPar3, wAsg, wLM, oA, refD, dgN, dgCons, dgNil, dgTup, binO, addO, subO, mulO, fdivO, modO, powO, cmpO, relO, isO, eqO, neO, oII, truD, Br, negO, isNon, oD, oL, sFalse, eFalse, wStar, notK, h2, dwipe, wIt, pcD]
    refine lc_map (fun _ => .bl true) (show gd none M True from trivial) _ acc (fun d hd P q => ?_) hz q
    obtain ⟨v, rfl⟩ : ∃ v, d = .int v := by
      simp at hd
      rcases hd with e | e | e <;> exact ⟨_, e⟩
    simp [wSeq, wRet, wRetN, wSet, wDrop, wIf, wNext, wBrk, wCnt, wOr, wAnd, wOrT, wAndT, wNot, wNotT, wTru, wIfE, wOpX, wUnX, wVar, wC, eget, eset, wCons, wNil, wTup, wLst, wB, one, wCall, oS, wPar, wPar3, wAsg, wLM, oA, refD, dgN, dgCons, dgNil, dgTup, binO, addO, subO, mulO, fdivO, modO, powO, cmpO, relO, isO, eqO, neO, oII, truD, Br, negO, isNon, oD, oL, sFalse, eFalse, wStar, notK, h2, dwipe]
    exact i1 v P q
  · rw [inn_len]
    simpa using hz
  have at0 : L2.atI (pcsD ps) 0 = some (pcD p0) := atI_pcs e0
  simp [wSeq, wRet, wRetN, wSet, wDrop, wIf, wNext, wBrk, wCnt, wOr, wAnd, wOrT, wAndT, wNot, wNotT, wTru, wIfE, wOpX, wUnX, wVar, wC, eget, eset, wCons, wNil, wTup, wLst, wB, one, wCall, oS, wPar, wPar3, wAsg, wLM, oA, refD, dgN, dgCons, dgNil, dgTup, binO, addO, subO, mulO, fdivO, modO, powO, cmpO, relO, isO, eqO, neO, oII, truD, Br, negO, isNon, oD, oL, sFalse, eFalse, wStar, notK, dAll, listD, oBs, blsD_all (fun _ => true), all_true, ixO_seq S s0, at0, ix_pc0, eqD_ii, h0 p0 e0, wZip2, wSl, wP1, wP0, oCut, seqF]
  rw [show cutD (pcsD ps) (some 1) none = (pcsD ps).drop 1 from cut_from (pcsD ps) 1]
  refine lc_map (fun _ => .bl true) (show gd none M True from trivial) _ [] (fun d hd P q => ?_) (by have := (zip2_len (as := pcsD ps) (bs := (pcsD ps).drop 1)).1; simp only [List.length_nil]; omega) (.inl ?_)
  · obtain ⟨i, hi⟩ := List.getElem?_of_mem hd
    obtain ⟨x, y, ex, ey, rfl⟩ := zip2_get hi
    rw [List.getElem?_drop] at ey
    obtain ⟨p, ep, rfl⟩ := pcs_get ex
    obtain ⟨q', eq, rfl⟩ := pcs_get ey
    have hlt : p.1 < q'.1 := ha.get ep eq (by omega)
    simp [wSeq, wRet, wRetN, wSet, wDrop, wIf, wNext, wBrk, wCnt, wOr, wAnd, wOrT, wAndT, wNot, wNotT, wTru, wIfE, wOpX, wUnX, wVar, wC, eget, eset, wCons, wNil, wTup, wLst, wB, one, wCall, oS, wPar, wPar3, wAsg, wLM, oA, refD, dgN, dgCons, dgNil, dgTup, binO, addO, subO, mulO, fdivO, modO, powO, cmpO, relO, isO, eqO, neO, oII, truD, Br, negO, isNon, oD, oL, sFalse, eFalse, wStar, notK, dwipe, ix_pc0, hlt]
    exact q
  · have e : (List.map (fun _ => true) (zip2D (pcsD ps) ((pcsD ps).drop 1))).all id = true := all_true _
    simp only [List.nil_append, blsD_all (fun _ => true), e]
    exact z
end Fs
set_option maxHeartbeats 4000000
/-! Fc3: loops by what holds ahead of each turn; bounds of numbers; leaving. -/
namespace Fs
open PySem PySem.Spec PyProof.Rows L2

/-! ### loops -/
theorem for_inv {b : DG} {body : WS} {ex : EXS} {D : DEnds} {g : Gd} {ds : List Dt} {ρ : DEnv} {M : Mem} (I : Nat → DEnv → Mem → Prop)
    (hg : ∀ i ρ M, I i ρ M → gd g M True) (h0 : I 0 ρ M)
    (last : ∀ ρ M, I ds.length ρ M → D.nx ρ M)
    (step : ∀ i d ρ M (K : DEnv → Mem → Prop), ds[i]? = some d → I i ρ M → (∀ ρ' M', I (i + 1) ρ' M' → K ρ' M') → b d ρ M fun ρ1 M1 => body ex { nx := K, rt := D.rt, ct := K, bk := D.nx } ρ1 M1) : forL b body ex D g ds ρ M := by
  have key : ∀ (l : List Dt) (i : Nat) (ρ : DEnv) (M : Mem), ds.drop i = l → i ≤ ds.length → I i ρ M → forL b body ex D g l ρ M := by
    intro l
    induction l with
    | nil =>
      intro i ρ M e hi h
      have : i = ds.length := by
        have := congrArg List.length e
        simp at this
        omega
      subst this
      exact gd_true (hg _ _ _ h) (last _ _ h)
    | cons d l ih =>
      intro i ρ M e hi h
      have hd : ds[i]? = some d := by
        have : (ds.drop i)[0]? = some d := by rw [e]; rfl
        simpa using this
      have hl := (List.getElem?_eq_some_iff.mp hd).1
      refine gd_true (hg _ _ _ h) ?_
      have e2 : ds.drop (i + 1) = l := by
        have : (ds.drop i).drop 1 = l := by rw [e]; rfl
        simpa [Nat.add_comm] using this
      exact step i d ρ M _ hd h fun ρ' M' h' => ih (i + 1) ρ' M' e2 hl h'
  exact key ds 0 ρ M rfl (Nat.zero_le _) h0
theorem wh_inv {t : WT} {b : WS} {ex : EXS} {D : DEnds} {ρ : DEnv} {M : Mem} (I : Nat → DEnv → Mem → Prop) (m0 : Nat) (h0 : I m0 ρ M)
    (step : ∀ m ρ M (K : DEnv → Mem → Prop), I m ρ M → (∀ m' ρ' M', m' < m → I m' ρ' M' → K ρ' M') → t (fun x d M' => ex x d ρ M') ρ M fun k M1 => Br k (b ex { nx := K, rt := D.rt, ct := K, bk := D.nx } ρ M1) (D.nx ρ M1)) : wWhile t b ex D ρ M := by
  have key : ∀ n m ρ M, m < n → I m ρ M → whN t b ex D n ρ M := by
    intro n
    induction n with
    | zero => intro m ρ M h; omega
    | succ n ih => intro m ρ M hm h; exact step m ρ M _ h fun m' ρ' M' hm' h' => ih m' ρ' M' (by omega) h'
  exact ⟨m0 + 1, key _ m0 ρ M (by omega) h0⟩

/-! ### bounds -/
/-- of so many bits -/
def Bt (n : Nat) (i : Int) : Prop := i.natAbs < 2 ^ n
theorem Bt.mono {n m : Nat} {i : Int} (h : Bt n i) (e : n ≤ m) : Bt m i := Nat.lt_of_lt_of_le h (Nat.pow_le_pow_right (by omega) e)
theorem Bt.add {n m k : Nat} {i j : Int} (h : Bt n i) (h' : Bt m j) (e1 : n < k) (e2 : m < k) : Bt k (i + j) := by
  have a := Bt.mono h (show n ≤ k - 1 by omega)
  have b := Bt.mono h' (show m ≤ k - 1 by omega)
  have e : 2 ^ k = 2 ^ (k - 1) * 2 := by rw [← Nat.pow_succ]; congr 1; omega
  unfold Bt at *
  have := Int.natAbs_add_le i j
  omega
theorem Bt.neg {n : Nat} {i : Int} (h : Bt n i) : Bt n (-i) := by
  unfold Bt at *
  rwa [Int.natAbs_neg]
theorem Bt.sub {n m k : Nat} {i j : Int} (h : Bt n i) (h' : Bt m j) (e1 : n < k) (e2 : m < k) : Bt k (i - j) := by
  rw [Int.sub_eq_add_neg]
  exact h.add h'.neg e1 e2
theorem Bt.mul {n m k : Nat} {i j : Int} (h : Bt n i) (h' : Bt m j) (e : n + m ≤ k) : Bt k (i * j) := by
  refine Bt.mono (n := n + m) ?_ e
  unfold Bt at *
  rw [Int.natAbs_mul, Nat.pow_add]
  exact Nat.mul_lt_mul'' h h'
theorem Bt.ofLt {n : Nat} {i : Int} (h1 : -(2 ^ n : Nat) < i) (h2 : i < (2 ^ n : Nat)) : Bt n i := by unfold Bt; omega
theorem Bt.log {n : Nat} {i : Int} (h : Bt n i) : i.natAbs.log2 ≤ n := by
  by_cases h0 : i.natAbs = 0
  · rw [h0]; simp
  · exact Nat.le_of_lt ((Nat.log2_lt h0).mpr h)
theorem mulOk_of {n m : Nat} {i j : Int} (h : Bt n i) (h' : Bt m j) (e : n + m < 1000000) : MulOk i j := by
  have := h.log
  have := h'.log
  show _ + _ < _
  omega
/-- pieces of so many bits: days, numbers -/
def Bd (a c : Nat) (ps : List Pc) : Prop := ∀ p, p ∈ ps → Bt a p.1 ∧ Bt c p.2.1 ∧ Bt c p.2.2
theorem Bd.get {a c : Nat} {ps : List Pc} {i : Nat} {p : Pc} (h : Bd a c ps) (e : ps[i]? = some p) : Bt a p.1 ∧ Bt c p.2.1 ∧ Bt c p.2.2 := h p (List.mem_of_getElem? e)
theorem Bd.mono {a c a' c' : Nat} {ps : List Pc} (h : Bd a c ps) (e1 : a ≤ a') (e2 : c ≤ c') : Bd a' c' ps := fun p hp => ⟨(h p hp).1.mono e1, (h p hp).2.1.mono e2, (h p hp).2.2.mono e2⟩

theorem ahead_int (d e : Int) (M : Mem) (P : DK) (ex : EX) : spIsAhead [.int d, .int e] M P ex = P (.bl (decide (d < e))) M := by
  refine propext ⟨fun ⟨d', e', h1, h2⟩ => ?_, fun h => ⟨d, some e, rfl, h⟩⟩
  cases e' with
  | none => cases h1
  | some y => cases h1; exact h2
theorem ahead_non (d : Int) (M : Mem) (P : DK) (ex : EX) : spIsAhead [.int d, .non] M P ex = P (.bl true) M := by
  refine propext ⟨fun ⟨d', e', h1, h2⟩ => ?_, fun h => ⟨d, none, rfl, h⟩⟩
  cases e' with
  | none => cases h1; exact h2
  | some y => cases h1

/-! ### leaving -/
/-- as the row so far -/
def Row (f : Int → Int) (b v k : Int) (x : Int) : Prop := ∀ d, b + 2 ≤ d → d < x → f d = v + k * (d - b)
theorem line_ext {nu sl st v k b m d : Int} (h1 : nu + sl * (m - st) = v + k * (m - b)) (h2 : nu + sl * (m + 1 - st) = v + k * (m + 1 - b)) : nu + sl * (d - st) = v + k * (d - b) := by
  have e1 : sl * (m + 1 - st) = sl * (m - st) + sl := by rw [show m + 1 - st = (m - st) + 1 by omega, Int.mul_add, Int.mul_one]
  have e2 : k * (m + 1 - b) = k * (m - b) + k := by rw [show m + 1 - b = (m - b) + 1 by omega, Int.mul_add, Int.mul_one]
  have e : sl = k := by omega
  subst e
  have e3 : sl * (d - st) = sl * (m - st) + sl * (d - m) := by rw [← Int.mul_add]; congr 1; omega
  have e4 : sl * (d - b) = sl * (m - b) + sl * (d - m) := by rw [← Int.mul_add]; congr 1; omega
  omega
def spLeaving : DSp := fun ds M P ex => ∃ (x : Dt) (ps : List Pc) (s a c a' c' : Nat) (b v k : Int) (p0 : Pc), ds = [x, .int s, .int b, .int v, .int k] ∧ seqD M x = some (pcsD ps) ∧ Asc ps ∧ Bd a c ps ∧ Bt a' b ∧ Bt c' k ∧
  a + c + a' + c' + 10 < 1000000 ∧ ps.length < 2 ^ 60 ∧ ps[s]? = some p0 ∧ p0.1 ≤ b ∧ ∀ r, IsLeaving (vAt ps) b v k r → P (eoD r) M
theorem c_leaving (S : Sps) (h1 : S (.f "spot_from") = some spSpotFrom) (h2 : S (.f "is_ahead") = some spIsAhead) (ds M P ex) (h : spLeaving ds M P ex) : wBody n_leaving (r_leaving S) ds M P ex := by
  obtain ⟨x, ps, s, a, c, a', c', b, v, k, p0, rfl, hq, ha, hB, hb, hk, hz, hn, e0, hp0, h⟩ := h
  have hl := (List.getElem?_eq_some_iff.mp e0).1
  simp [wSeq, wRet, wRetN, wSet, wDrop, wIf, wNext, wBrk, wCnt, wOr, wAnd, wOrT, wAndT, wNot, wNotT, wTru, wIfE, wOpX, wUnX, wVar, wC, eget, eset, wCons, wNil, wTup, wLst, wB, one, wCall, oS, wPar, wPar3, wAsg, wLM, oA, refD, dgN, dgCons, dgNil, dgTup, binO, addO, subO, mulO, fdivO, modO, powO, cmpO, relO, isO, eqO, neO, oII, truD, Br, negO, isNon, oD, oL, sFalse, eFalse, wStar, notK, wBody, r_leaving, n_leaving, startD, h1, h2, wFor, wRng2]
  refine ⟨x, ps, s, b + 2, rfl, hq, hl, fun t t1 t2 t3 t4 => ?_⟩
  simp [dLen_seq hq, pcsD_len]
  refine ⟨⟨⟨by omega, by omega⟩, by omega, by omega⟩, ?_⟩
  have hlen : (rangeD (t : Int) (ps.length - t)).length = ps.length - t := by simp [rangeD]
  refine for_inv (fun i ρ M' => M' = M ∧ (∃ w6 w7 w8 w9 w10 w11, ρ = [some x, some (.int s), some (.int b), some (.int v), some (.int k), some (.int (b + 2)), w6, w7, w8, w9, w10, w11]) ∧ ∀ d, b + 2 ≤ d → (∀ q, ps[t + i]? = some q → d < maxI q.1 (b + 2)) → vAt ps d = v + k * (d - b))
    (fun _ _ _ _ => trivial) ⟨rfl, ⟨_, _, _, _, _, _, rfl⟩, ?_⟩ ?_ ?_
  · intro d hd hx
    exfalso
    obtain ⟨q, eq⟩ : ∃ q, ps[t]? = some q := ⟨_, List.getElem?_eq_getElem t2⟩
    have h5 := hx q eq
    have : q.1 ≤ b + 2 := by
      by_cases e : t = s
      · subst e; rw [e0] at eq; cases eq; omega
      · exact t4 t q (by omega) (Nat.le_refl _) eq
    unfold maxI at h5
    split at h5 <;> omega
  · rintro ρ M' ⟨rfl, _, hr⟩
    exact exitP_refl (h none fun d hd => hr d hd fun q hq' => by
      have := (List.getElem?_eq_some_iff.mp hq').1
      omega)
  · rintro i d ρ M' K hd ⟨rfl, ⟨w6, w7, w8, w9, w10, w11, rfl⟩, hr⟩ hK
    have hi : i < ps.length - t := by have := (List.getElem?_eq_some_iff.mp hd).1; omega
    have ed : d = .int ((t + i : Nat) : Int) := by
      unfold rangeD at hd
      simp [hi] at hd
      rw [← hd]; simp
    subst ed
    obtain ⟨p, ep⟩ : ∃ q, ps[t + i]? = some q := ⟨_, List.getElem?_eq_getElem (show t + i < ps.length by omega)⟩
    obtain ⟨B1, B2, B3⟩ := hB.get ep
    have hlt : t + i < ps.length := by omega
    have htk : t + (i + 1) = t + i + 1 := by omega
    rw [htk] at hK
    generalize t + i = here at *
    have ah : L2.atI (pcsD ps) (here : Int) = some (pcD p) := atI_pcs ep
    have vp : ∀ d, p.1 ≤ d → (∀ q, ps[here + 1]? = some q → d < q.1) → vAt ps d = p.2.1 + p.2.2 * (d - p.1) := fun d hd hx => (vAt_ix ha ep (.inr hd) hx).1
    have pre : ∀ d, b + 2 ≤ d → d < maxI p.1 (b + 2) → vAt ps d = v + k * (d - b) := fun d hd hx => hr d hd fun q hq => by rw [ep] at hq; cases hq; exact hx
    have hm1 : p.1 ≤ maxI p.1 (b + 2) := by unfold maxI; split <;> omega
    have hm2 : b + 2 ≤ maxI p.1 (b + 2) := by unfold maxI; split <;> omega
    have Bm : Bt (a + a' + 3) (maxI p.1 (b + 2)) := by
      unfold maxI
      split
      · exact hb.add (show Bt 2 2 from by unfold Bt; decide) (by omega) (by omega)
      · exact B1.mono (by omega)
    have hmx : ∀ x, p.1 < x → maxI x (b + 2) ≤ x ∨ maxI x (b + 2) ≤ maxI p.1 (b + 2) := fun x hx => by unfold maxI; split <;> split <;> omega
    obtain ⟨m, hm⟩ : ∃ m, maxI p.1 (b + 2) = m := ⟨_, rfl⟩
    rw [hm] at pre hm1 hm2 Bm
    simp only [hm] at hmx
    have Bm1 : Bt (a + a' + 4) (m + 1) := Bm.add (show Bt 1 1 from by unfold Bt; decide) (by omega) (by omega)
    have k1 : MulOk p.2.2 (m - p.1) := mulOk_of B3 (Bm.sub B1 (k := a + a' + 5) (by omega) (by omega)) (by omega)
    have k2 : MulOk k (m - b) := mulOk_of hk (Bm.sub hb (k := a + a' + 5) (by omega) (by omega)) (by omega)
    have k3 : MulOk p.2.2 (m + 1 - p.1) := mulOk_of B3 (Bm1.sub B1 (k := a + a' + 5) (by omega) (by omega)) (by omega)
    have k4 : MulOk k (m + 1 - b) := mulOk_of hk (Bm1.sub hb (k := a + a' + 5) (by omega) (by omega)) (by omega)
    have sl := sizeLine_eq
    have ret1 : (∀ q, ps[here + 1]? = some q → m < q.1) → ¬ p.2.1 + p.2.2 * (m - p.1) = v + k * (m - b) → exitP P (.int m) M' := fun hx hne => exitP_refl (h (some m) ⟨hm2, by rw [vp m hm1 hx]; exact hne, pre⟩)
    have ret2 : (∀ q, ps[here + 1]? = some q → m + 1 < q.1) → p.2.1 + p.2.2 * (m - p.1) = v + k * (m - b) → ¬ p.2.1 + p.2.2 * (m + 1 - p.1) = v + k * (m + 1 - b) → exitP P (.int (m + 1)) M' := fun hx he hne =>
      exitP_refl (h (some (m + 1)) ⟨by omega, by rw [vp (m + 1) (by omega) hx]; exact hne, fun d hd hd2 => by
        by_cases e : d = m
        · subst e; rw [vp d hm1 fun q hq => by have := hx q hq; omega]; exact he
        · exact pre d hd (by omega)⟩)
    have fin : ∀ w6 w7 w8 w9 w10 w11, ((∀ q, ps[here + 1]? = some q → m < q.1) → p.2.1 + p.2.2 * (m - p.1) = v + k * (m - b)) → ((∀ q, ps[here + 1]? = some q → m + 1 < q.1) → p.2.1 + p.2.2 * (m + 1 - p.1) = v + k * (m + 1 - b)) →
        K [some x, some (.int s), some (.int b), some (.int v), some (.int k), some (.int (b + 2)), w6, w7, w8, w9, w10, w11] M' := fun w6 w7 w8 w9 w10 w11 f1 f2 => by
      refine hK _ _ ⟨rfl, ⟨_, _, _, _, _, _, rfl⟩, fun d hd hx => ?_⟩
      by_cases e : d < m
      · exact pre d hd e
      have hx2 : ∀ q, ps[here + 1]? = some q → d < q.1 := fun q hq => by
        have h1 := hx q hq
        have h2 := ha.get ep hq (by omega)
        have := hmx q.1 h2
        omega
      rw [vp d (by omega) hx2]
      by_cases e2 : d = m
      · subst e2; exact f1 hx2
      · exact line_ext (f1 fun q hq => by have := hx2 q hq; omega) (f2 fun q hq => by have := hx2 q hq; omega)
    cases e1 : ps[here + 1]? with
    | none =>
      have hno : ¬ ((here : Int) + 1 < (ps.length : Int)) := by
        have := List.getElem?_eq_none_iff.mp e1
        omega
      have hno2 : (ps.length : Int) ≤ (here : Int) + 1 := by omega
      rw [e1] at ret1 ret2 fin
      simp [wSeq, wRet, wRetN, wSet, wDrop, wIf, wNext, wBrk, wCnt, wOr, wAnd, wOrT, wAndT, wNot, wNotT, wTru, wIfE, wOpX, wUnX, wVar, wC, eget, eset, wCons, wNil, wTup, wLst, wB, one, wCall, oS, wPar, wPar3, wAsg, wLM, oA, refD, dgN, dgCons, dgNil, dgTup, binO, addO, subO, mulO, fdivO, modO, powO, cmpO, relO, isO, eqO, neO, oII, truD, Br, negO, isNon, oD, oL, sFalse, eFalse, wStar, notK, ixO_seq S hq, ah, dLen_seq hq, pcsD_len, hno, hno2, pcD, h2, wFor, wIt, dMax, forL, gd, hm, k1, k2, k3, k4, ahead_non, eqD_ii]
      refine ⟨by omega, fun n1 => ret1 (fun q hq => by cases hq) n1, fun y1 => ⟨fun n2 => ret2 (fun q hq => by cases hq) y1 n2, fun y2 => fin _ _ _ _ _ _ (fun _ => y1) (fun _ => y2)⟩⟩
    | some q =>
      have hno : ((here : Int) + 1 < (ps.length : Int)) := by
        have := (List.getElem?_eq_some_iff.mp e1).1
        omega
      have hno2 : ¬ ((ps.length : Int) ≤ (here : Int) + 1) := by omega
      have ah1 : L2.atI (pcsD ps) ((here : Int) + 1) = some (pcD q) := atI_pcs e1
      rw [e1] at ret1 ret2 fin
      simp [wSeq, wRet, wRetN, wSet, wDrop, wIf, wNext, wBrk, wCnt, wOr, wAnd, wOrT, wAndT, wNot, wNotT, wTru, wIfE, wOpX, wUnX, wVar, wC, eget, eset, wCons, wNil, wTup, wLst, wB, one, wCall, oS, wPar, wPar3, wAsg, wLM, oA, refD, dgN, dgCons, dgNil, dgTup, binO, addO, subO, mulO, fdivO, modO, powO, cmpO, relO, isO, eqO, neO, oII, truD, Br, negO, isNon, oD, oL, sFalse, eFalse, wStar, notK, ixO_seq S hq, ah, dLen_seq hq, pcsD_len, hno, hno2, pcD, show ∀ P ex, ixO S (.tup [.int q.1, .int q.2.1, .int q.2.2]) (.int 0) M' P ex = P (.int q.1) M' from fun _ _ => rfl, ah1, h2, wFor, wIt, dMax, forL, gd, hm, k1, k2, k3, k4, ahead_int, eqD_ii]
      have cv : ∀ {z : Int}, z < q.1 → ∀ q', some q = some q' → z < q'.1 := fun hz q' e => by cases e; exact hz
      have cn : ∀ {z : Int} {A : Prop}, q.1 ≤ z → (∀ q', some q = some q' → z < q'.1) → A := fun hz hx => by have := hx q rfl; omega
      refine ⟨by omega, fun a1 => ⟨fun n1 => ret1 (cv a1) n1, fun y1 => ⟨fun a2 => ⟨fun n2 => ret2 (cv a2) y1 n2, fun y2 => fin _ _ _ _ _ _ (fun _ => y1) (fun _ => y2)⟩, fun a2 => fin _ _ _ _ _ _ (fun _ => y1) (cn a2)⟩⟩, fun a1 => ⟨fun a2 => by omega, fun a2 => fin _ _ _ _ _ _ (cn a1) (cn a2)⟩⟩
end Fs
set_option maxHeartbeats 4000000
/-! Fc4: told: in one way. -/
namespace Fs
open PySem PySem.Spec PyProof.Rows L2

theorem ix_of {ps : List Pc} {d : Int} : ∀ (n t : Nat) {p : Pc}, ps[t]? = some p → p.1 ≤ d → ps.length - t ≤ n → ∃ j q, t ≤ j ∧ ps[j]? = some q ∧ q.1 ≤ d ∧ (∀ q', ps[j + 1]? = some q' → d < q'.1)
  | 0, t, p, h, _, h2 => by
    have := (List.getElem?_eq_some_iff.mp h).1
    omega
  | n + 1, t, p, h, h1, h2 => by
    cases e : ps[t + 1]? with
    | none => exact ⟨t, p, Nat.le_refl _, h, h1, fun q' hq => by rw [e] at hq; cases hq⟩
    | some q =>
      by_cases hd : d < q.1
      · exact ⟨t, p, Nat.le_refl _, h, h1, fun q' hq => by rw [e] at hq; cases hq; exact hd⟩
      · obtain ⟨j, q2, a1, a2, a3, a4⟩ := ix_of (d := d) n (t + 1) e (by omega) (by omega)
        exact ⟨j, q2, by omega, a2, a3, a4⟩
theorem vAt_pc {ps : List Pc} {s : Nat} {p : Pc} {d : Int} (ha : Asc ps) (h : ps[s]? = some p) (h1 : p.1 ≤ d) (h2 : ∀ q, ps[s + 1]? = some q → d < q.1) : vAt ps d = numberIn p d := (vAt_ix ha h (.inr h1) h2).1
theorem leaving_next {ps : List Pc} {t : Nat} {p : Pc} {b e : Int} (ha : Asc ps) (h : ps[t]? = some p) (h1 : p.1 ≤ b) (h2 : ∀ q, ps[t + 1]? = some q → b < q.1)
    (hl : IsLeaving (vAt ps) b (vAt ps b) (vAt ps (b + 1) - vAt ps b) (some e)) : ∃ j q, t < j ∧ ps[j]? = some q ∧ q.1 ≤ e ∧ (∀ q', ps[j + 1]? = some q' → e < q'.1) ∧ e ≤ q.1 + 2 := by
  obtain ⟨l1, l2, l3⟩ := hl
  obtain ⟨j, q, j1, j2, j3, j4⟩ := ix_of (d := e) (ps.length - t) t h (by omega) (Nat.le_refl _)
  have hb1 : vAt ps (b + 1) = vAt ps b + (vAt ps (b + 1) - vAt ps b) * (b + 1 - b) := by
    rw [show b + 1 - b = 1 by omega, Int.mul_one]; omega
  have hb0 : vAt ps b = vAt ps b + (vAt ps (b + 1) - vAt ps b) * (b - b) := by
    rw [show b - b = 0 by omega, Int.mul_zero]; omega
  by_cases hjt : j = t
  · subst hjt
    rw [h] at j2
    cases j2
    exfalso
    have nb := vAt_pc ha h h1 h2
    have nb1 := vAt_pc (d := b + 1) ha h (by omega) fun q hq => by have := j4 q hq; omega
    have ne := vAt_pc ha h j3 j4
    rw [ne] at l2
    rw [nb1] at hb1
    rw [nb] at hb0
    unfold numberIn at l2 hb1 hb0
    rw [nb1, nb] at l2
    unfold numberIn at l2
    refine l2 (line_ext (m := b) ?_ ?_)
    · rw [Int.sub_self, Int.mul_zero]; omega
    · rw [show b + 1 - b = 1 by omega, Int.mul_one]; omega
  · refine ⟨j, q, by omega, j2, j3, j4, ?_⟩
    by_cases he : e ≤ q.1 + 2
    · exact he
    exfalso
    have hbq : b < q.1 := by
      by_cases hj : j = t + 1
      · subst hj; exact h2 q j2
      · obtain ⟨q1, e1⟩ : ∃ q1, ps[t + 1]? = some q1 := ⟨_, List.getElem?_eq_getElem (by have := (List.getElem?_eq_some_iff.mp j2).1; omega)⟩
        have := h2 q1 e1
        have := ha.get e1 j2 (by omega)
        omega
    have n1 := vAt_pc (d := q.1 + 1) ha j2 (by omega) fun q' hq => by have := j4 q' hq; omega
    have n2 := vAt_pc (d := q.1 + 1 + 1) ha j2 (by omega) fun q' hq => by have := j4 q' hq; omega
    have ne := vAt_pc ha j2 j3 j4
    have r1 := l3 (q.1 + 1) (by omega) (by omega)
    have r2 := l3 (q.1 + 1 + 1) (by omega) (by omega)
    rw [ne] at l2
    rw [n1] at r1
    rw [n2] at r2
    exact l2 (line_ext r1 r2)

theorem seqD_put {M : Mem} {x : Dt} {ds : List Dt} {a : Addr} {o : MO} (h : seqD M x = some ds) (ha : M a = none) : seqD (M.put a o) x = some ds := by
  cases x with
  | ref y =>
    have hy : y ≠ a := fun e => by
      subst e
      unfold seqD listD at h
      dsimp only at h
      rw [ha] at h
      cases h
    unfold seqD listD at h ⊢
    dsimp only at h ⊢
    rw [Mem.put_ne hy]
    exact h
  | _ => exact h
theorem put_le {M : Mem} {a : Addr} {o : MO} (h : M a = none) : Mem.Le M (M.put a o) := Mem.Le.put h

theorem pcD_inj {p q : Pc} (h : pcD p = pcD q) : p = q := by
  obtain ⟨a, b, c⟩ := p
  obtain ⟨a', b', c'⟩ := q
  simp [pcD] at h
  obtain ⟨h1, h2, h3⟩ := h
  rw [h1, h2, h3]
theorem num_eq (p : Pc) (d : Int) (M : Mem) (P : DK) (ex : EX) : spNumberIn [pcD p, .int d] M P ex = (MulOk p.2.2 (d - p.1) ∧ P (.int (numberIn p d)) M) := by
  refine propext ⟨fun ⟨p', d', h1, h2, h3⟩ => ?_, fun h => ⟨p, d, rfl, h.1, h.2⟩⟩
  simp at h1
  obtain ⟨e1, e2⟩ := h1
  cases pcD_inj e1
  cases e2
  exact ⟨h2, h3⟩
def spTold : DSp := fun ds M P ex => ∃ (x : Dt) (ps : List Pc) (a c : Nat) (p0 : Pc), ds = [x] ∧ seqD M x = some (pcsD ps) ∧ Asc ps ∧ Bd a c ps ∧ 4 * (a + c) + 40 < 1000000 ∧ ps.length < sizeLine ∧ ps[0]? = some p0 ∧ p0.1 = 0 ∧
  ∀ ts, Canon (vAt ps) ts → Bd (a + 2) (a + c + 6) ts → ts.length ≤ ps.length → P (.tup (pcsD ts)) M
theorem spot_uni {ps : List Pc} {j t : Nat} {p : Pc} {d : Int} (ha : Asc ps) (h1 : ps[j]? = some p) (h2 : p.1 ≤ d) (h3 : ∀ q, ps[t + 1]? = some q → d < q.1) (ht : t < ps.length) : j ≤ t := by
  by_cases e : j ≤ t
  · exact e
  exfalso
  have hj := (List.getElem?_eq_some_iff.mp h1).1
  obtain ⟨q1, e1⟩ : ∃ q1, ps[t + 1]? = some q1 := ⟨_, List.getElem?_eq_getElem (by omega)⟩
  have := h3 q1 e1
  by_cases e2 : j = t + 1
  · subst e2; rw [h1] at e1; cases e1; omega
  · have := ha.get e1 h1 (by omega); omega
theorem c_told (S : Sps) (h1 : S (.f "spot_from") = some spSpotFrom) (h2 : S (.f "number_in") = some spNumberIn) (h3 : S (.f "leaving") = some spLeaving) (ds M P ex) (h : spTold ds M P ex) : wBody n_told (r_told S) ds M P ex := by
  obtain ⟨x, ps, a, c, p0, rfl, hq, ha, hB, hz, hn, e0, hp0, h⟩ := h
  have hl := (List.getElem?_eq_some_iff.mp e0).1
  have sl := sizeLine_eq
  simp [wSeq, wRet, wRetN, wSet, wDrop, wIf, wNext, wBrk, wCnt, wOr, wAnd, wOrT, wAndT, wNot, wNotT, wTru, wIfE, wOpX, wUnX, wVar, wC, eget, eset, wCons, wNil, wTup, wLst, wB, one, wCall, oS, wPar, wPar3, wAsg, wLM, oA, refD, dgN, dgCons, dgNil, dgTup, binO, addO, subO, mulO, fdivO, modO, powO, cmpO, relO, isO, eqO, neO, oII, truD, Br, negO, isNon, oD, oL, sFalse, eFalse, wStar, notK, wBody, r_told, n_told, startD, h1, h2, h3]
  refine .inr fun f hf => ?_
  have stay : ∀ us, seqD (M.put f (.lst us)) x = some (pcsD ps) := fun us => seqD_put hq hf
  refine wh_inv (fun m ρ M' => ∃ (acc : List Pc) (s : Nat) (begin : Option Int) (w4 w5 : Option Dt), M' = M.put f (.lst (pcsD acc)) ∧ ρ = [some x, some (.ref f), some (.int s), some (eoD begin), w4, w5] ∧ Bd (a + 2) (a + c + 6) acc ∧
    match begin with
    | none => Canon (vAt ps) acc ∧ acc.length ≤ ps.length
    | some b => (∀ us, CanonFrom (vAt ps) b us → Canon (vAt ps) (acc ++ us)) ∧ Bt (a + 2) b ∧ ∃ j p ps', s ≤ j ∧ ps[j]? = some p ∧ p.1 ≤ b ∧ ps[s]? = some ps' ∧ ps'.1 ≤ b ∧ acc.length ≤ j ∧ m + j = ps.length) ps.length ?_ ?_
  · refine ⟨[], 0, some 0, _, _, rfl, rfl, (by intro p hp; cases hp), ⟨fun us hu => hu, ?_, 0, p0, p0, Nat.le_refl _, e0, by omega, e0, by omega, Nat.le_refl _, rfl⟩⟩
    unfold Bt
    exact Nat.pow_pos (by decide)
  rintro m ρ M' K ⟨acc, s, begin, w4, w5, rfl, rfl, hA, hI⟩ hK
  cases begin with
  | none =>
    simp [wSeq, wRet, wRetN, wSet, wDrop, wIf, wNext, wBrk, wCnt, wOr, wAnd, wOrT, wAndT, wNot, wNotT, wTru, wIfE, wOpX, wUnX, wVar, wC, eget, eset, wCons, wNil, wTup, wLst, wB, one, wCall, oS, wPar, wPar3, wAsg, wLM, oA, refD, dgN, dgCons, dgNil, dgTup, binO, addO, subO, mulO, fdivO, modO, powO, cmpO, relO, isO, eqO, neO, oII, truD, Br, negO, isNon, oD, oL, sFalse, eFalse, wStar, notK, eoD, dTuple, listD, Mem.put_same]
    exact ⟨_, M, .drop (put_le hf) .refl, h acc hI.1 hA hI.2⟩
  | some b =>
    obtain ⟨hc, hbB, j, p, p', hsj, ej, hj, es, hs, hacc, hm⟩ := hI
    simp [wSeq, wRet, wRetN, wSet, wDrop, wIf, wNext, wBrk, wCnt, wOr, wAnd, wOrT, wAndT, wNot, wNotT, wTru, wIfE, wOpX, wUnX, wVar, wC, eget, eset, wCons, wNil, wTup, wLst, wB, one, wCall, oS, wPar, wPar3, wAsg, wLM, oA, refD, dgN, dgCons, dgNil, dgTup, binO, addO, subO, mulO, fdivO, modO, powO, cmpO, relO, isO, eqO, neO, oII, truD, Br, negO, isNon, oD, oL, sFalse, eFalse, wStar, notK, eoD, h1, h2, h3]
    refine ⟨x, ps, s, b, rfl, stay _, (List.getElem?_eq_some_iff.mp es).1, fun t t1 t2 t3 t4 => ?_⟩
    obtain ⟨pt, et⟩ : ∃ q, ps[t]? = some q := ⟨_, List.getElem?_eq_getElem t2⟩
    have ht : pt.1 ≤ b := by
      by_cases e : t = s
      · subst e; rw [es] at et; cases et; exact hs
      · exact t4 t pt (by omega) (Nat.le_refl _) et
    have hjt := spot_uni ha ej hj t3 t2
    obtain ⟨B1, B2, B3⟩ := hB.get et
    have k1 : MulOk pt.2.2 (b - pt.1) := mulOk_of B3 (hbB.sub (B1.mono (show a ≤ a + 2 by omega)) (k := a + 3) (by omega) (by omega)) (by omega)
    have hb1 : Bt (a + 3) (b + 1) := hbB.add (show Bt 1 1 from by unfold Bt; decide) (by omega) (by omega)
    have v1 : Bt (a + c + 4) (numberIn pt b) := B2.add (B3.mul (hbB.sub (B1.mono (show a ≤ a + 2 by omega)) (k := a + 3) (by omega) (by omega)) (show _ ≤ a + c + 3 by omega)) (by omega) (by omega)
    simp [ixO_seq S (stay _), atI_pcs et, oD, num_eq, k1]
    refine ⟨x, ps, t, b + 1, rfl, stay _, t2, fun u u1 u2 u3 u4 => ?_⟩
    obtain ⟨pu, eu⟩ : ∃ q, ps[u]? = some q := ⟨_, List.getElem?_eq_getElem u2⟩
    have hu : pu.1 ≤ b + 1 := by
      by_cases e : u = t
      · subst e; rw [et] at eu; cases eu; omega
      · exact u4 u pu (by omega) (Nat.le_refl _) eu
    obtain ⟨C1, C2, C3⟩ := hB.get eu
    have k2 : MulOk pu.2.2 (b + 1 - pu.1) := mulOk_of C3 (hb1.sub (C1.mono (show a ≤ a + 2 by omega)) (k := a + 4) (by omega) (by omega)) (by omega)
    have v2 : Bt (a + c + 5) (numberIn pu (b + 1)) := C2.add (C3.mul (hb1.sub (C1.mono (show a ≤ a + 2 by omega)) (k := a + 4) (by omega) (by omega)) (show _ ≤ a + c + 4 by omega)) (by omega) (by omega)
    have e1 := vAt_pc ha et ht t3
    have e2 := vAt_pc ha eu hu u3
    have v3 : Bt (a + c + 6) (numberIn pu (b + 1) - numberIn pt b) := v2.sub v1 (by omega) (by omega)
    simp [ixO_seq S (stay _), atI_pcs eu, oD, num_eq, k2, lstM, Mem.put_same, lmAppend, Mem.put_put]
    refine ⟨by omega, by rw [pcsD_len]; omega, ?_⟩
    have ea : pcsD acc ++ [.tup [.int b, .int (numberIn pt b), .int (numberIn pu (b + 1) - numberIn pt b)]] = pcsD (acc ++ [(b, numberIn pt b, numberIn pu (b + 1) - numberIn pt b)]) := by unfold pcsD; rw [List.map_append]; rfl
    rw [ea]
    have hA' : Bd (a + 2) (a + c + 6) (acc ++ [(b, numberIn pt b, numberIn pu (b + 1) - numberIn pt b)]) := fun p hp => by
      rcases List.mem_append.mp hp with e | e
      · exact hA p e
      · rw [List.mem_singleton.mp e]
        exact ⟨hbB, v1.mono (by omega), v3⟩
    refine ⟨x, ps, t, a, c, a + 2, a + c + 6, b, numberIn pt b, _, pt, rfl, stay _, ha, hB, hbB, v3, by omega, by omega, et, ht, fun r hr => ?_⟩
    rw [← e1, ← e2] at hr
    cases r with
    | none =>
      refine hK 0 _ _ (by omega) ⟨_, t, none, _, _, rfl, rfl, hA', ?_, ?_⟩
      · have := hc _ (.last hr)
        rwa [e1, e2] at this
      · rw [List.length_append]; simp; omega
    | some e =>
      obtain ⟨j', q, j1, j2, j3, j4, j5⟩ := leaving_next ha et ht t3 hr
      have jl := (List.getElem?_eq_some_iff.mp j2).1
      refine hK (ps.length - j') _ _ (by omega) ⟨_, t, some e, _, _, rfl, rfl, hA', ⟨fun us hu => ?_, ?_, j', q, pt, by omega, j2, j3, et, by have := hr.1; omega, ?_, by omega⟩⟩
      · have := hc _ (.step hr hu)
        rw [e1, e2] at this
        simpa using this
      · have q1 := (hB.get j2).1
        have hn := hr.1
        unfold Bt at q1 ⊢
        have p1 : 2 ^ (a + 2) = 2 ^ a * 4 := Nat.pow_add 2 a 2
        have p2 : 0 < 2 ^ a := Nat.pow_pos (by decide)
        omega
      · rw [List.length_append]; simp; omega
end Fs
set_option maxHeartbeats 4000000
/-! Fc5: sums. -/
namespace Fs
open PySem PySem.Spec PyProof.Rows L2

/-! ### days of both -/
theorem wIt_var {i : Nat} {ex : EX} {ρ : DEnv} {M : Mem} {P : List Dt → Gd → Mem → Prop} {x : Dt} {ds : List Dt} (h : eget ρ i = some x) (f : seqF x = some ds) : wIt (wVar i) ex ρ M P = P ds none M := by
  unfold wIt wVar
  rw [h]
  cases x with
  | tup es => cases f; rfl
  | lst es => cases f; rfl
  | scr es => cases f; rfl
  | _ => cases f
/-- a tuple's or list's first -/
def hd0 : Dt → Dt
  | .tup (x :: _) => x
  | _ => .non
theorem map_hd0 (ps : List Pc) : (pcsD ps).map hd0 = (ps.map (·.1)).map .int := by
  unfold pcsD
  rw [List.map_map, List.map_map]
  rfl
theorem seqF_seqD {M : Mem} {x : Dt} {ds : List Dt} (f : seqF x = some ds) : seqD M x = some ds := by
  cases x with
  | tup es => exact f
  | lst es => exact f
  | scr es => exact f
  | _ => cases f
def spDaysOfBoth : DSp := fun ds M P ex => ∃ (x y : Dt) (ps qs : List Pc), ds = [x, y] ∧ seqF x = some (pcsD ps) ∧ seqF y = some (pcsD qs) ∧ ps.length + qs.length + 1 < scanBound ∧
  ∀ ns : List Int, ns.Pairwise (· < ·) → (∀ k, k ∈ ns ↔ (∃ p ∈ ps, p.1 = k) ∨ ∃ q ∈ qs, q.1 = k) → P (.lst (ns.map .int)) M
theorem c_days_of_both (S : Sps) (ds M P ex) (h : spDaysOfBoth ds M P ex) : wBody n_days_of_both (r_days_of_both S) ds M P ex := by
  obtain ⟨x, y, ps, qs, rfl, fx, fy, hz, h⟩ := h
  have sl := sizeLine_eq
  have sb : scanBound = 4096 := rfl
  simp [wSeq, wRet, wRetN, wSet, wDrop, wIf, wNext, wBrk, wCnt, wOr, wAnd, wOrT, wAndT, wNot, wNotT, wTru, wIfE, wOpX, wUnX, wVar, wC, eget, eset, wCons, wNil, wTup, wLst, wB, one, wCall, oS, wPar, wPar3, wAsg, wLM, oA, refD, dgN, dgCons, dgNil, dgTup, binO, addO, subO, mulO, fdivO, modO, powO, cmpO, relO, isO, eqO, neO, oII, truD, Br, negO, isNon, oD, oL, sFalse, eFalse, wStar, notK, wBody, r_days_of_both, n_days_of_both, startD, wSS, wLc]
  rw [wIt_var rfl fx]
  refine lc_map hd0 (show gd none M True from trivial) _ [] (fun d hd P q => ?_) (by simp [pcsD_len]; omega) (.inl ?_)
  · obtain ⟨p, _, rfl⟩ := List.mem_map.mp hd
    simp [wSeq, wRet, wRetN, wSet, wDrop, wIf, wNext, wBrk, wCnt, wOr, wAnd, wOrT, wAndT, wNot, wNotT, wTru, wIfE, wOpX, wUnX, wVar, wC, eget, eset, wCons, wNil, wTup, wLst, wB, one, wCall, oS, wPar, wPar3, wAsg, wLM, oA, refD, dgN, dgCons, dgNil, dgTup, binO, addO, subO, mulO, fdivO, modO, powO, cmpO, relO, isO, eqO, neO, oII, truD, Br, negO, isNon, oD, oL, sFalse, eFalse, wStar, notK, dwipe, ix_pc0]
    exact q
  dsimp only
  rw [wIt_var rfl fy]
  refine lc_map hd0 (show gd none M True from trivial) _ [] (fun d hd P q => ?_) (by simp [pcsD_len]; omega) (.inl ?_)
  · obtain ⟨p, _, rfl⟩ := List.mem_map.mp hd
    simp [wSeq, wRet, wRetN, wSet, wDrop, wIf, wNext, wBrk, wCnt, wOr, wAnd, wOrT, wAndT, wNot, wNotT, wTru, wIfE, wOpX, wUnX, wVar, wC, eget, eset, wCons, wNil, wTup, wLst, wB, one, wCall, oS, wPar, wPar3, wAsg, wLM, oA, refD, dgN, dgCons, dgNil, dgTup, binO, addO, subO, mulO, fdivO, modO, powO, cmpO, relO, isO, eqO, neO, oII, truD, Br, negO, isNon, oD, oL, sFalse, eFalse, wStar, notK, dwipe, ix_pc0]
    exact q
  have e : ((pcsD ps).map hd0 ++ (pcsD qs).map hd0) = ((ps.map (·.1)) ++ (qs.map (·.1))).map .int := by rw [map_hd0, map_hd0, List.map_append]
  simp [lstOf]
  refine ⟨by rw [pcsD_len, pcsD_len]; omega, .inl ?_⟩
  simp only [listD]
  rw [e, intsD_map]
  refine ⟨by simp; omega, fun ns n1 n2 => .inl (exitP_refl (h ns n1 fun k => ?_))⟩
  rw [n2]
  simp

/-! ### on days -/
def rowD (ps : List Pc) (n : Int) : Pc := (n, vAt ps n, rAt ps n)
def spOnDays : DSp := fun ds M P ex => ∃ (x : Dt) (ps : List Pc) (ns : List Int) (a c : Nat) (p0 : Pc), ds = [x, .lst (ns.map .int)] ∧ seqD M x = some (pcsD ps) ∧ Asc ps ∧ Bd a c ps ∧ a + c + 10 < 1000000 ∧ ps[0]? = some p0 ∧ p0.1 = 0 ∧
  ns.length < sizeLine ∧ ns.Pairwise (· < ·) ∧ (∀ n ∈ ns, 0 ≤ n ∧ Bt a n) ∧ P (.lst (pcsD (ns.map (rowD ps)))) M
theorem take_snoc {α : Type} {l : List α} {i : Nat} {x : α} (h : l[i]? = some x) : l.take (i + 1) = l.take i ++ [x] := by
  rw [List.take_add_one, h]; rfl
theorem Mem.del_put {M : Mem} {a : Addr} {o : MO} (h : M a = none) : (M.put a o).del a = M := by
  funext b
  by_cases e : b = a
  · subst e; rw [Mem.del_same, h]
  · rw [Mem.del_ne e, Mem.put_ne e]
theorem c_on_days (S : Sps) (h1 : S (.f "spot_from") = some spSpotFrom) (h2 : S (.f "number_in") = some spNumberIn) (ds M P ex) (h : spOnDays ds M P ex) : wBody n_on_days (r_on_days S) ds M P ex := by
  obtain ⟨x, ps, ns, a, c, p0, rfl, hq, ha, hB, hz, e0, hp0, hn, hs, hN, h⟩ := h
  have sl := sizeLine_eq
  simp [wSeq, wRet, wRetN, wSet, wDrop, wIf, wNext, wBrk, wCnt, wOr, wAnd, wOrT, wAndT, wNot, wNotT, wTru, wIfE, wOpX, wUnX, wVar, wC, eget, eset, wCons, wNil, wTup, wLst, wB, one, wCall, oS, wPar, wPar3, wAsg, wLM, oA, refD, dgN, dgCons, dgNil, dgTup, binO, addO, subO, mulO, fdivO, modO, powO, cmpO, relO, isO, eqO, neO, oII, truD, Br, negO, isNon, oD, oL, sFalse, eFalse, wStar, notK, wBody, r_on_days, n_on_days, startD, h1, h2, wFor]
  refine .inr fun f hf => ?_
  dsimp only
  rw [wIt_var rfl rfl]
  have stay : ∀ us, seqD (M.put f (.lst us)) x = some (pcsD ps) := fun us => seqD_put hq hf
  refine for_inv (fun i ρ M' => ∃ (s : Nat) (p : Pc) (w4 : Option Dt), M' = M.put f (.lst (pcsD ((ns.take i).map (rowD ps)))) ∧ ρ = [some x, some (.lst (ns.map .int)), some (.ref f), some (.int s), w4] ∧ ps[s]? = some p ∧ ∀ j n, i ≤ j → ns[j]? = some n → p.1 ≤ n) (fun _ _ _ _ => trivial) ⟨0, p0, _, rfl, rfl, e0, fun j n _ e => by rw [hp0]; exact (hN n (List.mem_of_getElem? e)).1⟩ ?_ ?_
  · rintro ρ M' ⟨s, p, w4, rfl, rfl, _⟩
    rw [List.length_map, List.take_length]
    simp [wSeq, wRet, wRetN, wSet, wDrop, wIf, wNext, wBrk, wCnt, wOr, wAnd, wOrT, wAndT, wNot, wNotT, wTru, wIfE, wOpX, wUnX, wVar, wC, eget, eset, wCons, wNil, wTup, wLst, wB, one, wCall, oS, wPar, wPar3, wAsg, wLM, oA, refD, dgN, dgCons, dgNil, dgTup, binO, addO, subO, mulO, fdivO, modO, powO, cmpO, relO, isO, eqO, neO, oII, truD, Br, negO, isNon, oD, oL, sFalse, eFalse, wStar, notK]
    exact ⟨_, M, .frz Mem.put_same (.drop (by rw [Mem.del_put hf]; exact Mem.Le.refl M) .refl), h⟩
  · rintro i d ρ M' K hd ⟨s, p, w4, rfl, rfl, es, hi⟩ hK
    obtain ⟨n, en, rfl⟩ : ∃ n, ns[i]? = some n ∧ d = .int n := by
      rw [List.getElem?_map] at hd
      cases e : ns[i]? with
      | none => rw [e] at hd; cases hd
      | some n => rw [e] at hd; cases hd; exact ⟨n, rfl, rfl⟩
    have hpn := hi i n (Nat.le_refl _) en
    obtain ⟨n0, nB⟩ := hN n (List.mem_of_getElem? en)
    simp [wSeq, wRet, wRetN, wSet, wDrop, wIf, wNext, wBrk, wCnt, wOr, wAnd, wOrT, wAndT, wNot, wNotT, wTru, wIfE, wOpX, wUnX, wVar, wC, eget, eset, wCons, wNil, wTup, wLst, wB, one, wCall, oS, wPar, wPar3, wAsg, wLM, oA, refD, dgN, dgCons, dgNil, dgTup, binO, addO, subO, mulO, fdivO, modO, powO, cmpO, relO, isO, eqO, neO, oII, truD, Br, negO, isNon, oD, oL, sFalse, eFalse, wStar, notK, h1, h2, -List.map_take]
    refine ⟨x, ps, s, n, rfl, stay _, (List.getElem?_eq_some_iff.mp es).1, fun t t1 t2 t3 t4 => ?_⟩
    obtain ⟨pt, et⟩ : ∃ q, ps[t]? = some q := ⟨_, List.getElem?_eq_getElem t2⟩
    have ht : pt.1 ≤ n := by
      by_cases e : t = s
      · subst e; rw [es] at et; cases et; exact hpn
      · exact t4 t pt (by omega) (Nat.le_refl _) et
    obtain ⟨B1, B2, B3⟩ := hB.get et
    have k1 : MulOk pt.2.2 (n - pt.1) := mulOk_of B3 (nB.sub B1 (k := a + 1) (by omega) (by omega)) (by omega)
    obtain ⟨e1, e2⟩ := vAt_ix ha et (.inr ht) t3
    simp [ixO_seq S (stay _), atI_pcs et, oD, num_eq, k1, ix_pc2, lstM, Mem.put_same, lmAppend, Mem.put_put, -List.map_take]
    have hil := (List.getElem?_eq_some_iff.mp en).1
    refine ⟨by omega, by rw [pcsD_len, List.length_map, List.length_take]; omega, hK _ _ ⟨t, pt, _, ?_, rfl, et, fun j m hj em => ?_⟩⟩
    · rw [take_snoc en, List.map_append]
      unfold pcsD
      rw [List.map_append]
      simp only [List.map_cons, List.map_nil, rowD, e1, e2]
      rfl
    · have := List.pairwise_iff_getElem.mp hs i j hil (List.getElem?_eq_some_iff.mp em).1 (by omega)
      rw [(List.getElem?_eq_some_iff.mp en).2, (List.getElem?_eq_some_iff.mp em).2] at this
      omega
end Fs
set_option maxHeartbeats 4000000
/-! Fc6: summed. -/
namespace Fs
open PySem PySem.Spec PyProof.Rows L2

theorem nodup_len {l : List Int} : ∀ {m : List Int}, l.Pairwise (· < ·) → (∀ k, k ∈ l → k ∈ m) → l.length ≤ m.length := by
  induction l with
  | nil => intro m _ _; exact Nat.zero_le _
  | cons a l ih =>
    intro m hp hs
    obtain ⟨h1, h2⟩ := List.pairwise_cons.mp hp
    have ha := hs a (List.mem_cons_self ..)
    have := ih (m := m.erase a) h2 fun k hk => (List.mem_erase_of_ne (by have := h1 k hk; omega)).mpr (hs k (List.mem_cons_of_mem _ hk))
    rw [List.length_erase_of_mem ha] at this
    have : 0 < m.length := List.length_pos_of_mem ha
    simp only [List.length_cons]
    omega
theorem vAt_shift {ps : List Pc} {p0 : Pc} {n d : Int} (ha : Asc ps) (e0 : ps[0]? = some p0) (h0 : p0.1 ≤ n) (hd : n ≤ d) (hno : ∀ p ∈ ps, ¬ (n < p.1 ∧ p.1 ≤ d)) : vAt ps d = vAt ps n + rAt ps n * (d - n) := by
  obtain ⟨j, q, _, j2, j3, j4⟩ := ix_of (d := n) ps.length 0 e0 h0 (by omega)
  obtain ⟨e1, e2⟩ := vAt_ix ha j2 (.inr j3) j4
  have e3 := vAt_pc (d := d) ha j2 (by omega) fun q' hq => by
    have h1 := j4 q' hq
    have h2 := hno q' (List.mem_of_getElem? hq)
    omega
  rw [e1, e2, e3]
  unfold numberIn
  have : q.2.2 * (d - q.1) = q.2.2 * (n - q.1) + q.2.2 * (d - n) := by rw [← Int.mul_add]; congr 1; omega
  omega
/-- the sum of both, by the days of both -/
def sumV (sg : Int) (ps qs : List Pc) (d : Int) : Int := vAt ps d + sg * vAt qs d
def sumR (sg : Int) (ps qs : List Pc) (n : Int) : Pc := (n, vAt ps n + sg * vAt qs n, rAt ps n + sg * rAt qs n)
theorem asc_map {f : Int → Pc} (hf : ∀ n, (f n).1 = n) : ∀ {ns : List Int}, ns.Pairwise (· < ·) → Asc (ns.map f)
  | [], _ => trivial
  | [_], _ => trivial
  | n :: m :: r, h => by
    obtain ⟨h1, h2⟩ := List.pairwise_cons.mp h
    refine ⟨?_, asc_map hf h2⟩
    rw [hf, hf]
    exact h1 m (List.mem_cons_self ..)
theorem sum_rows {ps qs : List Pc} {p0 q0 : Pc} {ns : List Int} {sg : Int} (ha : Asc ps) (hb : Asc qs) (e0 : ps[0]? = some p0) (h0 : p0.1 = 0) (f0 : qs[0]? = some q0) (g0 : q0.1 = 0)
    (hp : ns.Pairwise (· < ·)) (hn : ∀ k, k ∈ ns ↔ (∃ p ∈ ps, p.1 = k) ∨ ∃ q ∈ qs, q.1 = k) (hpos : ∀ n ∈ ns, 0 ≤ n) : ∃ r, (ns.map (sumR sg ps qs))[0]? = some r ∧ r.1 = 0 ∧ ∀ d, 0 ≤ d → vAt (ns.map (sumR sg ps qs)) d = sumV sg ps qs d := by
  have asc : Asc (ns.map (sumR sg ps qs)) := asc_map (fun _ => rfl) hp
  have z0 : (0 : Int) ∈ ns := (hn 0).mpr (.inl ⟨p0, List.mem_of_getElem? e0, h0⟩)
  obtain ⟨r, hr, hr0⟩ : ∃ r, (ns.map (sumR sg ps qs))[0]? = some r ∧ r.1 = 0 := by
    cases ns with
    | nil => cases z0
    | cons n ns =>
      refine ⟨sumR sg ps qs n, rfl, ?_⟩
      have hn0 := hpos n (List.mem_cons_self ..)
      rcases List.mem_cons.mp z0 with e | e
      · exact e.symm
      · have := (List.pairwise_cons.mp hp).1 0 e
        exact absurd this (by omega)
  refine ⟨r, hr, hr0, fun d hd => ?_⟩
  obtain ⟨j, q, _, j2, j3, j4⟩ := ix_of (d := d) _ 0 hr (by omega) (Nat.le_refl _)
  rw [List.getElem?_map] at j2
  obtain ⟨n, en, rfl⟩ : ∃ n, ns[j]? = some n ∧ sumR sg ps qs n = q := by
    cases e : ns[j]? with
    | none => rw [e] at j2; cases j2
    | some n => rw [e] at j2; cases j2; exact ⟨n, rfl, rfl⟩
  have hjn : n ≤ d := j3
  have hnn := hpos n (List.mem_of_getElem? en)
  have gap : ∀ k ∈ ns, ¬ (n < k ∧ k ≤ d) := by
    rintro k hk ⟨h1, h2⟩
    obtain ⟨i, hi⟩ := List.getElem?_of_mem hk
    have hji : j < i := by
      have il := (List.getElem?_eq_some_iff.mp hi)
      have jl := (List.getElem?_eq_some_iff.mp en)
      by_cases h : j < i
      · exact h
      · by_cases h3 : i = j
        · subst h3; rw [hi] at en; cases en; omega
        · have := List.pairwise_iff_getElem.mp hp i j il.1 jl.1 (by omega)
          rw [il.2, jl.2] at this
          omega
    obtain ⟨m, em⟩ : ∃ m, ns[j + 1]? = some m := ⟨_, List.getElem?_eq_getElem (by have := (List.getElem?_eq_some_iff.mp hi).1; omega)⟩
    have := j4 (sumR sg ps qs m) (by rw [List.getElem?_map, em]; rfl)
    have hdm : d < m := this
    by_cases h3 : i = j + 1
    · subst h3; rw [hi] at em; cases em; omega
    · have il := (List.getElem?_eq_some_iff.mp hi)
      have ml := (List.getElem?_eq_some_iff.mp em)
      have := List.pairwise_iff_getElem.mp hp (j + 1) i ml.1 il.1 (by omega)
      rw [il.2, ml.2] at this
      omega
  have e1 := vAt_shift (ps := ps) ha e0 (show p0.1 ≤ n by omega) hjn fun p hp' => gap p.1 ((hn _).mpr (.inl ⟨p, hp', rfl⟩))
  have e2 := vAt_shift (ps := qs) hb f0 (show q0.1 ≤ n by omega) hjn fun p hp' => gap p.1 ((hn _).mpr (.inr ⟨p, hp', rfl⟩))
  have e3 := vAt_pc (d := d) asc (show (ns.map (sumR sg ps qs))[j]? = some (sumR sg ps qs n) by rw [List.getElem?_map, en]; rfl) hjn j4
  rw [e3]
  unfold sumV
  rw [e1, e2]
  unfold numberIn sumR
  dsimp only
  rw [Int.mul_add, Int.add_mul, Int.mul_assoc]
  omega

theorem zip_rows (f g : Int → Pc) (ns : List Int) : zip2D (pcsD (ns.map f)) (pcsD (ns.map g)) = ns.map fun n => .tup [pcD (f n), pcD (g n)] := by
  unfold zip2D pcsD
  induction ns with
  | nil => rfl
  | cons n ns ih =>
    simp only [List.map_cons, List.zipWith_cons_cons] at ih ⊢
    rw [ih]
theorem vAt_bt {ps : List Pc} {p0 : Pc} {a c : Nat} {n : Int} (ha : Asc ps) (hB : Bd a c ps) (e0 : ps[0]? = some p0) (h0 : p0.1 = 0) (hn : 0 ≤ n) (hb : Bt a n) : Bt (a + c + 2) (vAt ps n) ∧ Bt c (rAt ps n) := by
  obtain ⟨j, q, _, j2, j3, j4⟩ := ix_of (d := n) ps.length 0 e0 (by omega) (by omega)
  obtain ⟨e1, e2⟩ := vAt_ix ha j2 (.inr j3) j4
  obtain ⟨B1, B2, B3⟩ := hB.get j2
  rw [e1, e2]
  exact ⟨B2.add (B3.mul (hb.sub B1 (k := a + 1) (by omega) (by omega)) (show _ ≤ a + c + 1 by omega)) (by omega) (by omega), B3⟩
def spSummed : DSp := fun ds M P ex => ∃ (x y : Dt) (ps qs : List Pc) (a c : Nat) (sg : Int) (p0 q0 : Pc), ds = [x, y, .int sg] ∧ seqF x = some (pcsD ps) ∧ seqF y = some (pcsD qs) ∧ Asc ps ∧ Asc qs ∧ Bd a c ps ∧ Bd a c qs ∧ Bt 1 sg ∧ 8 * (a + c) + 80 < 1000000 ∧
  ps[0]? = some p0 ∧ p0.1 = 0 ∧ qs[0]? = some q0 ∧ q0.1 = 0 ∧ ps.length + qs.length + 1 < scanBound ∧
  ∀ ts, Canon (sumV sg ps qs) ts → Bd (a + 2) (2 * a + c + 10) ts → ts.length ≤ ps.length + qs.length → P (.tup (pcsD ts)) M
theorem c_summed (S : Sps) (h1 : S (.f "days_of_both") = some spDaysOfBoth) (h2 : S (.f "on_days") = some spOnDays) (h3 : S (.f "told") = some spTold) (ds M P ex) (h : spSummed ds M P ex) : wBody n_summed (r_summed S) ds M P ex := by
  obtain ⟨x, y, ps, qs, a, c, sg, p0, q0, rfl, hx, hy, ha, hb, hA, hB, hsg, hz, e0, hp0, f0, hq0, hn, h⟩ := h
  have sl := sizeLine_eq
  have sb : scanBound = 4096 := rfl
  simp [wSeq, wRet, wRetN, wSet, wDrop, wIf, wNext, wBrk, wCnt, wOr, wAnd, wOrT, wAndT, wNot, wNotT, wTru, wIfE, wOpX, wUnX, wVar, wC, eget, eset, wCons, wNil, wTup, wLst, wB, one, wCall, oS, wPar, wPar3, wAsg, wLM, oA, refD, dgN, dgCons, dgNil, dgTup, binO, addO, subO, mulO, fdivO, modO, powO, cmpO, relO, isO, eqO, neO, oII, truD, Br, negO, isNon, oD, oL, sFalse, eFalse, wStar, notK, wBody, r_summed, n_summed, startD, h1, h2, h3, wFor]
  refine .inr fun f hf => ?_
  refine ⟨x, y, ps, qs, rfl, hx, hy, hn, fun ns n1 n2 => ?_⟩
  have hpos : ∀ n ∈ ns, 0 ≤ n ∧ Bt a n := fun n hk => by
    rcases (n2 n).mp hk with ⟨p, hp, rfl⟩ | ⟨p, hp, rfl⟩
    · refine ⟨?_, (hA p hp).1⟩
      obtain ⟨i, hi⟩ := List.getElem?_of_mem hp
      cases i with
      | zero => rw [hi] at e0; cases e0; omega
      | succ i => have := ha.get e0 hi (by omega); omega
    · refine ⟨?_, (hB p hp).1⟩
      obtain ⟨i, hi⟩ := List.getElem?_of_mem hp
      cases i with
      | zero => rw [hi] at f0; cases f0; omega
      | succ i => have := hb.get f0 hi (by omega); omega
  have hnl : ns.length ≤ ps.length + qs.length := by
    have := nodup_len (m := ps.map (·.1) ++ qs.map (·.1)) n1 fun k hk => by
      rcases (n2 k).mp hk with ⟨p, hp, rfl⟩ | ⟨p, hp, rfl⟩
      · exact List.mem_append.mpr (.inl (List.mem_map.mpr ⟨p, hp, rfl⟩))
      · exact List.mem_append.mpr (.inr (List.mem_map.mpr ⟨p, hp, rfl⟩))
    simpa using this
  simp [wZip2, wSeq, wRet, wRetN, wSet, wDrop, wIf, wNext, wBrk, wCnt, wOr, wAnd, wOrT, wAndT, wNot, wNotT, wTru, wIfE, wOpX, wUnX, wVar, wC, eget, eset, wCons, wNil, wTup, wLst, wB, one, wCall, oS, wPar, wPar3, wAsg, wLM, oA, refD, dgN, dgCons, dgNil, dgTup, binO, addO, subO, mulO, fdivO, modO, powO, cmpO, relO, isO, eqO, neO, oII, truD, Br, negO, isNon, oD, oL, sFalse, eFalse, wStar, notK, h2]
  refine ⟨x, ps, ns, a, c, p0, rfl, seqF_seqD hx, ha, hA, by omega, e0, hp0, by omega, n1, hpos, ?_⟩
  refine ⟨y, qs, ns, a, c, q0, rfl, seqF_seqD hy, hb, hB, by omega, f0, hq0, by omega, n1, hpos, ?_⟩
  simp [oL, seqF]
  rw [zip_rows]
  have BN : ∀ n ∈ ns, Bt (a + c + 2) (vAt ps n) ∧ Bt c (rAt ps n) ∧ Bt (a + c + 2) (vAt qs n) ∧ Bt c (rAt qs n) := fun n hk =>
    have b1 := vAt_bt ha hA e0 hp0 (hpos n hk).1 (hpos n hk).2
    have b2 := vAt_bt hb hB f0 hq0 (hpos n hk).1 (hpos n hk).2
    ⟨b1.1, b1.2, b2.1, b2.2⟩
  refine for_inv (fun i ρ M' => ∃ w5 w6 w7 w8 w9 w10 w11, M' = M.put f (.lst (pcsD ((ns.take i).map (sumR sg ps qs)))) ∧ ρ = [some x, some y, some (.int sg), some (.ref f), some (.lst (ns.map .int)), w5, w6, w7, w8, w9, w10, w11]) (fun _ _ _ _ => trivial) ⟨_, _, _, _, _, _, _, rfl, rfl⟩ ?_ ?_
  · rintro ρ M' ⟨w5, w6, w7, w8, w9, w10, w11, rfl, rfl⟩
    rw [List.length_map, List.take_length]
    simp only [eget]
    obtain ⟨r, hr, hr0, hv⟩ := sum_rows (sg := sg) ha hb e0 hp0 f0 hq0 n1 n2 fun n hk => (hpos n hk).1
    refine ⟨.ref f, ns.map (sumR sg ps qs), a, a + c + 4, r, rfl, ?_, asc_map (fun _ => rfl) n1, ?_, by omega, by rw [List.length_map]; omega, hr, hr0, fun ts t1 t2 t3 => ⟨_, M, .drop (put_le hf) .refl, h ts (t1.congr fun d hd => (hv d hd).symm) (t2.mono (by omega) (by omega)) (by rw [List.length_map] at t3; omega)⟩⟩
    · simp only [seqD, listD, Mem.put_same]
    · intro p hp
      obtain ⟨n, hk, rfl⟩ := List.mem_map.mp hp
      obtain ⟨b1, b2, b3, b4⟩ := BN n hk
      exact ⟨(hpos n hk).2, b1.add (hsg.mul b3 (show _ ≤ a + c + 3 by omega)) (by omega) (by omega), b2.add (hsg.mul b4 (show _ ≤ c + 1 by omega)) (by omega) (by omega)⟩
  · rintro i d ρ M' K hd ⟨w5, w6, w7, w8, w9, w10, w11, rfl, rfl⟩ hK
    obtain ⟨n, en, rfl⟩ : ∃ n, ns[i]? = some n ∧ d = .tup [pcD (rowD ps n), pcD (rowD qs n)] := by
      rw [List.getElem?_map] at hd
      cases e : ns[i]? with
      | none => rw [e] at hd; cases hd
      | some n => rw [e] at hd; cases hd; exact ⟨n, rfl, rfl⟩
    obtain ⟨b1, b2, b3, b4⟩ := BN n (List.mem_of_getElem? en)
    have k1 : MulOk sg (vAt qs n) := mulOk_of hsg b3 (by omega)
    have k2 : MulOk sg (rAt qs n) := mulOk_of hsg b4 (by omega)
    have hil := (List.getElem?_eq_some_iff.mp en).1
    simp [wSeq, wRet, wRetN, wSet, wDrop, wIf, wNext, wBrk, wCnt, wOr, wAnd, wOrT, wAndT, wNot, wNotT, wTru, wIfE, wOpX, wUnX, wVar, wC, eget, eset, wCons, wNil, wTup, wLst, wB, one, wCall, oS, wPar, wPar3, wAsg, wLM, oA, refD, dgN, dgCons, dgNil, dgTup, binO, addO, subO, mulO, fdivO, modO, powO, cmpO, relO, isO, eqO, neO, oII, truD, Br, negO, isNon, oD, oL, sFalse, eFalse, wStar, notK, pcD, rowD, k1, k2, lstM, Mem.put_same, lmAppend, Mem.put_put, -List.map_take]
    refine ⟨by omega, by rw [pcsD_len, List.length_map, List.length_take]; omega, hK _ _ ⟨_, _, _, _, _, _, _, ?_, rfl⟩⟩
    rw [take_snoc en, List.map_append]
    unfold pcsD
    rw [List.map_append]
    simp only [List.map_cons, List.map_nil, sumR]
    rfl
end Fs
set_option maxHeartbeats 4000000
/-! Fc7: the first day above. -/
namespace Fs
open PySem PySem.Spec PyProof.Rows L2

def endsD (ps : List Pc) : List Dt := ps.tail.map (fun p => .int p.1) ++ [.non]
def spEndsOf : DSp := fun ds M P ex => ∃ (ps : List Pc), ds = [.tup (pcsD ps)] ∧ ps.length < sizeLine ∧ P (.lst (endsD ps)) M
theorem cut_pcs (ps : List Pc) : cutD (pcsD ps) (some 1) none = pcsD ps.tail := by
  rw [show cutD (pcsD ps) (some 1) none = (pcsD ps).drop 1 from cut_from (pcsD ps) 1]
  unfold pcsD
  rw [List.drop_one, List.map_tail]
theorem c_ends_of (S : Sps) (ds M P ex) (h : spEndsOf ds M P ex) : wBody n_ends_of (r_ends_of S) ds M P ex := by
  obtain ⟨ps, rfl, hz, h⟩ := h
  have sl := sizeLine_eq
  have z := exitP_refl h
  have e0 : (pcsD ps.tail).map hd0 = ps.tail.map (fun p => .int p.1) := by
    rw [map_hd0, List.map_map]; rfl
  simp [wSeq, wRet, wRetN, wSet, wDrop, wIf, wNext, wBrk, wCnt, wOr, wAnd, wOrT, wAndT, wNot, wNotT, wTru, wIfE, wOpX, wUnX, wVar, wC, eget, eset, wCons, wNil, wTup, wLst, wB, one, wCall, oS, wPar, wPar3, wAsg, wLM, oA, refD, dgN, dgCons, dgNil, dgTup, binO, addO, subO, mulO, fdivO, modO, powO, cmpO, relO, isO, eqO, neO, oII, truD, Br, negO, isNon, oD, oL, sFalse, eFalse, wStar, notK, wBody, r_ends_of, n_ends_of, startD, wLc, wIt, wSl, wP0, wP1, oCut]
  rw [cut_pcs]
  refine lc_map hd0 (show gd none M True from trivial) _ [] (fun d hd P q => ?_) (by simp [pcsD_len]; omega) (.inl ?_)
  · obtain ⟨p, _, rfl⟩ := List.mem_map.mp hd
    simp [wSeq, wRet, wRetN, wSet, wDrop, wIf, wNext, wBrk, wCnt, wOr, wAnd, wOrT, wAndT, wNot, wNotT, wTru, wIfE, wOpX, wUnX, wVar, wC, eget, eset, wCons, wNil, wTup, wLst, wB, one, wCall, oS, wPar, wPar3, wAsg, wLM, oA, refD, dgN, dgCons, dgNil, dgTup, binO, addO, subO, mulO, fdivO, modO, powO, cmpO, relO, isO, eqO, neO, oII, truD, Br, negO, isNon, oD, oL, sFalse, eFalse, wStar, notK, dwipe, ix_pc0]
    exact q
  simp only [lstOf, List.nil_append, e0]
  refine ⟨by omega, .inl ⟨?_, .inl z⟩⟩
  simp
  omega
/-- the first day on which there is anything -/
def IsFirst (f : Int → Int) : Option Int → Prop
  | none => ∀ d, 0 ≤ d → f d ≤ 0
  | some e => 0 ≤ e ∧ 0 < f e ∧ ∀ d, 0 ≤ d → d < e → f d ≤ 0
theorem endsD_get {ps : List Pc} {i : Nat} {d : Dt} (hi : i < ps.length) (h : (endsD ps)[i]? = some d) : (∃ q, ps[i + 1]? = some q ∧ d = .int q.1) ∨ ps[i + 1]? = none ∧ d = .non := by
  unfold endsD at h
  cases e : ps[i + 1]? with
  | some q =>
    left
    have hl := (List.getElem?_eq_some_iff.mp e).1
    rw [List.getElem?_append_left (by simp; omega), List.getElem?_map, List.getElem?_tail, e] at h
    cases h
    exact ⟨q, rfl, rfl⟩
  | none =>
    right
    have hl := List.getElem?_eq_none_iff.mp e
    have : i = ps.length - 1 := by omega
    rw [List.getElem?_append_right (by simp; omega)] at h
    simp at h
    rw [show i - (ps.length - 1) = 0 by omega] at h
    simp at h
    exact ⟨rfl, h.symm⟩
/-- of a rising row the first day above -/
theorem rise_first {v r b : Int} (hr : 0 < r) (hv : v ≤ 0) : b ≤ b + (-v).fdiv r ∧ 0 < v + r * (b + (-v).fdiv r + 1 - b) ∧ ∀ d, d < b + (-v).fdiv r + 1 → v + r * (d - b) ≤ 0 := by
  have e : (-v).fdiv r * r + (-v).fmod r = -v := Int.fdiv_mul_add_fmod _ _
  have m0 : 0 ≤ (-v).fmod r := Int.fmod_nonneg_of_pos _ hr
  have m1 : (-v).fmod r < r := Int.fmod_lt_of_pos _ hr
  generalize (-v).fdiv r = k at *
  generalize (-v).fmod r = m at *
  have k0 : 0 ≤ k := by
    by_cases h : 0 ≤ k
    · exact h
    · have : k * r ≤ -1 * r := Int.mul_le_mul_of_nonneg_right (by omega) (by omega)
      omega
  refine ⟨by omega, ?_, fun d hd => ?_⟩
  · rw [show b + k + 1 - b = k + 1 by omega, Int.mul_add, Int.mul_one, Int.mul_comm]
    omega
  · have : r * (d - b) ≤ r * k := Int.mul_le_mul_of_nonneg_left (by omega) (by omega)
    rw [Int.mul_comm r k] at this
    omega
theorem fall_none {v r b d : Int} (hr : r ≤ 0) (hv : v ≤ 0) (hd : b ≤ d) : v + r * (d - b) ≤ 0 := by
  have : r * (d - b) ≤ 0 := Int.mul_nonpos_of_nonpos_of_nonneg hr (by omega)
  omega
def spFirstAbove : DSp := fun ds M P ex => ∃ (ps : List Pc) (a c : Nat) (p0 : Pc), ds = [.tup (pcsD ps)] ∧ Asc ps ∧ Bd a c ps ∧ c < 9000 ∧ ps.length < sizeLine ∧ ps[0]? = some p0 ∧ p0.1 = 0 ∧
  ∀ r, IsFirst (vAt ps) r → P (eoD r) M
theorem c_first_above (S : Sps) (h1 : S (.f "ends_of") = some spEndsOf) (h2 : S (.f "is_ahead") = some spIsAhead) (ds M P ex) (h : spFirstAbove ds M P ex) : wBody n_first_above (r_first_above S) ds M P ex := by
  obtain ⟨ps, a, c, p0, rfl, ha, hB, hc, hz, e0, hp0, h⟩ := h
  have sl := sizeLine_eq
  have hel : (endsD ps).length = ps.length := by
    have := (List.getElem?_eq_some_iff.mp e0).1
    unfold endsD
    simp
    omega
  have hzl : (zip2D (pcsD ps) (endsD ps)).length = ps.length := by
    unfold zip2D
    rw [List.length_zipWith, pcsD_len, hel, Nat.min_self]
  simp [wSeq, wRet, wRetN, wSet, wDrop, wIf, wNext, wBrk, wCnt, wOr, wAnd, wOrT, wAndT, wNot, wNotT, wTru, wIfE, wOpX, wUnX, wVar, wC, eget, eset, wCons, wNil, wTup, wLst, wB, one, wCall, oS, wPar, wPar3, wAsg, wLM, oA, refD, dgN, dgCons, dgNil, dgTup, binO, addO, subO, mulO, fdivO, modO, powO, cmpO, relO, isO, eqO, neO, oII, truD, Br, negO, isNon, oD, oL, sFalse, eFalse, wStar, notK, wBody, r_first_above, n_first_above, startD, h1, h2, wFor, wZip2]
  refine ⟨ps, rfl, hz, ?_⟩
  simp [oL, seqF]
  refine for_inv (fun i ρ M' => M' = M ∧ (∃ w1 w2 w3 w4 w5, ρ = [some (.tup (pcsD ps)), w1, w2, w3, w4, w5]) ∧ ∀ d, 0 ≤ d → (∀ q, ps[i]? = some q → d < q.1) → vAt ps d ≤ 0) (fun _ _ _ _ => trivial) ⟨rfl, ⟨_, _, _, _, _, rfl⟩, fun d hd hx => by have := hx p0 e0; omega⟩ ?_ ?_
  · rintro ρ M' ⟨rfl, _, hr⟩
    exact exitP_refl (h none fun d hd => hr d hd fun q hq => by
      rw [hzl] at hq
      have := (List.getElem?_eq_some_iff.mp hq).1
      omega)
  · rintro i d ρ M' K hd ⟨rfl, ⟨w1, w2, w3, w4, w5, rfl⟩, hr⟩ hK
    obtain ⟨x, y, ex, ey, rfl⟩ := zip2_get hd
    obtain ⟨p, ep, rfl⟩ := pcs_get ex
    obtain ⟨B1, B2, B3⟩ := hB.get ep
    have hi := (List.getElem?_eq_some_iff.mp ep).1
    have hp1 : 0 ≤ p.1 := by
      cases i with
      | zero => rw [e0] at ep; cases ep; omega
      | succ i => have := ha.get e0 ep (by omega); omega
    have vp : ∀ d, p.1 ≤ d → (∀ q, ps[i + 1]? = some q → d < q.1) → vAt ps d = p.2.1 + p.2.2 * (d - p.1) := fun d hd hx => (vAt_ix ha ep (.inr hd) hx).1
    have pre : ∀ d, 0 ≤ d → d < p.1 → vAt ps d ≤ 0 := fun d hd hx => hr d hd fun q hq => by rw [ep] at hq; cases hq; exact hx
    have nx : ∀ q, ps[i + 1]? = some q → p.1 < q.1 := fun q hq => ha.get ep hq (by omega)
    have r1 : 0 < p.2.1 → exitP P (.int p.1) M' := fun hv => exitP_refl (h (some p.1) ⟨hp1, by rw [vp p.1 (Int.le_refl _) nx, Int.sub_self, Int.mul_zero]; omega, pre⟩)
    have dv : 0 < p.2.2 → DivOk p.2.2 := fun hv => ⟨by omega, by have := B3.log; omega⟩
    have r2 : p.2.1 ≤ 0 → 0 < p.2.2 → (∀ q, ps[i + 1]? = some q → p.1 + (-p.2.1).fdiv p.2.2 + 1 < q.1) → exitP P (.int (p.1 + (-p.2.1).fdiv p.2.2 + 1)) M' := fun hv hs hx => by
      obtain ⟨f1, f2, f3⟩ := rise_first (b := p.1) hs hv
      refine exitP_refl (h (some _) ⟨by omega, by rw [vp _ (by omega) hx]; exact f2, fun d hd hd2 => ?_⟩)
      by_cases e : d < p.1
      · exact pre d hd e
      · rw [vp d (by omega) fun q hq => by have := hx q hq; omega]; exact f3 d hd2
    have fin : ∀ w1 w2 w3 w4 w5, p.2.1 ≤ 0 → (p.2.2 ≤ 0 ∨ ∃ q, ps[i + 1]? = some q ∧ 0 < p.2.2 ∧ q.1 ≤ p.1 + (-p.2.1).fdiv p.2.2 + 1) → K [some (.tup (pcsD ps)), w1, w2, w3, w4, w5] M' := fun w1 w2 w3 w4 w5 hv hs => by
      refine hK _ _ ⟨rfl, ⟨_, _, _, _, _, rfl⟩, fun d hd hx => ?_⟩
      by_cases e : d < p.1
      · exact pre d hd e
      rw [vp d (by omega) hx]
      rcases hs with hs | ⟨q, hq, hs, hle⟩
      · exact fall_none hs hv (by omega)
      · exact (rise_first (b := p.1) hs hv).2.2 d (by have := hx q hq; omega)
    rcases endsD_get hi ey with ⟨q, eq, rfl⟩ | ⟨en, rfl⟩
    · simp [wSeq, wRet, wRetN, wSet, wDrop, wIf, wNext, wBrk, wCnt, wOr, wAnd, wOrT, wAndT, wNot, wNotT, wTru, wIfE, wOpX, wUnX, wVar, wC, eget, eset, wCons, wNil, wTup, wLst, wB, one, wCall, oS, wPar, wPar3, wAsg, wLM, oA, refD, dgN, dgCons, dgNil, dgTup, binO, addO, subO, mulO, fdivO, modO, powO, cmpO, relO, isO, eqO, neO, oII, truD, Br, negO, isNon, oD, oL, sFalse, eFalse, wStar, notK, pcD, h2, ahead_int]
      exact ⟨r1, fun hv => ⟨fun hs => ⟨dv hs, fun hx => r2 hv hs fun q' hq => by rw [eq] at hq; cases hq; exact hx, fun hx => fin _ _ _ _ _ hv (.inr ⟨q, eq, hs, hx⟩)⟩, fun hs => fin _ _ _ _ _ hv (.inl hs)⟩⟩
    · simp [wSeq, wRet, wRetN, wSet, wDrop, wIf, wNext, wBrk, wCnt, wOr, wAnd, wOrT, wAndT, wNot, wNotT, wTru, wIfE, wOpX, wUnX, wVar, wC, eget, eset, wCons, wNil, wTup, wLst, wB, one, wCall, oS, wPar, wPar3, wAsg, wLM, oA, refD, dgN, dgCons, dgNil, dgTup, binO, addO, subO, mulO, fdivO, modO, powO, cmpO, relO, isO, eqO, neO, oII, truD, Br, negO, isNon, oD, oL, sFalse, eFalse, wStar, notK, pcD, h2, ahead_non]
      exact ⟨r1, fun hv => ⟨fun hs => ⟨dv hs, r2 hv hs fun q' hq => by rw [en] at hq; cases hq⟩, fun hs => fin _ _ _ _ _ hv (.inl hs)⟩⟩
end Fs
set_option maxHeartbeats 4000000
/-! Fc8: Stairs. -/
namespace Fs
open PySem PySem.Spec PyProof.Rows L2

def stD (ts : List Pc) : Dt := .ins "Stairs" [.tup (pcsD ts)]
/-- what pieces must be to be told -/
structure PsOk (a c n : Nat) (ps : List Pc) : Prop where
  asc : Asc ps
  bd : Bd a c ps
  hd : ∃ p0, ps[0]? = some p0 ∧ p0.1 = 0
  len : ps.length ≤ n
theorem PsOk.mono {a c n a' c' n' : Nat} {ps : List Pc} (h : PsOk a c n ps) (h1 : a ≤ a') (h2 : c ≤ c') (h3 : n ≤ n') : PsOk a' c' n' ps := ⟨h.asc, h.bd.mono h1 h2, h.hd, Nat.le_trans h.len h3⟩
theorem Canon.ps {f : Int → Int} {ts : List Pc} {a c n : Nat} (h : Canon f ts) (h1 : Bd a c ts) (h2 : ts.length ≤ n) : PsOk a c n ts := ⟨h.asc, h1, by
  obtain ⟨r, e⟩ := h.head
  exact ⟨(0, f 0, f (0 + 1) - f 0), by rw [e]; rfl, rfl⟩, h2⟩
def spPieces : DSp := fun ds M P ex => ∃ d, ds = [.ins "Stairs" [d]] ∧ P d M
theorem c_pieces (S : Sps) (h1 : (S (.c "Stairs")).isSome) (ds M P ex) (h : spPieces ds M P ex) : wBody n_Stairs_pieces (r_Stairs_pieces S) ds M P ex := by
  obtain ⟨d, rfl, h⟩ := h
  obtain ⟨sp, e⟩ := Option.isSome_iff_exists.mp h1
  simp [wSeq, wRet, wRetN, wSet, wDrop, wIf, wNext, wBrk, wCnt, wOr, wAnd, wOrT, wAndT, wNot, wNotT, wTru, wIfE, wOpX, wUnX, wVar, wC, eget, eset, wCons, wNil, wTup, wLst, wB, one, wCall, oS, wPar, wPar3, wAsg, wLM, oA, refD, dgN, dgCons, dgNil, dgTup, binO, addO, subO, mulO, fdivO, modO, powO, cmpO, relO, isO, eqO, neO, oII, truD, Br, negO, isNon, oD, oL, sFalse, eFalse, wStar, notK, wBody, r_Stairs_pieces, n_Stairs_pieces, startD, wAttr, attrO, show slotIx "Stairs" "own_pieces" = some 0 from by decide, e]
  exact exitP_refl h
def spInit : DSp := fun ds M P ex => ∃ (x : Addr) (ps : List Pc) (a c : Nat), ds = [.ref x, .tup (pcsD ps)] ∧ M x = some (.slt "Stairs" []) ∧ PsOk a c 5000000 ps ∧ 4 * (a + c) + 40 < 1000000 ∧
  ∀ ts, Canon (vAt ps) ts → Bd (a + 2) (a + c + 6) ts → ts.length ≤ ps.length → P .non (M.put x (.slt "Stairs" [some (.tup (pcsD ts))]))
theorem c_init (S : Sps) (h0 : (S (.c "Stairs")).isSome) (h1 : S (.f "are_pieces") = some spArePieces) (h2 : S (.f "told") = some spTold) (ds M P ex) (h : spInit ds M P ex) : wBody n_Stairs___init__ (r_Stairs___init__ S) ds M P ex := by
  obtain ⟨x, ps, a, c, rfl, hx, ⟨k1, k2, ⟨p0, k3, k4⟩, k5⟩, hz, h⟩ := h
  obtain ⟨sp, e⟩ := Option.isSome_iff_exists.mp h0
  have sl := sizeLine_eq
  simp [wSeq, wRet, wRetN, wSet, wDrop, wIf, wNext, wBrk, wCnt, wOr, wAnd, wOrT, wAndT, wNot, wNotT, wTru, wIfE, wOpX, wUnX, wVar, wC, eget, eset, wCons, wNil, wTup, wLst, wB, one, wCall, oS, wPar, wPar3, wAsg, wLM, oA, refD, dgN, dgCons, dgNil, dgTup, binO, addO, subO, mulO, fdivO, modO, powO, cmpO, relO, isO, eqO, neO, oII, truD, Br, negO, isNon, oD, oL, sFalse, eFalse, wStar, notK, wBody, r_Stairs___init__, n_Stairs___init__, startD, h1, h2, wSlot]
  refine ⟨ps, rfl, fun e => (by rw [e] at k3; cases k3), by omega, k1, fun p hp => by rw [k3] at hp; cases hp; exact k4, ?_⟩
  simp
  refine ⟨_, ps, a, c, p0, rfl, rfl, k1, k2, hz, by omega, k3, k4, fun ts t1 t2 t3 => ?_⟩
  simp [hx, show slotIx "Stairs" "own_pieces" = some 0 from by decide, e]
  exact exitP_refl (h ts t1 t2 t3)
def spStairs : DSp := fun ds M P ex => ∃ (ps : List Pc) (a c : Nat), ds = [.tup (pcsD ps)] ∧ PsOk a c 5000000 ps ∧ 4 * (a + c) + 40 < 1000000 ∧
  ∀ ts, Canon (vAt ps) ts → Bd (a + 2) (a + c + 6) ts → ts.length ≤ ps.length → P (stD ts) M
theorem mk_stairs (ds M P ex) (h : spStairs ds M P ex) : mkSp "Stairs" 0 spInit ds M P ex := by
  obtain ⟨ps, a, c, rfl, k, hz, h⟩ := h
  intro x hx
  refine ⟨x, ps, a, c, rfl, Mem.put_same, k, hz, fun ts t1 t2 t3 => ⟨rfl, _, _, .ins (ds := [.tup (pcsD ts)]) Mem.put_same (by simp) .refl, ?_⟩⟩
  rw [Mem.put_put, Mem.del_put hx]
  exact h ts t1 t2 t3
/-- of such as are told in one way -/
theorem stairs_again {f : Int → Int} {ts us : List Pc} (h : Canon f ts) (h' : Canon (vAt ts) us) : us = ts :=
  (h.uniq (h'.congr fun d hd => (h.at d hd).symm)).symm
def spSub : DSp := fun ds M P ex => ∃ (ps qs : List Pc) (a c n m : Nat), ds = [stD ps, stD qs] ∧ PsOk a c n ps ∧ PsOk a c m qs ∧ n + m + 1 < scanBound ∧ 16 * (a + c) + 200 < 1000000 ∧
  ∀ ts, Canon (sumV (-1) ps qs) ts → Bd (a + 2) (2 * a + c + 10) ts → ts.length ≤ n + m → P (stD ts) M
theorem c_sub (S : Sps) (h0 : (S (.c "Stairs")).isSome) (h1 : S (.f "summed") = some spSummed) (h2 : S (.p "Stairs" "pieces") = some spPieces) (h3 : S (.f "Stairs") = some spStairs) (ds M P ex) (h : spSub ds M P ex) : wBody n_Stairs___sub__ (r_Stairs___sub__ S) ds M P ex := by
  obtain ⟨ps, qs, a, c, n, m, rfl, ⟨k1, k2, ⟨p0, k3, k4⟩, k5⟩, ⟨l1, l2, ⟨q0, l3, l4⟩, l5⟩, hn, hz, h⟩ := h
  obtain ⟨sp, e⟩ := Option.isSome_iff_exists.mp h0
  have sl := sizeLine_eq
  have sb : scanBound = 4096 := rfl
  simp [wSeq, wRet, wRetN, wSet, wDrop, wIf, wNext, wBrk, wCnt, wOr, wAnd, wOrT, wAndT, wNot, wNotT, wTru, wIfE, wOpX, wUnX, wVar, wC, eget, eset, wCons, wNil, wTup, wLst, wB, one, wCall, oS, wPar, wPar3, wAsg, wLM, oA, refD, dgN, dgCons, dgNil, dgTup, binO, addO, subO, mulO, fdivO, modO, powO, cmpO, relO, isO, eqO, neO, oII, truD, Br, negO, isNon, oD, oL, sFalse, eFalse, wStar, notK, wBody, r_Stairs___sub__, n_Stairs___sub__, startD, h1, h2, h3, wAttr, attrO, stD, dIsi, isiO, e, show slotIx "Stairs" "own_pieces" = some 0 from by decide, show slotIx "Stairs" "pieces" = none from by decide]
  refine ⟨_, rfl, ?_⟩
  refine ⟨_, _, ps, qs, a, c, -1, p0, q0, rfl, rfl, rfl, k1, l1, k2, l2, by unfold Bt; decide, by omega, k3, k4, l3, l4, by omega, fun ts t1 t2 t3 => ?_⟩
  refine ⟨ts, a + 2, 2 * a + c + 10, rfl, t1.ps t2 (by omega), by omega, fun us u1 _ _ => ?_⟩
  cases stairs_again t1 u1
  exact exitP_refl (h ts t1 t2 (by omega))
theorem IsFirst.congr {f g : Int → Int} {r : Option Int} (h : IsFirst f r) (e : ∀ d, 0 ≤ d → g d = f d) : IsFirst g r := by
  cases r with
  | none => exact fun d hd => by rw [e d hd]; exact h d hd
  | some x => exact ⟨h.1, by rw [e x h.1]; exact h.2.1, fun d hd hx => by rw [e d hd]; exact h.2.2 d hd hx⟩
def spLess : DSp := fun ds M P ex => ∃ (ps qs : List Pc) (a c n m : Nat), ds = [stD ps, stD qs] ∧ PsOk a c n ps ∧ PsOk a c m qs ∧ n + m + 1 < scanBound ∧ 16 * (a + c) + 200 < 1000000 ∧ 2 * a + c + 10 < 9000 ∧
  ∀ r, IsFirst (sumV (-1) qs ps) r → P (eoD r) M
theorem c_less (S : Sps) (h0 : (S (.c "Stairs")).isSome) (h1 : S (.m "Stairs" "__sub__") = some spSub) (h2 : S (.p "Stairs" "pieces") = some spPieces) (h3 : S (.f "first_above") = some spFirstAbove) (ds M P ex) (h : spLess ds M P ex) : wBody n_Stairs_first_less (r_Stairs_first_less S) ds M P ex := by
  obtain ⟨ps, qs, a, c, n, m, rfl, k, l, hn, hz, hc, h⟩ := h
  obtain ⟨sp, e⟩ := Option.isSome_iff_exists.mp h0
  have sl := sizeLine_eq
  have sb : scanBound = 4096 := rfl
  simp [wSeq, wRet, wRetN, wSet, wDrop, wIf, wNext, wBrk, wCnt, wOr, wAnd, wOrT, wAndT, wNot, wNotT, wTru, wIfE, wOpX, wUnX, wVar, wC, eget, eset, wCons, wNil, wTup, wLst, wB, one, wCall, oS, wPar, wPar3, wAsg, wLM, oA, refD, dgN, dgCons, dgNil, dgTup, binO, addO, subO, mulO, fdivO, modO, powO, cmpO, relO, isO, eqO, neO, oII, truD, Br, negO, isNon, oD, oL, sFalse, eFalse, wStar, notK, wBody, r_Stairs_first_less, n_Stairs_first_less, startD, h1, h2, h3, wAttr, stD, dIsi, isiO, e, insO]
  refine ⟨qs, ps, a, c, m, n, rfl, l, k, by omega, hz, fun ts t1 t2 t3 => ?_⟩
  simp [attrO, stD, show slotIx "Stairs" "pieces" = none from by decide, h2, oS]
  refine ⟨_, rfl, ?_⟩
  obtain ⟨p1, p2, ⟨p0, p3, p4⟩, p5⟩ := t1.ps t2 t3
  exact ⟨ts, _, _, p0, rfl, p1, p2, by omega, by omega, p3, p4, fun r hr => exitP_refl (h r (hr.congr fun d hd => (t1.at d hd).symm))⟩
def spNowhere : DSp := fun ds M P ex => ∃ (ps qs : List Pc) (a c n m : Nat), ds = [stD ps, stD qs] ∧ PsOk a c n ps ∧ PsOk a c m qs ∧ n + m + 1 < scanBound ∧ 16 * (a + c) + 200 < 1000000 ∧ 2 * a + c + 10 < 9000 ∧
  ∀ r, IsFirst (sumV (-1) ps qs) r → P (.bl r.isNone) M
theorem c_nowhere (S : Sps) (h0 : (S (.c "Stairs")).isSome) (h1 : S (.m "Stairs" "__sub__") = some spSub) (h2 : S (.p "Stairs" "pieces") = some spPieces) (h3 : S (.f "first_above") = some spFirstAbove) (ds M P ex) (h : spNowhere ds M P ex) : wBody n_Stairs_nowhere_above (r_Stairs_nowhere_above S) ds M P ex := by
  obtain ⟨ps, qs, a, c, n, m, rfl, k, l, hn, hz, hc, h⟩ := h
  obtain ⟨sp, e⟩ := Option.isSome_iff_exists.mp h0
  have sl := sizeLine_eq
  have sb : scanBound = 4096 := rfl
  simp [wSeq, wRet, wRetN, wSet, wDrop, wIf, wNext, wBrk, wCnt, wOr, wAnd, wOrT, wAndT, wNot, wNotT, wTru, wIfE, wOpX, wUnX, wVar, wC, eget, eset, wCons, wNil, wTup, wLst, wB, one, wCall, oS, wPar, wPar3, wAsg, wLM, oA, refD, dgN, dgCons, dgNil, dgTup, binO, addO, subO, mulO, fdivO, modO, powO, cmpO, relO, isO, eqO, neO, oII, truD, Br, negO, isNon, oD, oL, sFalse, eFalse, wStar, notK, wBody, r_Stairs_nowhere_above, n_Stairs_nowhere_above, startD, h1, h2, h3, wAttr, stD, dIsi, isiO, e, insO]
  refine ⟨ps, qs, a, c, n, m, rfl, k, l, by omega, hz, fun ts t1 t2 t3 => ?_⟩
  simp [attrO, stD, show slotIx "Stairs" "pieces" = none from by decide, h2, oS]
  refine ⟨_, rfl, ?_⟩
  obtain ⟨p1, p2, ⟨p0, p3, p4⟩, p5⟩ := t1.ps t2 t3
  refine ⟨ts, _, _, p0, rfl, p1, p2, by omega, by omega, p3, p4, fun r hr => ?_⟩
  have z := exitP_refl (h r (hr.congr fun d hd => (t1.at d hd).symm))
  cases r with
  | none => simp [eoD, wSeq, wRet, wRetN, wSet, wDrop, wIf, wNext, wBrk, wCnt, wOr, wAnd, wOrT, wAndT, wNot, wNotT, wTru, wIfE, wOpX, wUnX, wVar, wC, eget, eset, wCons, wNil, wTup, wLst, wB, one, wCall, oS, wPar, wPar3, wAsg, wLM, oA, refD, dgN, dgCons, dgNil, dgTup, binO, addO, subO, mulO, fdivO, modO, powO, cmpO, relO, isO, eqO, neO, oII, truD, Br, negO, isNon, oD, oL, sFalse, eFalse, wStar, notK]; exact z
  | some x => simp [eoD, wSeq, wRet, wRetN, wSet, wDrop, wIf, wNext, wBrk, wCnt, wOr, wAnd, wOrT, wAndT, wNot, wNotT, wTru, wIfE, wOpX, wUnX, wVar, wC, eget, eset, wCons, wNil, wTup, wLst, wB, one, wCall, oS, wPar, wPar3, wAsg, wLM, oA, refD, dgN, dgCons, dgNil, dgTup, binO, addO, subO, mulO, fdivO, modO, powO, cmpO, relO, isO, eqO, neO, oII, truD, Br, negO, isNon, oD, oL, sFalse, eFalse, wStar, notK]; exact z
end Fs
/-! readings of the laws own defs, printed. -/
namespace Fs
open PySem PySem.Spec PyProof.Rows L2
def n__law_draws : List Str := ["script", "place", "cell", "own", "small"]
def r__law_draws (S : Sps) : WS := (wSeq (wSet 2 (wIfE (wTru (wOpX (cmpO S .Lt) (wVar 1) (wB (one dLen) (wCons (wVar 0) wNil)))) (wOpX (ixO S) (wVar 0) (wVar 1)) (wOpX (binO S .Add) (wOpX (binO S .Mult) (wC (.int 227)) (wVar 1)) (wC (.int 83)))))
 (wSeq (wSet 3 (wOpX (binO S .Mult) (wOpX (binO S .Mod) (wB (one dInt) (wCons (wB (one dAbs) (wCons (wVar 2) wNil)) wNil)) (wOpX (binO S .Pow) (wOpX (binO S .Pow) (wC (.int 10)) (wC (.int 60))) (wC (.int 5)))) (wB (one dInt) (wCons (wOpX (cmpO S .GtE) (wB (one dAbs) (wCons (wVar 2) wNil)) (wOpX (binO S .Pow) (wC (.int 10)) (wC (.int 18)))) wNil))))
 (wSeq (wSet 4 (wOpX (binO S .Mod) (wB (one dInt) (wCons (wVar 2) wNil)) (wC (.int 2305843009213693951))))
 (wRet (wLst (wCons (wVar 3) (wCons (wOpX (binO S .Mod) (wB (one dInt) (wCons (wOpX (binO S .Add) (wOpX (binO S .Add) (wOpX (binO S .Mult) (wVar 4) (wC (.int 71399))) (wOpX (binO S .Mult) (wOpX (binO S .Mult) (wC (.int 7411)) (wVar 1)) (wVar 1))) (wC (.int 157))) wNil)) (wC (.int 2305843009213693921))) (wCons (wC (.int 0)) wNil))))))))
def n__law_take : List Str := ["pot", "upto", "digit", "prime", "mixed"]
def r__law_take (S : Sps) : WS := (wSeq (wIf (wTru (wOpX (cmpO S .Gt) (wOpX (ixO S) (wVar 0) (wC (.int 0))) (wC (.int 0)))) (wSeq (wSet 2 (wOpX (binO S .Mod) (wB (one dInt) (wCons (wOpX (ixO S) (wVar 0) (wC (.int 0))) wNil)) (wVar 1)))
 (wSeq (wAsg (wOpX (binO S .FloorDiv) (wOpX (ixO S) (wVar 0) (wC (.int 0))) (wVar 1)) (dgSub (wVar 0) (wC (.int 0))))
 (wRet (wVar 2)))) wNext)
 (wSeq (wAsg (wOpX (binO S .Add) (wOpX (ixO S) (wVar 0) (wC (.int 2))) (wC (.int 1))) (dgSub (wVar 0) (wC (.int 2))))
 (wSeq (wSet 3 (wOpX (ixO S) (wLst (wCons (wC (.int 2147483647)) (wCons (wC (.int 2147483629)) (wCons (wC (.int 2147483587)) (wCons (wC (.int 2147483579)) (wCons (wC (.int 2147483563)) wNil)))))) (wOpX (binO S .Mod) (wB (one dInt) (wCons (wOpX (ixO S) (wVar 0) (wC (.int 2))) wNil)) (wC (.int 5)))))
 (wSeq (wSet 4 (wOpX (binO S .Mod) (wB (one dInt) (wCons (wOpX (binO S .Pow) (wB (one dInt) (wCons (wOpX (binO S .Add) (wOpX (binO S .Add) (wOpX (ixO S) (wVar 0) (wC (.int 1))) (wOpX (binO S .Mult) (wOpX (binO S .Mult) (wC (.int 99907)) (wOpX (ixO S) (wVar 0) (wC (.int 2)))) (wOpX (ixO S) (wVar 0) (wC (.int 2))))) (wC (.int 73))) wNil)) (wC (.int 3))) wNil)) (wVar 3)))
 (wSeq (wSet 4 (wOpX (binO S .Mod) (wB (one dInt) (wCons (wOpX (binO S .Mult) (wVar 4) (wOpX (binO S .Add) (wOpX (binO S .Mod) (wB (one dInt) (wCons (wVar 4) wNil)) (wC (.int 10433))) (wOpX (binO S .Mult) (wC (.int 167)) (wOpX (ixO S) (wVar 0) (wC (.int 2)))))) wNil)) (wC (.int 2305843009213693907))))
 (wRet (wOpX (binO S .Mod) (wB (one dInt) (wCons (wOpX (binO S .FloorDiv) (wVar 4) (wC (.int 151))) wNil)) (wVar 1))))))))
def n__law_of : List Str := ["pot", "some"]
def r__law_of (S : Sps) : WS := (wRet (wOpX (ixO S) (wVar 1) (wCall S "_law_take" (wCons (wVar 0) (wCons (wB (one dLen) (wCons (wVar 1) wNil)) wNil)))))
def n__law_cells : List Str := ["script", "limit"]
def r__law_cells (S : Sps) : WS := (wRet (wLRg1 (wB (dMax) (wCons (wC (.int 1)) (wCons (wB (dMin) (wCons (wVar 1) (wCons (wB (one dLen) (wCons (wVar 0) wNil)) wNil))) wNil)))))
def n__law_at : List Str := ["pieces", "day", "begin", "value", "rate", "piece"]
def r__law_at (S : Sps) : WS := (wSeq (wAsg (wOpX (ixO S) (wLc (wIt (wVar 0)) (dgN 5) (wTru (wOpX (cmpO S .LtE) (wOpX (ixO S) (wVar 5) (wC (.int 0))) (wVar 1))) (wVar 5) [5]) (wUnX (negO S) (wC (.int 1)))) (dgTup 3 (dgCons (dgN 2) (dgCons (dgN 3) (dgCons (dgN 4) dgNil)))))
 (wRet (wOpX (binO S .Add) (wVar 3) (wOpX (binO S .Mult) (wVar 4) (wOpX (binO S .Sub) (wVar 1) (wVar 2))))))
def n__law_pieces : List Str := ["pot", "amount", "far", "steep", "found", "day", "turn", "value"]
def r__law_pieces (S : Sps) : WS := (wSeq (wPar 4 5 (wCons (wLst wNil) (wCons (wC (.int 0)) wNil)))
 (wSeq (wFor (wRng1 (wCons (wOpX (binO S .Add) (wC (.int 1)) (wCall S "_law_take" (wCons (wVar 0) (wCons (wVar 1) wNil)))) wNil)) (dgN 6) (wSeq (wSet 7 (wOpX (binO S .Sub) (wCall S "_law_take" (wCons (wVar 0) (wCons (wOpX (binO S .Add) (wOpX (binO S .Mult) (wC (.int 2)) (wVar 2)) (wC (.int 1))) wNil))) (wVar 2)))
 (wSeq (wIf (wAndT (wTru (wOpX (cmpO S .NotEq) (wVar 4) (wLst wNil))) (wTru (wOpX (cmpO S .Gt) (wCall S "_law_take" (wCons (wVar 0) (wCons (wC (.int 3)) wNil))) (wC (.int 0))))) (wSet 7 (wOpX (binO S .Add) (wCall S "_law_at" (wCons (wVar 4) (wCons (wVar 5) wNil))) (wCall S "_law_of" (wCons (wVar 0) (wCons (wLst (wCons (wC (.int 0)) (wCons (wC (.int 0)) (wCons (wC (.int 1)) (wCons (wUnX (negO S) (wC (.int 1))) (wCons (wUnX (negO S) (wVar 7)) wNil)))))) wNil))))) wNext)
 (wSeq (wDrop (wLM lmAppend (wVar 4) (wCons (wTup (wCons (wVar 5) (wCons (wVar 7) (wCons (wCall S "_law_of" (wCons (wVar 0) (wCons (wLst (wCons (wC (.int 0)) (wCons (wC (.int 0)) (wCons (wC (.int 1)) (wCons (wUnX (negO S) (wC (.int 1))) (wCons (wOpX (binO S .Sub) (wCall S "_law_take" (wCons (wVar 0) (wCons (wOpX (binO S .Add) (wOpX (binO S .Mult) (wC (.int 2)) (wVar 3)) (wC (.int 1))) wNil))) (wVar 3)) wNil)))))) wNil))) wNil)))) wNil)))
 (wSet 5 (wOpX (binO S .Add) (wOpX (binO S .Add) (wVar 5) (wC (.int 1))) (wCall S "_law_take" (wCons (wVar 0) (wCons (wVar 2) wNil)))))))))
 (wRet (wVar 4))))
def n__law_stairs : List Str := ["pieces"]
def r__law_stairs (S : Sps) : WS := (wRet (wCall S "Stairs" (wCons (wB (one dTuple) (wCons (wVar 0) wNil)) wNil)))
def n__law_amount : List Str := ["pot"]
def r__law_amount (S : Sps) : WS := (wRet (wCall S "_law_of" (wCons (wVar 0) (wCons (wLst (wCons (wC (.int 6)) (wCons (wC (.int 6)) (wCons (wC (.int 6)) (wCons (wC (.int 58)) wNil))))) wNil))))
def n__law_span : List Str := ["lists", "last", "limit", "pieces"]
def r__law_span (S : Sps) : WS := (wSeq (wSet 1 (wB (dMax) (wCons (wLc (wIt (wVar 0)) (dgN 3) wYes (wOpX (ixO S) (wOpX (ixO S) (wVar 3) (wUnX (negO S) (wC (.int 1)))) (wC (.int 0))) [3]) wNil)))
 (wSeq (wSet 2 (wOpX (binO S .Add) (wOpX (binO S .Add) (wVar 1) (wB (one dInt) (wCons (wB (one dSum) (wCons (wLc (wIt (wVar 0)) (dgN 3) wYes (wB (one dAbs) (wCons (wCall S "_law_at" (wCons (wVar 3) (wCons (wVar 1) wNil))) wNil)) [3]) wNil)) wNil))) (wC (.int 3))))
 (wRet (wOpX (binO S .Add) (wLRg1 (wVar 2)) (wLst (wCons (wOpX (binO S .Pow) (wC (.int 10)) (wC (.int 12))) (wCons (wOpX (binO S .Add) (wOpX (binO S .Pow) (wC (.int 10)) (wC (.int 12))) (wC (.int 7))) wNil)))))))
end Fs
set_option maxHeartbeats 4000000
/-! Fd1: what the laws draw. -/
namespace Fs
open PySem PySem.Spec PyProof.Rows L2

/-- a pot: what is left of the cell, a mixed number, how many were taken -/
def Pot (a : Addr) (z : Nat) (M : Mem) : Prop := ∃ x y k : Int, M a = some (.lst [.int x, .int y, .int k]) ∧ 0 ≤ x ∧ 0 ≤ y ∧ Bt 61 y ∧ 0 ≤ k ∧ k ≤ z
def Only (a : Addr) (M M' : Mem) : Prop := ∀ b, b ≠ a → M' b = M b
theorem Only.refl {a : Addr} {M : Mem} : Only a M M := fun _ _ => rfl
theorem Only.trans {a : Addr} {M M' M'' : Mem} (h : Only a M M') (h' : Only a M' M'') : Only a M M'' := fun b hb => (h' b hb).trans (h b hb)
theorem Only.put {a : Addr} {M : Mem} {o : MO} : Only a M (M.put a o) := fun b hb => Mem.put_ne hb
theorem seqD_ref {M : Mem} {a : Addr} {ds : List Dt} (h : M a = some (.lst ds)) : seqD M (.ref a) = some ds := by
  show (match M a with
    | some (.lst ds) => some ds
    | _ => none) = some ds
  rw [h]
theorem Pot.mono {a : Addr} {z z' : Nat} {M : Mem} (h : Pot a z M) (e : z ≤ z') : Pot a z' M := by
  obtain ⟨x, y, k, h1, h2, h3, h4, h5, h6⟩ := h
  exact ⟨x, y, k, h1, h2, h3, h4, h5, by omega⟩
theorem Bt.of {n : Nat} {i : Int} (h0 : 0 ≤ i) (h : i < (2 ^ n : Nat)) : Bt n i := by unfold Bt; omega
theorem Bt.fmod {n : Nat} {i j : Int} (h : Bt n j) (hj : 0 < j) : Bt n (i.fmod j) := by
  have h1 := Int.fmod_nonneg_of_pos i hj
  have h2 := Int.fmod_lt_of_pos i hj
  unfold Bt at *
  omega
theorem powOk_of {n : Nat} {i : Int} {j : Nat} (h : Bt n i) (e : (n + 1) * j ≤ 2 ^ 27) : PowOk i j := by
  have l := h.log
  have b : Builtin.Int.intBits i ≤ i.natAbs.log2 + 1 := by
    unfold Builtin.Int.intBits
    split <;> omega
  refine ⟨by omega, ?_⟩
  have : Builtin.Int.intBits i * j ≤ (n + 1) * j := Nat.mul_le_mul_right _ (by omega)
  have h2 : Builtin.Int.intBits i * j ≤ 2 ^ 27 := Nat.le_trans this e
  exact_mod_cast h2
theorem fdiv_nonneg' {i j : Int} (h : 0 ≤ i) (hj : 0 < j) : 0 ≤ i.fdiv j := Int.fdiv_nonneg h (by omega)
def spTake : DSp := fun ds M P ex => ∃ (a : Addr) (z : Nat) (u : Int), ds = [.ref a, .int u] ∧ Pot a z M ∧ z < 2 ^ 50 ∧ 1 ≤ u ∧ Bt 200 u ∧
  ∀ r M', 0 ≤ r → r < u → Pot a (z + 1) M' → Only a M M' → P (.int r) M'
theorem c_take (S : Sps) (ds M P ex) (h : spTake ds M P ex) : wBody n__law_take (r__law_take S) ds M P ex := by
  obtain ⟨a, z, u, rfl, ⟨x, y, k, h1, h2, h3, h4, h5, h6⟩, hz, hu, hb, h⟩ := h
  have s0 : seqD M (.ref a) = some [.int x, .int y, .int k] := seqD_ref h1
  have f1 : ∀ i : Int, 0 ≤ i.fmod u := fun i => Int.fmod_nonneg_of_pos i (by omega)
  have f2 : ∀ i : Int, i.fmod u < u := fun i => Int.fmod_lt_of_pos i (by omega)
  have dv : DivOk u := ⟨by omega, by have := hb.log; omega⟩
  have hu0 : ¬ u = 0 := by omega
  simp [wSeq, wRet, wRetN, wSet, wDrop, wIf, wNext, wBrk, wCnt, wOr, wAnd, wOrT, wAndT, wNot, wNotT, wTru, wIfE, wOpX, wUnX, wVar, wC, eget, eset, wCons, wNil, wTup, wLst, wB, one, wCall, oS, wPar, wPar3, wAsg, wLM, oA, refD, dgN, dgCons, dgNil, dgTup, binO, addO, subO, mulO, fdivO, modO, powO, cmpO, relO, isO, eqO, neO, oII, truD, Br, negO, isNon, oD, oL, sFalse, eFalse, wStar, notK, wBody, r__law_take, n__law_take, startD, ixO_seq S s0, show L2.atI [Dt.int x, .int y, .int k] 0 = some (.int x) from rfl, show L2.atI [Dt.int x, .int y, .int k] 2 = some (.int k) from rfl, show L2.ixN 3 0 = some 0 from rfl, show L2.ixN 3 2 = some 2 from rfl, dInt, dgSub, lstM, h1, dv, hu0]
  refine ⟨fun hx => exitP_refl (h _ _ (f1 _) (f2 _) ⟨_, y, k, Mem.put_same, fdiv_nonneg' h2 (by omega), h3, h4, h5, by omega⟩ Only.put), fun hx => ?_⟩
  have s1 : seqD (M.put a (.lst [.int x, .int y, .int (k + 1)])) (.ref a) = some [.int x, .int y, .int (k + 1)] := seqD_ref Mem.put_same
  have k0 : 0 ≤ k + 1 := by omega
  have kB : Bt 51 (k + 1) := Bt.of k0 (by omega)
  have kz : k + 1 ≤ ((z + 1 : Nat) : Int) := by omega
  generalize k + 1 = k' at *
  have e5 := Int.fmod_nonneg_of_pos k' (show (0 : Int) < 5 by decide)
  have e6 := Int.fmod_lt_of_pos k' (show (0 : Int) < 5 by decide)
  obtain ⟨p, ep, p0, pB⟩ : ∃ p : Int, L2.atI [Dt.int 2147483647, .int 2147483629, .int 2147483587, .int 2147483579, .int 2147483563] (k'.fmod 5) = some (.int p) ∧ 0 < p ∧ Bt 31 p := by
    have : k'.fmod 5 = 0 ∨ k'.fmod 5 = 1 ∨ k'.fmod 5 = 2 ∨ k'.fmod 5 = 3 ∨ k'.fmod 5 = 4 := by omega
    rcases this with e | e | e | e | e <;> rw [e] <;> exact ⟨_, rfl, by decide, by unfold Bt; decide⟩
  have c1 : MulOk 99907 k' := mulOk_of (show Bt 17 99907 from by unfold Bt; decide) kB (by omega)
  have w1 : Bt 68 (99907 * k') := (show Bt 17 99907 from by unfold Bt; decide).mul kB (by omega)
  have c2 : MulOk (99907 * k') k' := mulOk_of w1 kB (by omega)
  have w2 : Bt 119 (99907 * k' * k') := w1.mul kB (by omega)
  have w3 : Bt 121 (y + 99907 * k' * k' + 73) := (h4.add w2 (k := 120) (by omega) (by omega)).add (show Bt 7 73 from by unfold Bt; decide) (by omega) (by omega)
  have c3 : PowOk (y + 99907 * k' * k' + 73) 3 := powOk_of (j := 3) w3 (by decide)
  have w4 : Bt 31 (((y + 99907 * k' * k' + 73) ^ 3).fmod p) := pB.fmod p0
  have c4 : MulOk 167 k' := mulOk_of (show Bt 8 167 from by unfold Bt; decide) kB (by omega)
  have c5 : MulOk (((y + 99907 * k' * k' + 73) ^ 3).fmod p) ((((y + 99907 * k' * k' + 73) ^ 3).fmod p).fmod 10433 + 167 * k') :=
    mulOk_of w4 (((show Bt 14 10433 from by unfold Bt; decide).fmod (by decide)).add ((show Bt 8 167 from by unfold Bt; decide).mul kB (Nat.le_refl _)) (k := 60) (by omega) (by omega)) (by omega)
  have c6 : DivOk 151 := by unfold DivOk; decide
  have p1 : ¬ p = 0 := by omega
  have sl := sizeLine_eq
  refine ⟨by omega, .inl ?_⟩
  simp [ixO_seq S s1, show L2.atI [Dt.int x, .int y, .int k'] 2 = some (.int k') from rfl, show L2.atI [Dt.int x, .int y, .int k'] 1 = some (.int y) from rfl, oD, show ∀ P ex, ixO S (.lst [Dt.int 2147483647, .int 2147483629, .int 2147483587, .int 2147483579, .int 2147483563]) (.int (k'.fmod 5)) (M.put a (.lst [.int x, .int y, .int k'])) P ex = P (.int p) (M.put a (.lst [.int x, .int y, .int k'])) from fun P ex => by rw [ixO_seq S rfl, ep]; rfl, c1, c2, c3, c4, c5, c6, p1, hu0]
  refine exitP_refl (h _ _ (f1 _) (f2 _) ⟨x, y, k', Mem.put_same, h2, h3, h4, k0, by omega⟩ Only.put)
end Fs
set_option maxHeartbeats 4000000
/-! Fd2: what the laws draw: of some, cells, the number on a day. -/
namespace Fs
open PySem PySem.Spec PyProof.Rows L2

def spOf : DSp := fun ds M P ex => ∃ (a : Addr) (z : Nat) (L : Dt) (es : List Dt), ds = [.ref a, L] ∧ seqF L = some es ∧ es ≠ [] ∧ es.length ≤ sizeLine ∧ Pot a z M ∧ z < 2 ^ 50 ∧
  ∀ e M', e ∈ es → Pot a (z + 1) M' → Only a M M' → P e M'
theorem c_of (S : Sps) (h1 : S (.f "_law_take") = some spTake) (ds M P ex) (h : spOf ds M P ex) : wBody n__law_of (r__law_of S) ds M P ex := by
  obtain ⟨a, z, L, es, rfl, hL, hn, hlen, hp, hz, h⟩ := h
  have sl := sizeLine_eq
  have h0 : 0 < es.length := List.length_pos_iff.mpr hn
  simp [wSeq, wRet, wRetN, wSet, wDrop, wIf, wNext, wBrk, wCnt, wOr, wAnd, wOrT, wAndT, wNot, wNotT, wTru, wIfE, wOpX, wUnX, wVar, wC, eget, eset, wCons, wNil, wTup, wLst, wB, one, wCall, oS, wPar, wPar3, wAsg, wLM, oA, refD, dgN, dgCons, dgNil, dgTup, binO, addO, subO, mulO, fdivO, modO, powO, cmpO, relO, isO, eqO, neO, oII, truD, Br, negO, isNon, oD, oL, sFalse, eFalse, wStar, notK, wBody, r__law_of, n__law_of, startD, h1, dLen_seq (seqF_seqD hL)]
  refine ⟨a, z, (es.length : Int), rfl, hp, hz, ?_, ?_, fun r M' r0 r1 p' o' => ?_⟩
  · exact Int.ofNat_le.mpr h0
  · exact Bt.mono (n := 25) (Bt.ofLt (by omega) (by omega)) (by omega)
  · obtain ⟨i, rfl⟩ := Int.eq_ofNat_of_zero_le r0
    rw [ixO_seq S (seqF_seqD hL), atI_nat _ _ (by omega), List.getElem?_eq_getElem (by omega)]
    exact exitP_refl (h _ _ (List.getElem_mem _) p' o')

def cellsN (lim len : Int) : Int := maxI 1 (minI lim len)
def spCells : DSp := fun ds M P ex => ∃ (x : Dt) (es : List Dt) (lim : Int), ds = [x, .int lim] ∧ seqD M x = some es ∧ lim < 1000000 ∧ P (.lst (rgD 0 (cellsN lim es.length))) M
theorem c_cells (S : Sps) (ds M P ex) (h : spCells ds M P ex) : wBody n__law_cells (r__law_cells S) ds M P ex := by
  obtain ⟨x, es, lim, rfl, hx, hl, h⟩ := h
  have sl := sizeLine_eq
  have e : cellsN lim es.length = maxI 1 (minI lim es.length) := rfl
  have b : 0 ≤ maxI 1 (minI lim es.length) ∧ maxI 1 (minI lim es.length) ≤ 1000000 := by unfold maxI minI; split <;> split <;> omega
  simp [wSeq, wRet, wRetN, wSet, wDrop, wIf, wNext, wBrk, wCnt, wOr, wAnd, wOrT, wAndT, wNot, wNotT, wTru, wIfE, wOpX, wUnX, wVar, wC, eget, eset, wCons, wNil, wTup, wLst, wB, one, wCall, oS, wPar, wPar3, wAsg, wLM, oA, refD, dgN, dgCons, dgNil, dgTup, binO, addO, subO, mulO, fdivO, modO, powO, cmpO, relO, isO, eqO, neO, oII, truD, Br, negO, isNon, oD, oL, sFalse, eFalse, wStar, notK, wBody, r__law_cells, n__law_cells, startD, dMax, dMin, wLRg1, dLen_seq hx]
  refine ⟨RgOk.of_le (by omega) (by omega) (by omega) (by omega), .inl (exitP_refl h)⟩

/-! ### loops over what may change -/
theorem wIt_any {i : Nat} {ex : EX} {ρ : DEnv} {M : Mem} {P : List Dt → Gd → Mem → Prop} {x : Dt} {ds : List Dt} (h : eget ρ i = some x) (f : seqD M x = some ds) (k : ∀ g, gd g M True → P ds g M) : wIt (wVar i) ex ρ M P := by
  unfold wIt wVar
  rw [h]
  cases x with
  | tup es => cases f; exact k none trivial
  | lst es => cases f; exact k none trivial
  | scr es => cases f; exact k none trivial
  | ref a =>
    have f' : (match M a with
      | some (.lst ds) => some ds
      | _ => none) = some ds := f
    dsimp only
    split at f'
    · rename_i es q
      cases f'
      try rw [q]
      exact k _ ⟨q, trivial⟩
    · cases f'
  | _ => cases f
theorem lc_filter {b : DG} {t : WT} {e : WE} {ρ : DEnv} {M : Mem} {g : Gd} {P : List Dt → Mem → Prop} (p : Dt → Bool) (f : Dt → Dt) (hg : gd g M True) : ∀ (ds acc : List Dt),
    (∀ d ∈ ds, ∀ (Q1 : DK) (Q2 : Mem → Prop), (p d = true → Q1 (f d) M) → (p d = false → Q2 M) → b d ρ M fun ρ1 M1 => t noX ρ1 M1 fun k M2 => Br k (e noX ρ1 M2 Q1) (Q2 M2)) → acc.length + ds.length ≤ sizeLine → P (acc ++ (ds.filter p).map f) M → lcL b t e P ρ g ds acc M
  | [], acc, _, _, h => gd_true hg (by simpa using h)
  | d :: ds, acc, he, hz, h => by
    refine gd_true hg ?_
    have hl : (d :: ds).length = ds.length + 1 := rfl
    refine he d (List.mem_cons_self ..) _ _ (fun hp => ⟨by omega, ?_⟩) fun hp => ?_
    · exact lc_filter p f hg ds (acc ++ [f d]) (fun x hx => he x (List.mem_cons_of_mem _ hx)) (by simp; omega) (by rw [List.filter_cons_of_pos hp] at h; simpa using h)
    · exact lc_filter p f hg ds acc (fun x hx => he x (List.mem_cons_of_mem _ hx)) (by omega) (by rw [List.filter_cons_of_neg (by simp [hp])] at h; exact h)
theorem filter_take {ps : List Pc} {j : Nat} {p : Pc} {d : Int} (ha : Asc ps) (h : ps[j]? = some p) (h1 : p.1 ≤ d) (h2 : ∀ q, ps[j + 1]? = some q → d < q.1) : ps.filter (fun p => decide (p.1 ≤ d)) = ps.take (j + 1) := by
  have hj := (List.getElem?_eq_some_iff.mp h).1
  conv => lhs; rw [← List.take_append_drop (j + 1) ps]
  rw [List.filter_append, List.filter_eq_self.mpr, List.filter_eq_nil_iff.mpr, List.append_nil]
  · intro q hq
    obtain ⟨i, hi⟩ := List.getElem?_of_mem hq
    rw [List.getElem?_drop] at hi
    have : d < q.1 := by
      by_cases e : i = 0
      · subst e; exact h2 q hi
      · obtain ⟨q1, e1⟩ : ∃ q1, ps[j + 1]? = some q1 := ⟨_, List.getElem?_eq_getElem (by have := (List.getElem?_eq_some_iff.mp hi).1; omega)⟩
        have := h2 q1 e1
        have := ha.get e1 hi (by omega)
        omega
    simp; omega
  · intro q hq
    obtain ⟨i, hi⟩ := List.getElem?_of_mem hq
    have hil := (List.getElem?_eq_some_iff.mp hi).1
    rw [List.length_take] at hil
    rw [List.getElem?_take_of_lt (by omega)] at hi
    have : q.1 ≤ d := by
      by_cases e : i = j
      · subst e; rw [h] at hi; cases hi; exact h1
      · have := ha.get hi h (by omega); omega
    simp [this]
theorem atI_last {α : Type} (xs : List α) (x : α) : L2.atI (xs ++ [x]) (-1) = some x := by
  unfold L2.atI L2.ixN
  simp
  rw [if_pos (by omega)]
  simp
  rw [show (-1 + ((xs.length : Int) + 1)).toNat = xs.length by omega]
  simp
def firstD : Dt → Int
  | .tup (.int x :: _) => x
  | _ => 0
def spAt : DSp := fun ds M P ex => ∃ (x : Dt) (ps : List Pc) (a c : Nat) (day : Int) (p0 : Pc), ds = [x, .int day] ∧ seqD M x = some (pcsD ps) ∧ Asc ps ∧ Bd a c ps ∧ Bt a day ∧ a + c + 10 < 1000000 ∧ ps.length ≤ sizeLine ∧ ps[0]? = some p0 ∧ p0.1 ≤ day ∧ P (.int (vAt ps day)) M
theorem c_at (S : Sps) (ds M P ex) (h : spAt ds M P ex) : wBody n__law_at (r__law_at S) ds M P ex := by
  obtain ⟨x, ps, a, c, day, p0, rfl, hx, ha, hB, hd, hz, hl, e0, h0, h⟩ := h
  obtain ⟨j, p, _, ej, hj1, hj2⟩ := ix_of (d := day) ps.length 0 e0 h0 (by omega)
  simp [wSeq, wRet, wRetN, wSet, wDrop, wIf, wNext, wBrk, wCnt, wOr, wAnd, wOrT, wAndT, wNot, wNotT, wTru, wIfE, wOpX, wUnX, wVar, wC, eget, eset, wCons, wNil, wTup, wLst, wB, one, wCall, oS, wPar, wPar3, wAsg, wLM, oA, refD, dgN, dgCons, dgNil, dgTup, binO, addO, subO, mulO, fdivO, modO, powO, cmpO, relO, isO, eqO, neO, oII, truD, Br, negO, isNon, oD, oL, sFalse, eFalse, wStar, notK, wBody, r__law_at, n__law_at, startD, wLc]
  refine wIt_any rfl hx fun g hg => ?_
  refine lc_filter (fun d => decide (firstD d ≤ day)) id hg _ [] (fun d hd Q1 Q2 q1 q2 => ?_) (by simp [pcsD_len]; omega) (.inl ?_)
  · obtain ⟨q, _, rfl⟩ := List.mem_map.mp hd
    simp [wSeq, wRet, wRetN, wSet, wDrop, wIf, wNext, wBrk, wCnt, wOr, wAnd, wOrT, wAndT, wNot, wNotT, wTru, wIfE, wOpX, wUnX, wVar, wC, eget, eset, wCons, wNil, wTup, wLst, wB, one, wCall, oS, wPar, wPar3, wAsg, wLM, oA, refD, dgN, dgCons, dgNil, dgTup, binO, addO, subO, mulO, fdivO, modO, powO, cmpO, relO, isO, eqO, neO, oII, truD, Br, negO, isNon, oD, oL, sFalse, eFalse, wStar, notK, dwipe, ix_pc0]
    exact ⟨fun z => q1 (decide_eq_true z), fun z => q2 (decide_eq_false (by show ¬ q.1 ≤ day; omega))⟩
  have e1 : (pcsD ps).filter (fun d => decide (firstD d ≤ day)) = pcsD (ps.take j) ++ [pcD p] := by
    have : (pcsD ps).filter (fun d => decide (firstD d ≤ day)) = pcsD (ps.filter fun p => decide (p.1 ≤ day)) := by
      unfold pcsD
      rw [List.filter_map]
      rfl
    rw [this, filter_take ha ej hj1 hj2, take_snoc ej]
    unfold pcsD
    rw [List.map_append]
    rfl
  dsimp only
  rw [List.nil_append, List.map_id, e1, ixO_seq S rfl, atI_last]
  obtain ⟨B1, B2, B3⟩ := hB.get ej
  have k1 : MulOk p.2.2 (day - p.1) := mulOk_of B3 (hd.sub B1 (k := a + 1) (by omega) (by omega)) (by omega)
  simp [oD, pcD, k1]
  have := vAt_pc ha ej hj1 hj2
  rw [this] at h
  exact exitP_refl h
end Fs
set_option maxHeartbeats 4000000
/-! Fd3: what the laws draw: pots, pieces. -/
namespace Fs
open PySem PySem.Spec PyProof.Rows L2

/-! ### == with an empty list -/
def pcPy (p : Pc) : PyData := .tuple [.int p.1, .int p.2.1, .int p.2.2]
theorem toPys_pcs (ps : List Pc) : toPys (pcsD ps) = some (ps.map pcPy) := by
  induction ps with
  | nil => rfl
  | cons p ps ih =>
    show (toPy (pcD p)).bind (fun q => (toPys (pcsD ps)).map fun qs => q :: qs) = _
    rw [ih]
    rfl
theorem shaped_pcs (ps : List Pc) : PyData.canLayAll0 (ps.map pcPy) = true ∧ PyData.depthAll (ps.map pcPy) ≤ 1 := by
  induction ps with
  | nil => exact ⟨rfl, Nat.zero_le _⟩
  | cons p ps ih =>
    simp only [List.map_cons, PyData.canLayAll0, PyData.depthAll]
    rw [ih.1]
    have e : PyData.depth (pcPy p) = 1 := rfl
    have e2 : PyData.canLay0 (pcPy p) = true := rfl
    rw [e, e2]
    exact ⟨rfl, by have := ih.2; omega⟩
theorem toPys_ints (ns : List Int) : toPys (ns.map .int) = some (ns.map .int) := by
  induction ns with
  | nil => rfl
  | cons n ns ih =>
    show (toPy (.int n)).bind (fun q => (toPys (ns.map .int)).map fun qs => q :: qs) = _
    rw [ih]
    rfl
theorem shaped_ints (ns : List Int) : PyData.canLayAll0 (ns.map .int) = true ∧ PyData.depthAll (ns.map .int) ≤ 1 := by
  induction ns with
  | nil => exact ⟨rfl, Nat.zero_le _⟩
  | cons p ps ih =>
    simp only [List.map_cons, PyData.canLayAll0, PyData.depthAll]
    rw [ih.1]
    have e : PyData.depth (.int p) = 0 := rfl
    have e2 : PyData.canLay0 (.int p) = true := rfl
    rw [e, e2]
    exact ⟨rfl, by have := ih.2; omega⟩
theorem eqv_nil (qs : List PyData) : PyData.eqv (.list qs) (.list []) = qs.isEmpty := by
  cases qs with
  | nil => rfl
  | cons q qs => rfl
theorem eqD_nil {M : Mem} {x : Dt} {ds : List Dt} {qs : List PyData} {f : Bool → Prop} (hx : listD M x = some ds) (hs : ∀ ns, x ≠ .scr ns) (hq : toPys ds = some qs) (h1 : PyData.canLayAll0 qs = true) (h2 : PyData.depthAll qs ≤ 60) (h : f ds.isEmpty) : eqD M x (.lst []) f := by
  have e : pyOf M x = some (.list qs) := by
    cases x with
    | lst es => cases hx; simp [pyOf, toPy, hq]
    | scr ns => exact absurd rfl (hs ns)
    | ref a =>
      unfold listD at hx
      dsimp only at hx
      unfold pyOf
      dsimp only
      split at hx
      · rename_i es q; cases hx; (try rw [q]); simp [hq]
      · cases hx
    | _ => cases hx
  have e3 : ds.isEmpty = qs.isEmpty := by
    cases ds with
    | nil => cases hq; rfl
    | cons d ds =>
      unfold toPys at hq
      cases e1 : toPy d with
      | none => rw [e1] at hq; cases hq
      | some p =>
        rw [e1] at hq
        cases e2 : toPys ds with
        | none => rw [e2] at hq; cases hq
        | some ps => rw [e2] at hq; cases hq; rfl
  refine ⟨_, .list [], e, rfl, ?_, rfl, ?_⟩
  · show (PyData.canLay0 (.list qs) && decide (PyData.depth (.list qs) ≤ 64)) = true
    simp only [PyData.canLay0, PyData.depth, h1]
    simp
    omega
  · rw [eqv_nil, ← e3]
    exact h

/-! ### draws -/
theorem absI_nonneg (i : Int) : 0 ≤ absI i := by unfold absI; split <;> omega
def spDraws : DSp := fun ds M P ex => ∃ (x : Dt) (ns : List Int) (i : Nat), ds = [x, .int i] ∧ seqD M x = some (ns.map .int) ∧ i < 1000000 ∧ ∀ a M', M a = none → Pot a 0 M' → Only a M M' → P (.ref a) M'
theorem c_draws (S : Sps) (ds M P ex) (h : spDraws ds M P ex) : wBody n__law_draws (r__law_draws S) ds M P ex := by
  obtain ⟨x, ns, i, rfl, hx, hi, h⟩ := h
  have sl := sizeLine_eq
  have iB : Bt 20 (i : Int) := Bt.ofLt (by omega) (by omega)
  have k0 : MulOk 227 i := mulOk_of (show Bt 8 227 from by unfold Bt; decide) iB (by omega)
  have k1 : MulOk 7411 i := mulOk_of (show Bt 13 7411 from by unfold Bt; decide) iB (by omega)
  have k2 : MulOk (7411 * i) i := mulOk_of ((show Bt 13 7411 from by unfold Bt; decide).mul iB (Nat.le_refl _)) iB (by omega)
  have p1 : PowOk 10 60 := by unfold PowOk; decide
  have p2 : PowOk (10 ^ 60) 5 := by unfold PowOk; decide +kernel
  have p3 : PowOk 10 18 := by unfold PowOk; decide
  simp [wSeq, wRet, wRetN, wSet, wDrop, wIf, wNext, wBrk, wCnt, wOr, wAnd, wOrT, wAndT, wNot, wNotT, wTru, wIfE, wOpX, wUnX, wVar, wC, eget, eset, wCons, wNil, wTup, wLst, wB, one, wCall, oS, wPar, wPar3, wAsg, wLM, oA, refD, dgN, dgCons, dgNil, dgTup, binO, addO, subO, mulO, fdivO, modO, powO, cmpO, relO, isO, eqO, neO, oII, truD, Br, negO, isNon, oD, oL, sFalse, eFalse, wStar, notK, wBody, r__law_draws, n__law_draws, startD, dLen_seq hx, dInt, dAbs, p1, k0, k1, k2]
  refine ⟨fun hlt => ?_, fun hge => ?_⟩
  · obtain ⟨cell, ec⟩ : ∃ c, ns[i]? = some c := ⟨_, List.getElem?_eq_getElem hlt⟩
    rw [ixO_seq S hx, atI_nat _ _ (by simpa using hlt), List.getElem?_map, ec]
    dsimp only [Option.map, oD]
    refine ⟨p2, p3, mulOk_of (n := 1000) (m := 1) (Bt.fmod (by unfold Bt; decide +kernel) (by decide)) (by split <;> (unfold Bt; decide)) (by omega), mulOk_of (n := 62) (m := 20) (Bt.fmod (by unfold Bt; decide) (by decide)) (by unfold Bt; decide) (by omega), by omega, .inr fun a ha => ?_⟩
    exact exitP_refl (h a _ ha ⟨_, _, 0, Mem.put_same, Int.mul_nonneg (Int.fmod_nonneg_of_pos _ (by decide)) (by split <;> decide), Int.fmod_nonneg_of_pos _ (by decide), Bt.fmod (by unfold Bt; decide) (by decide), Int.le_refl _, Int.le_refl _⟩ Only.put)
  · refine ⟨p2, p3, mulOk_of (n := 1000) (m := 1) (Bt.fmod (by unfold Bt; decide +kernel) (by decide)) (by split <;> (unfold Bt; decide)) (by omega), mulOk_of (n := 62) (m := 20) (Bt.fmod (by unfold Bt; decide) (by decide)) (by unfold Bt; decide) (by omega), by omega, .inr fun a ha => ?_⟩
    exact exitP_refl (h a _ ha ⟨_, _, 0, Mem.put_same, Int.mul_nonneg (Int.fmod_nonneg_of_pos _ (by decide)) (by split <;> decide), Int.fmod_nonneg_of_pos _ (by decide), Bt.fmod (by unfold Bt; decide) (by decide), Int.le_refl _, Int.le_refl _⟩ Only.put)

def spAmount : DSp := fun ds M P ex => ∃ (a : Addr) (z : Nat), ds = [.ref a] ∧ Pot a z M ∧ z < 2 ^ 50 ∧ ∀ r M', r = 6 ∨ r = 58 → Pot a (z + 1) M' → Only a M M' → P (.int r) M'
theorem c_amount (S : Sps) (h1 : S (.f "_law_of") = some spOf) (ds M P ex) (h : spAmount ds M P ex) : wBody n__law_amount (r__law_amount S) ds M P ex := by
  obtain ⟨a, z, rfl, hp, hz, h⟩ := h
  have sl := sizeLine_eq
  simp [wSeq, wRet, wRetN, wSet, wDrop, wIf, wNext, wBrk, wCnt, wOr, wAnd, wOrT, wAndT, wNot, wNotT, wTru, wIfE, wOpX, wUnX, wVar, wC, eget, eset, wCons, wNil, wTup, wLst, wB, one, wCall, oS, wPar, wPar3, wAsg, wLM, oA, refD, dgN, dgCons, dgNil, dgTup, binO, addO, subO, mulO, fdivO, modO, powO, cmpO, relO, isO, eqO, neO, oII, truD, Br, negO, isNon, oD, oL, sFalse, eFalse, wStar, notK, wBody, r__law_amount, n__law_amount, startD, h1]
  refine ⟨by omega, .inl ?_⟩
  refine ⟨a, z, _, _, rfl, rfl, by simp, by simp only [List.length_cons, List.length_nil]; omega, hp, hz, fun e M' he p' o' => ?_⟩
  simp at he
  rcases he with rfl | rfl
  · exact exitP_refl (h 6 M' (.inl rfl) p' o')
  · exact exitP_refl (h 58 M' (.inr rfl) p' o')
def spLawStairs : DSp := fun ds M P ex => ∃ (x : Dt) (ps : List Pc) (a c : Nat), ds = [x] ∧ seqD M x = some (pcsD ps) ∧ PsOk a c 5000000 ps ∧ 4 * (a + c) + 40 < 1000000 ∧
  ∀ ts, Canon (vAt ps) ts → Bd (a + 2) (a + c + 6) ts → ts.length ≤ ps.length → P (stD ts) M
theorem dTuple_seq {x : Dt} {M : Mem} {P : DK} {ds : List Dt} (h : seqD M x = some ds) : dTuple x M P = P (.tup ds) M := by
  cases x with
  | tup es => cases h; rfl
  | lst es => cases h; rfl
  | scr es => cases h; rfl
  | ref a =>
    show oL (listD M (.ref a)) (fun ds => P (.tup ds) M) = _
    rw [show listD M (.ref a) = some ds from h]
    rfl
  | _ => cases h
theorem c_law_stairs (S : Sps) (h1 : S (.f "Stairs") = some spStairs) (ds M P ex) (h : spLawStairs ds M P ex) : wBody n__law_stairs (r__law_stairs S) ds M P ex := by
  obtain ⟨x, ps, a, c, rfl, hx, hp, hz, h⟩ := h
  simp [wSeq, wRet, wRetN, wSet, wDrop, wIf, wNext, wBrk, wCnt, wOr, wAnd, wOrT, wAndT, wNot, wNotT, wTru, wIfE, wOpX, wUnX, wVar, wC, eget, eset, wCons, wNil, wTup, wLst, wB, one, wCall, oS, wPar, wPar3, wAsg, wLM, oA, refD, dgN, dgCons, dgNil, dgTup, binO, addO, subO, mulO, fdivO, modO, powO, cmpO, relO, isO, eqO, neO, oII, truD, Br, negO, isNon, oD, oL, sFalse, eFalse, wStar, notK, wBody, r__law_stairs, n__law_stairs, startD, h1, dTuple_seq hx]
  exact ⟨ps, a, c, rfl, hp, hz, fun ts t1 t2 t3 => exitP_refl (h ts t1 t2 t3)⟩
end Fs
set_option maxHeartbeats 4000000
/-! Fd4: drawn pieces. -/
namespace Fs
open PySem PySem.Spec PyProof.Rows L2

/-- drawn pieces: so many, their days so far apart, rates so steep; w: far * (steep + 1) -/
structure Drawn (far s : Int) (n : Nat) (ps : List Pc) : Prop where
  asc : Asc ps
  hd : ∀ p, ps[0]? = some p → p.1 = 0
  len : ps.length = n
  bd : ∀ p ∈ ps, 0 ≤ p.1 ∧ p.1 ≤ n * far ∧ -(far + n * (far * (s + 1))) ≤ p.2.1 ∧ p.2.1 ≤ far + n * (far * (s + 1)) ∧ -s ≤ p.2.2 ∧ p.2.2 ≤ s
theorem asc_snoc {p : Pc} : ∀ {ps : List Pc}, Asc ps → (∀ q, ps[ps.length - 1]? = some q → q.1 < p.1) → Asc (ps ++ [p])
  | [], _, _ => trivial
  | [q], _, h => ⟨h q rfl, trivial⟩
  | q :: r :: t, ha, h => ⟨ha.1, asc_snoc (ps := r :: t) ha.2 fun x hx => h x (by
      simp only [List.length_cons] at hx ⊢
      simpa using hx)⟩
theorem mul_bd {r s x far : Int} (h1 : -s ≤ r) (h2 : r ≤ s) (hs : 0 ≤ s) (h3 : 0 ≤ x) (h4 : x ≤ far) : -(s * far) ≤ r * x ∧ r * x ≤ s * far := by
  have a : r * x ≤ s * x := Int.mul_le_mul_of_nonneg_right h2 h3
  have b : s * x ≤ s * far := Int.mul_le_mul_of_nonneg_left h4 hs
  have c : -s * x ≤ r * x := Int.mul_le_mul_of_nonneg_right h1 h3
  rw [Int.neg_mul] at c
  omega
/-- one more -/
theorem Drawn.snoc {far s : Int} {n : Nat} {ps : List Pc} {d v r : Int} (h : Drawn far s n ps) (hf : 1 ≤ far) (hs : 1 ≤ s) (h0 : n = 0 → d = 0) (h1 : ∀ q, ps[n - 1]? = some q → q.1 < d) (d0 : 0 ≤ d) (hd : d ≤ n * far)
    (v1 : -(far + (n + 1 : Nat) * (far * (s + 1))) ≤ v) (v2 : v ≤ far + (n + 1 : Nat) * (far * (s + 1))) (r1 : -s ≤ r) (r2 : r ≤ s) : Drawn far s (n + 1) (ps ++ [(d, v, r)]) := by
  have e : ((n + 1 : Nat) : Int) * (far * (s + 1)) = n * (far * (s + 1)) + far * (s + 1) := by rw [Int.natCast_add, Int.add_mul]; simp
  have e2 : ((n + 1 : Nat) : Int) * far = n * far + far := by rw [Int.natCast_add, Int.add_mul]; simp
  have e3 : 0 ≤ far * (s + 1) := Int.mul_nonneg (by omega) (by omega)
  refine ⟨asc_snoc h.asc (by rw [h.len]; exact h1), fun p hp => ?_, by rw [List.length_append, h.len]; rfl, fun p hp => ?_⟩
  · by_cases hn : n = 0
    · have : ps = [] := List.length_eq_zero_iff.mp (by rw [h.len, hn])
      subst this
      cases hp
      exact h0 hn
    · rw [List.getElem?_append_left (by rw [h.len]; omega)] at hp
      exact h.hd p hp
  · rw [e] at v1 v2
    rw [e, e2]
    rcases List.mem_append.mp hp with hp | hp
    · obtain ⟨b1, b2, b3, b4, b5, b6⟩ := h.bd p hp
      exact ⟨b1, by omega, by omega, by omega, b5, b6⟩
    · rw [List.mem_singleton.mp hp]
      exact ⟨d0, by show d ≤ _; omega, by show _ ≤ v; omega, by show v ≤ _; omega, r1, r2⟩
theorem Drawn.bits {far s : Int} {n : Nat} {ps : List Pc} (h : Drawn far s n ps) (hn : n ≤ 58) (hf : 1 ≤ far) (hs : 1 ≤ s) (fB : far ≤ 2 ^ 60) (sB : s ≤ 2 ^ 60) : Bd 70 130 ps := by
  have e3 : far * (s + 1) ≤ 2 ^ 60 * (2 ^ 60 + 1) := by
    have a : far * (s + 1) ≤ 2 ^ 60 * (s + 1) := Int.mul_le_mul_of_nonneg_right fB (by omega)
    have b : (2 : Int) ^ 60 * (s + 1) ≤ 2 ^ 60 * (2 ^ 60 + 1) := Int.mul_le_mul_of_nonneg_left (by omega) (by decide)
    omega
  have e4 : 0 ≤ far * (s + 1) := Int.mul_nonneg (by omega) (by omega)
  have e5 : (n : Int) * (far * (s + 1)) ≤ 58 * (2 ^ 60 * (2 ^ 60 + 1)) := by
    have a : (n : Int) * (far * (s + 1)) ≤ 58 * (far * (s + 1)) := Int.mul_le_mul_of_nonneg_right (by omega) e4
    omega
  have e6 : (n : Int) * far ≤ 58 * 2 ^ 60 := by
    have a : (n : Int) * far ≤ 58 * far := Int.mul_le_mul_of_nonneg_right (by omega) (by omega)
    omega
  have g1 : (58 : Int) * 2 ^ 60 < (2 ^ 70 : Nat) := by decide
  have g2 : (2 : Int) ^ 60 + 58 * (2 ^ 60 * (2 ^ 60 + 1)) < (2 ^ 130 : Nat) := by decide
  have g3 : (2 : Int) ^ 60 < (2 ^ 130 : Nat) := by decide
  intro p hp
  obtain ⟨b1, b2, b3, b4, b5, b6⟩ := h.bd p hp
  generalize (2 : Int) ^ 60 * (2 ^ 60 + 1) = y at *
  generalize (2 : Int) ^ 60 = w at *
  exact ⟨Bt.ofLt (by omega) (by omega), Bt.ofLt (by omega) (by omega), Bt.ofLt (by omega) (by omega)⟩

def spLawPieces : DSp := fun ds M P ex => ∃ (a : Addr) (z : Nat) (am : Nat) (far s : Int), ds = [.ref a, .int am, .int far, .int s] ∧ Pot a z M ∧ z + 400 < 2 ^ 50 ∧ 1 ≤ am ∧ am ≤ 58 ∧ 1 ≤ far ∧ far ≤ 2 ^ 60 ∧ 1 ≤ s ∧ s ≤ 2 ^ 60 ∧
  ∀ n ps M', 1 ≤ n → n ≤ am → Drawn far s n ps → Pot a (z + 400) M' → Only a M M' → P (.lst (pcsD ps)) M'
def Kept (a f : Addr) (M : Mem) (ps : List Pc) (M1 : Mem) : Prop := M1 f = some (.lst (pcsD ps)) ∧ ∀ b, b ≠ a → b ≠ f → M1 b = M b
theorem Kept.only {a f : Addr} {M M1 M2 : Mem} {ps : List Pc} (h : Kept a f M ps M1) (ha : a ≠ f) (o : Only a M1 M2) : Kept a f M ps M2 :=
  ⟨(o f (fun e => ha e.symm)).trans h.1, fun b h1 h2 => (o b h1).trans (h.2 b h1 h2)⟩
theorem seq_cut {A B : WS} {ex : EXS} {D : DEnds} {ρ : DEnv} {M : Mem} (J : DEnv → Mem → Prop) (hA : ∀ K : DEnv → Mem → Prop, (∀ ρ' M', J ρ' M' → K ρ' M') → A ex { D with nx := K } ρ M) (hB : ∀ ρ' M', J ρ' M' → B ex D ρ' M') : wSeq A B ex D ρ M := hA _ hB
theorem small_bt {far : Int} (h0 : 0 ≤ far) (h : far ≤ 2 ^ 60) : Bt 200 (2 * far + 1) := by
  have : (2 : Int) * 2 ^ 60 + 1 < (2 ^ 200 : Nat) := by decide
  generalize (2 : Int) ^ 60 = w at *
  exact Bt.of (by omega) (by omega)
theorem c_law_pieces (S : Sps) (h1 : S (.f "_law_take") = some spTake) (h2 : S (.f "_law_of") = some spOf) (h3 : S (.f "_law_at") = some spAt) (ds M P ex) (h : spLawPieces ds M P ex) : wBody n__law_pieces (r__law_pieces S) ds M P ex := by
  obtain ⟨a, z, am, far, s, rfl, hp, hz, ha1, ha2, hf, fB, hs, sB, h⟩ := h
  have sl := sizeLine_eq
  have hM : ∃ o, M a = some o := by obtain ⟨x, y, k, e, _⟩ := hp; exact ⟨_, e⟩
  simp [wSeq, wRet, wRetN, wSet, wDrop, wIf, wNext, wBrk, wCnt, wOr, wAnd, wOrT, wAndT, wNot, wNotT, wTru, wIfE, wOpX, wUnX, wVar, wC, eget, eset, wCons, wNil, wTup, wLst, wB, one, wCall, oS, wPar, wPar3, wAsg, wLM, oA, refD, dgN, dgCons, dgNil, dgTup, binO, addO, subO, mulO, fdivO, modO, powO, cmpO, relO, isO, eqO, neO, oII, truD, Br, negO, isNon, oD, oL, sFalse, eFalse, wStar, notK, wBody, r__law_pieces, n__law_pieces, startD, h1, h2, h3, wFor, wRng1]
  refine .inr fun f hf0 => ?_
  have haf : a ≠ f := fun e => by subst e; obtain ⟨o, e⟩ := hM; rw [hf0] at e; cases e
  have kept0 : Kept a f M [] (M.put f (.lst [])) := ⟨Mem.put_same, fun b _ hb => Mem.put_ne hb⟩
  have pot0 : Pot a z (M.put f (.lst [])) := by
    obtain ⟨x, y, k, e, r⟩ := hp
    exact ⟨x, y, k, by rw [Mem.put_ne haf]; exact e, r⟩
  refine ⟨a, z, am, rfl, pot0, by omega, by omega, Bt.of (by omega) (by omega), fun j M2 j0 j1 pot2 o2 => ?_⟩
  have kept2 := kept0.only haf o2
  refine ⟨⟨by omega, by omega⟩, ?_⟩
  have hn : (1 + j).toNat ≤ am := by omega
  have hn1 : 1 ≤ (1 + j).toNat := by omega
  generalize (1 + j).toNat = n at *
  have hlen : (rangeD 0 n).length = n := by simp [rangeD]
  refine for_inv (fun i ρ M' => ∃ (ps : List Pc) (day : Int) (w6 w7 : Option Dt), i ≤ n ∧ ρ = [some (.ref a), some (.int am), some (.int far), some (.int s), some (.ref f), some (.int day), w6, w7] ∧ Drawn far s i ps ∧ Pot a (z + 1 + 6 * i) M' ∧ Kept a f M ps M' ∧
      (i = 0 → day = 0) ∧ 0 ≤ day ∧ day ≤ i * far ∧ ∀ q, ps[i - 1]? = some q → q.1 < day ∧ day ≤ q.1 + far) (fun _ _ _ _ => trivial)
    ⟨[], 0, _, _, Nat.zero_le _, rfl, ⟨trivial, fun p hp => (by cases hp), rfl, fun p hp => (by cases hp)⟩, pot2, kept2, fun _ => rfl, Int.le_refl _, by simp, fun q hq => (by cases hq)⟩ ?_ ?_
  · rintro ρ M' ⟨ps, day, w6, w7, _, rfl, hD, hpot, hk, _⟩
    rw [hlen] at hD hpot
    simp [wSeq, wRet, wRetN, wSet, wDrop, wIf, wNext, wBrk, wCnt, wOr, wAnd, wOrT, wAndT, wNot, wNotT, wTru, wIfE, wOpX, wUnX, wVar, wC, eget, eset, wCons, wNil, wTup, wLst, wB, one, wCall, oS, wPar, wPar3, wAsg, wLM, oA, refD, dgN, dgCons, dgNil, dgTup, binO, addO, subO, mulO, fdivO, modO, powO, cmpO, relO, isO, eqO, neO, oII, truD, Br, negO, isNon, oD, oL, sFalse, eFalse, wStar, notK]
    refine ⟨_, M'.del f, .frz hk.1 .refl, h n ps _ hn1 hn hD ?_ ?_⟩
    · obtain ⟨x, y, k, e, r1, r2, r3, r4, r5⟩ := hpot
      exact ⟨x, y, k, by rw [Mem.del_ne haf]; exact e, r1, r2, r3, r4, by omega⟩
    · intro b hb
      by_cases e : b = f
      · subst e; rw [Mem.del_same, hf0]
      · rw [Mem.del_ne e, hk.2 b hb e]
  rintro i d ρ M' K hd ⟨ps, day, w6, w7, hin, rfl, hD, hpot, hk, hd0, hd1, hd2, hd3⟩ hK
  have hi : i < n := by have := (List.getElem?_eq_some_iff.mp hd).1; omega
  simp only [dgN, eset]
  refine seq_cut (fun ρ' M1 => ∃ v w6, ρ' = [some (.ref a), some (.int am), some (.int far), some (.int s), some (.ref f), some (.int day), w6, some (.int v)] ∧ Pot a (z + 2 + 6 * i) M1 ∧ Kept a f M ps M1 ∧ -far ≤ v ∧ v ≤ far) (fun K1 hK1 => ?_) ?_
  · simp [wSeq, wRet, wRetN, wSet, wDrop, wIf, wNext, wBrk, wCnt, wOr, wAnd, wOrT, wAndT, wNot, wNotT, wTru, wIfE, wOpX, wUnX, wVar, wC, eget, eset, wCons, wNil, wTup, wLst, wB, one, wCall, oS, wPar, wPar3, wAsg, wLM, oA, refD, dgN, dgCons, dgNil, dgTup, binO, addO, subO, mulO, fdivO, modO, powO, cmpO, relO, isO, eqO, neO, oII, truD, Br, negO, isNon, oD, oL, sFalse, eFalse, wStar, notK, h1, show MulOk 2 far from mulOk_of (n := 2) (m := 200) (by unfold Bt; decide) (by have := small_bt (far := far) (by omega) fB; unfold Bt at this ⊢; omega) (by omega)]
    refine ⟨a, _, _, rfl, hpot, by omega, by omega, small_bt (by omega) fB, fun r M1 r0 r1 p1 o1 => ?_⟩
    exact hK1 _ _ ⟨_, _, rfl, p1.mono (by omega), hk.only haf o1, by omega, by omega⟩
  rintro ρ1 M1 ⟨v, w6, rfl, pot1, k1, v0, v1⟩
  refine seq_cut (fun ρ' M1 => ∃ v w6, ρ' = [some (.ref a), some (.int am), some (.int far), some (.int s), some (.ref f), some (.int day), w6, some (.int v)] ∧ Pot a (z + 4 + 6 * i) M1 ∧ Kept a f M ps M1 ∧ -(far + (i + 1 : Nat) * (far * (s + 1))) ≤ v ∧ v ≤ far + (i + 1 : Nat) * (far * (s + 1))) (fun K1 hK1 => ?_) ?_
  · have e : ((i + 1 : Nat) : Int) * (far * (s + 1)) = i * (far * (s + 1)) + far * (s + 1) := by rw [Int.natCast_add, Int.add_mul]; simp
    have e3 : far * (s + 1) = s * far + far := by rw [Int.mul_add, Int.mul_one, Int.mul_comm]
    have e4 : 0 ≤ s * far := Int.mul_nonneg (by omega) (by omega)
    have e5 : 0 ≤ (i : Int) * (far * (s + 1)) := Int.mul_nonneg (by omega) (by omega)
    simp [wSeq, wRet, wRetN, wSet, wDrop, wIf, wNext, wBrk, wCnt, wOr, wAnd, wOrT, wAndT, wNot, wNotT, wTru, wIfE, wOpX, wUnX, wVar, wC, eget, eset, wCons, wNil, wTup, wLst, wB, one, wCall, oS, wPar, wPar3, wAsg, wLM, oA, refD, dgN, dgCons, dgNil, dgTup, binO, addO, subO, mulO, fdivO, modO, powO, cmpO, relO, isO, eqO, neO, oII, truD, Br, negO, isNon, oD, oL, sFalse, eFalse, wStar, notK, h1, h2, h3]
    refine .inl (eqD_nil (ds := pcsD ps) (seqD_ref k1.1) (fun _ e => by cases e) (toPys_pcs ps) (shaped_pcs ps).1 (by have := (shaped_pcs ps).2; omega) ?_)
    cases i with
    | zero =>
      have : ps = [] := List.length_eq_zero_iff.mp hD.len
      subst this
      simp [pcsD]
      exact hK1 _ _ ⟨v, w6, rfl, pot1.mono (by omega), k1, by omega, by omega⟩
    | succ k =>
      obtain ⟨la, el⟩ : ∃ q, ps[k]? = some q := ⟨_, List.getElem?_eq_getElem (by rw [hD.len]; omega)⟩
      obtain ⟨l1, l2⟩ := hd3 la el
      obtain ⟨p0, e0⟩ : ∃ q, ps[0]? = some q := ⟨_, List.getElem?_eq_getElem (by rw [hD.len]; omega)⟩
      have hne : (pcsD ps).isEmpty = false := by
        cases ps with
        | nil => cases el
        | cons x y => rfl
      have hB := hD.bits (by omega) hf hs fB sB
      obtain ⟨b1, b2, b3, b4, b5, b6⟩ := hD.bd la (List.mem_of_getElem? el)
      have ev : vAt ps day = numberIn la day := vAt_pc hD.asc el (by omega) fun q hq => by
        have := (List.getElem?_eq_some_iff.mp hq).1
        have := hD.len
        omega
      obtain ⟨m1, m2⟩ := mul_bd b5 b6 (by omega) (show 0 ≤ day - la.1 by omega) (show day - la.1 ≤ far by omega)
      have dB : Bt 70 day := by
        have := (hB la (List.mem_of_getElem? el)).1
        have g1 : (58 : Int) * 2 ^ 60 < (2 ^ 70 : Nat) := by decide
        have a1 : ((k + 1 : Nat) : Int) * far ≤ 58 * far := Int.mul_le_mul_of_nonneg_right (by omega) (by omega)
        generalize (2 : Int) ^ 60 = w at *
        exact Bt.of hd1 (by omega)
      simp [hne]
      refine ⟨a, _, _, rfl, pot1, by omega, by omega, by unfold Bt; decide, fun r M3 r0 r1 p1 o1 => ?_⟩
      have k2 := k1.only haf o1
      refine ⟨fun _ => ?_, fun _ => hK1 _ _ ⟨v, w6, rfl, p1.mono (by omega), k2, by omega, by omega⟩⟩
      refine ⟨_, ps, 70, 130, day, p0, rfl, seqD_ref k2.1, hD.asc, hB, dB, by omega, by rw [hD.len]; omega, e0, by rw [hD.hd p0 e0]; omega, ?_⟩
      refine ⟨by omega, .inl ⟨a, _, _, _, rfl, rfl, by simp, by simp only [List.length_cons, List.length_nil]; omega, p1, by omega, fun e M4 he p4 o4 => ?_⟩⟩
      obtain ⟨x, rfl, x1, x2⟩ : ∃ x : Int, e = .int x ∧ -far ≤ x ∧ x ≤ far := by
        simp at he
        rcases he with rfl | rfl | rfl | rfl <;> exact ⟨_, rfl, by omega, by omega⟩
      simp
      refine hK1 _ _ ⟨_, _, rfl, p4.mono (by omega), k2.only haf o4, ?_, ?_⟩
      · rw [ev]; unfold numberIn; omega
      · rw [ev]; unfold numberIn; omega
  rintro ρ1 M1 ⟨v, w6, rfl, pot1, k1, v0, v1⟩
  simp [wSeq, wRet, wRetN, wSet, wDrop, wIf, wNext, wBrk, wCnt, wOr, wAnd, wOrT, wAndT, wNot, wNotT, wTru, wIfE, wOpX, wUnX, wVar, wC, eget, eset, wCons, wNil, wTup, wLst, wB, one, wCall, oS, wPar, wPar3, wAsg, wLM, oA, refD, dgN, dgCons, dgNil, dgTup, binO, addO, subO, mulO, fdivO, modO, powO, cmpO, relO, isO, eqO, neO, oII, truD, Br, negO, isNon, oD, oL, sFalse, eFalse, wStar, notK, h1, h2, show MulOk 2 s from mulOk_of (n := 2) (m := 200) (by unfold Bt; decide) (by have := small_bt (far := s) (by omega) sB; unfold Bt at this ⊢; omega) (by omega), lstM, k1.1]
  refine ⟨a, _, _, rfl, pot1, by omega, by omega, small_bt (by omega) sB, fun r M3 r0 r1 p3 o3 => ?_⟩
  refine ⟨by omega, .inl ⟨a, _, _, _, rfl, rfl, by simp, by simp only [List.length_cons, List.length_nil]; omega, p3, by omega, fun e M4 he p4 o4 => ?_⟩⟩
  obtain ⟨x, rfl, x1, x2⟩ : ∃ x : Int, e = .int x ∧ -s ≤ x ∧ x ≤ s := by
    simp at he
    rcases he with rfl | rfl | rfl | rfl <;> exact ⟨_, rfl, by omega, by omega⟩
  have k4 := (k1.only haf o3).only haf o4
  have ea : pcsD ps ++ [.tup [.int day, .int v, .int x]] = pcsD (ps ++ [(day, v, x)]) := by unfold pcsD; rw [List.map_append]; rfl
  simp [k4.1, lmAppend, ea]
  have hD' := hD.snoc (d := day) (v := v) (r := x) hf hs hd0 (fun q hq => (hd3 q hq).1) hd1 hd2 v0 v1 x1 x2
  have k5 : Kept a f M (ps ++ [(day, v, x)]) (M4.put f (.lst (pcsD (ps ++ [(day, v, x)])))) := ⟨Mem.put_same, fun b hb hb2 => by rw [Mem.put_ne hb2]; exact k4.2 b hb hb2⟩
  have p5 : Pot a (z + 4 + 6 * i + 1 + 1) (M4.put f (.lst (pcsD (ps ++ [(day, v, x)])))) := by
    obtain ⟨y1, y2, y3, e, r⟩ := p4
    exact ⟨y1, y2, y3, by rw [Mem.put_ne haf]; exact e, r⟩
  refine ⟨by omega, by rw [pcsD_len, hD.len]; omega, a, _, _, rfl, p5, by omega, hf, ?_, fun y M6 y0 y1 p6 o6 => ?_⟩
  · have := small_bt (far := far) (by omega) fB
    unfold Bt at this ⊢
    omega
  refine hK _ _ ⟨_, _, _, _, hi, rfl, hD', p6.mono (by omega), k5.only haf o6, fun e => absurd e (Nat.succ_ne_zero _), by omega, ?_, fun q hq => ?_⟩
  · have e2 : ((i + 1 : Nat) : Int) * far = i * far + far := by rw [Int.natCast_add, Int.add_mul]; simp
    omega
  · rw [Nat.add_sub_cancel, ← hD.len, List.getElem?_append_right (Nat.le_refl _), Nat.sub_self] at hq
    cases hq
    exact ⟨by show day < _; omega, by show _ ≤ day + far; omega⟩
end Fs
set_option maxHeartbeats 4000000
/-! Fd5: the span of days. -/
namespace Fs
open PySem PySem.Spec PyProof.Rows L2

theorem lc_mapA {α : Type} {b : DG} {e : WE} {ρ : DEnv} {M : Mem} {g : Gd} {P : List Dt → Mem → Prop} (c f : α → Dt) (hg : gd g M True) : ∀ (as : List α) (acc : List Dt), (∀ x ∈ as, ∀ Q : DK, Q (f x) M → b (c x) ρ M fun ρ1 M1 => e noX ρ1 M1 Q) → acc.length + as.length ≤ sizeLine → P (acc ++ as.map f) M → lcL b wYes e P ρ g (as.map c) acc M
  | [], acc, _, _, h => gd_true hg (by simpa using h)
  | x :: as, acc, he, hz, h => by
    refine gd_true hg ?_
    simp only [wYes, br_true]
    refine he x (List.mem_cons_self ..) _ ?_
    have hl : (x :: as).length = as.length + 1 := rfl
    refine ⟨by omega, lc_mapA c f hg as (acc ++ [f x]) (fun x hx => he x (List.mem_cons_of_mem _ hx)) (by simp; omega) (by simpa using h)⟩
theorem lc_filA {α : Type} {b : DG} {t : WT} {e : WE} {ρ : DEnv} {M : Mem} {g : Gd} {P : List Dt → Mem → Prop} (p : α → Bool) (c f : α → Dt) (hg : gd g M True) : ∀ (as : List α) (acc : List Dt),
    (∀ x ∈ as, ∀ (Q1 : DK) (Q2 : Mem → Prop), (p x = true → Q1 (f x) M) → (p x = false → Q2 M) → b (c x) ρ M fun ρ1 M1 => t noX ρ1 M1 fun k M2 => Br k (e noX ρ1 M2 Q1) (Q2 M2)) → acc.length + as.length ≤ sizeLine → P (acc ++ (as.filter p).map f) M → lcL b t e P ρ g (as.map c) acc M
  | [], acc, _, _, h => gd_true hg (by simpa using h)
  | x :: as, acc, he, hz, h => by
    refine gd_true hg ?_
    have hl : (x :: as).length = as.length + 1 := rfl
    refine he x (List.mem_cons_self ..) _ _ (fun hp => ⟨by omega, ?_⟩) fun hp => ?_
    · exact lc_filA p c f hg as (acc ++ [f x]) (fun x hx => he x (List.mem_cons_of_mem _ hx)) (by simp; omega) (by rw [List.filter_cons_of_pos hp] at h; simpa using h)
    · exact lc_filA p c f hg as acc (fun x hx => he x (List.mem_cons_of_mem _ hx)) (by omega) (by rw [List.filter_cons_of_neg (by simp [hp])] at h; exact h)
def lastOf (ps : List Pc) : Pc := ps.getLastD (0, 0, 0)
theorem lastOf_get {ps : List Pc} (h : ps ≠ []) : ps[ps.length - 1]? = some (lastOf ps) := by
  unfold lastOf
  rw [List.getLastD_eq_getLast?, ← List.getLast?_eq_getElem?]
  cases e : ps.getLast? with
  | none => exact absurd (List.getLast?_eq_none_iff.mp e) h
  | some q => rfl
theorem last_split {ps : List Pc} (h : ps ≠ []) : ps = ps.dropLast ++ [lastOf ps] := by
  have := List.dropLast_concat_getLast h
  unfold lastOf
  rw [List.getLastD_eq_getLast?, List.getLast?_eq_some_getLast h]
  exact this.symm
theorem atI_lastOf {ps : List Pc} (h : ps ≠ []) : L2.atI (pcsD ps) (-1) = some (pcD (lastOf ps)) := by
  have e : pcsD ps = pcsD ps.dropLast ++ [pcD (lastOf ps)] := by
    conv => lhs; rw [last_split h]
    unfold pcsD
    rw [List.map_append]; rfl
  rw [e, atI_last]
def lstPc (ps : List Pc) : Dt := .lst (pcsD ps)
def spanN (Ls : List (List Pc)) (m : Int) : Int := m + (Ls.map fun ps => absI (vAt ps m)).sum + 3
def daysD (n : Int) : List Int := (List.range n.toNat).map (fun i => ((i : Nat) : Int)) ++ [10 ^ 12, 10 ^ 12 + 7]
def spSpan : DSp := fun ds M P ex => ∃ (Ls : List (List Pc)) (a c : Nat), ds = [.lst (Ls.map lstPc)] ∧ Ls ≠ [] ∧ Ls.length ≤ 1000 ∧ (∀ ps ∈ Ls, PsOk a c 5000000 ps) ∧ a + c + 10 < 1000000 ∧
  ∀ m, m ∈ Ls.map (fun ps => (lastOf ps).1) → (∀ ps ∈ Ls, (lastOf ps).1 ≤ m) → 0 ≤ spanN Ls m ∧ spanN Ls m ≤ 10000000 ∧ P (.lst ((daysD (spanN Ls m)).map .int)) M
theorem PsOk.ne {a c n : Nat} {ps : List Pc} (h : PsOk a c n ps) : ps ≠ [] := fun e => by
  obtain ⟨p, q, _⟩ := h.hd
  rw [e] at q; cases q
theorem c_span (S : Sps) (h1 : S (.f "_law_at") = some spAt) (ds M P ex) (h : spSpan ds M P ex) : wBody n__law_span (r__law_span S) ds M P ex := by
  obtain ⟨Ls, a, c, rfl, hne, hl, hps, hz, h⟩ := h
  have sl := sizeLine_eq
  simp [wSeq, wRet, wRetN, wSet, wDrop, wIf, wNext, wBrk, wCnt, wOr, wAnd, wOrT, wAndT, wNot, wNotT, wTru, wIfE, wOpX, wUnX, wVar, wC, eget, eset, wCons, wNil, wTup, wLst, wB, one, wCall, oS, wPar, wPar3, wAsg, wLM, oA, refD, dgN, dgCons, dgNil, dgTup, binO, addO, subO, mulO, fdivO, modO, powO, cmpO, relO, isO, eqO, neO, oII, truD, Br, negO, isNon, oD, oL, sFalse, eFalse, wStar, notK, wBody, r__law_span, n__law_span, startD, h1, wLc, wIt]
  refine lc_mapA lstPc (fun ps => .int (lastOf ps).1) (show gd none M True from trivial) Ls [] (fun ps hp Q q => ?_) (by simp; omega) (.inl ?_)
  · simp [wSeq, wRet, wRetN, wSet, wDrop, wIf, wNext, wBrk, wCnt, wOr, wAnd, wOrT, wAndT, wNot, wNotT, wTru, wIfE, wOpX, wUnX, wVar, wC, eget, eset, wCons, wNil, wTup, wLst, wB, one, wCall, oS, wPar, wPar3, wAsg, wLM, oA, refD, dgN, dgCons, dgNil, dgTup, binO, addO, subO, mulO, fdivO, modO, powO, cmpO, relO, isO, eqO, neO, oII, truD, Br, negO, isNon, oD, oL, sFalse, eFalse, wStar, notK, dwipe, lstPc]
    rw [ixO_seq S rfl, atI_lastOf (hps ps hp).ne]
    exact q
  simp [dMax, listD]
  have ei : intsD (Ls.map fun ps => .int (lastOf ps).1) = some (Ls.map fun ps => (lastOf ps).1) := by
    have := intsD_map (Ls.map fun ps => (lastOf ps).1)
    rwa [List.map_map] at this
  simp only [oL, ei, oIs]
  refine ⟨by simpa using hne, fun m m1 m2 => ?_⟩
  obtain ⟨h0, h9, h⟩ := h m m1 fun ps hp => m2 _ (List.mem_map.mpr ⟨ps, hp, rfl⟩)
  obtain ⟨qs, hq, em⟩ := List.mem_map.mp m1
  have mB : Bt a m := by
    rw [← em]
    exact ((hps qs hq).bd.get (lastOf_get (hps qs hq).ne)).1
  have m0 : 0 ≤ m := by
    obtain ⟨p0, e0, e1⟩ := (hps qs hq).hd
    have el := lastOf_get (hps qs hq).ne
    rw [← em]
    by_cases e : qs.length - 1 = 0
    · rw [e, e0] at el; cases el; omega
    · have := (hps qs hq).asc.get e0 el (by omega); omega
  refine lc_mapA lstPc (fun ps => .int (absI (vAt ps m))) (show gd none M True from trivial) Ls [] (fun ps hp Q q => ?_) (by simp; omega) (.inl ?_)
  · obtain ⟨k1, k2, ⟨p0, k3, k4⟩, k5⟩ := hps ps hp
    simp [wSeq, wRet, wRetN, wSet, wDrop, wIf, wNext, wBrk, wCnt, wOr, wAnd, wOrT, wAndT, wNot, wNotT, wTru, wIfE, wOpX, wUnX, wVar, wC, eget, eset, wCons, wNil, wTup, wLst, wB, one, wCall, oS, wPar, wPar3, wAsg, wLM, oA, refD, dgN, dgCons, dgNil, dgTup, binO, addO, subO, mulO, fdivO, modO, powO, cmpO, relO, isO, eqO, neO, oII, truD, Br, negO, isNon, oD, oL, sFalse, eFalse, wStar, notK, dwipe, lstPc, dAbs, h1]
    exact ⟨_, ps, a, c, m, p0, rfl, rfl, k1, k2, mB, hz, by omega, k3, by omega, q⟩
  have es : intsD (Ls.map fun ps => .int (absI (vAt ps m))) = some (Ls.map fun ps => absI (vAt ps m)) := by
    have := intsD_map (Ls.map fun ps => absI (vAt ps m))
    rwa [List.map_map] at this
  have p12 : PowOk 10 12 := by unfold PowOk; decide
  simp only [dSum, listD, oL, List.nil_append, es, oIs, dInt]
  have eS : m + (Ls.map fun ps => absI (vAt ps m)).sum + 3 = spanN Ls m := rfl
  rw [eS]
  simp [wSeq, wRet, wRetN, wSet, wDrop, wIf, wNext, wBrk, wCnt, wOr, wAnd, wOrT, wAndT, wNot, wNotT, wTru, wIfE, wOpX, wUnX, wVar, wC, eget, eset, wCons, wNil, wTup, wLst, wB, one, wCall, oS, wPar, wPar3, wAsg, wLM, oA, refD, dgN, dgCons, dgNil, dgTup, binO, addO, subO, mulO, fdivO, modO, powO, cmpO, relO, isO, eqO, neO, oII, truD, Br, negO, isNon, oD, oL, sFalse, eFalse, wStar, notK, wLRg1]
  refine ⟨RgOk.of_le (by omega) (by omega) (by omega) (by omega), .inl ⟨p12, by omega, .inl ?_⟩⟩
  have el : ((rgD 0 (spanN Ls m))).length ≤ 10000000 := by
    unfold rgD
    simp
    omega
  simp [lstOf]
  refine ⟨by omega, .inl (exitP_refl ?_)⟩
  have ed : (daysD (spanN Ls m)).map Dt.int = rgD 0 (spanN Ls m) ++ [.int 1000000000000, .int 1000000000007] := by
    unfold daysD rgD
    rw [List.map_append, List.map_map]
    congr 1
    rw [Int.sub_zero]
    apply List.map_congr_left
    intro i _
    simp
  rw [← ed]
  exact h
end Fs
/-! Fm2: days up to where nothing bends any more. -/
namespace Fs
/-- one row behind a day -/
theorem vAt_behind {ps : List Pc} {m d : Int} (ha : Asc ps) (hl : ∀ p ∈ ps, p.1 ≤ m) (hd : m ≤ d) (hn : ps ≠ []) : ∃ r, vAt ps d = vAt ps m + r * (d - m) ∧ ∀ d', m ≤ d' → vAt ps d' = vAt ps m + r * (d' - m) := by
  obtain ⟨p0, e0⟩ : ∃ p, ps[0]? = some p := ⟨_, List.getElem?_eq_getElem (List.length_pos_iff.mpr hn)⟩
  have key : ∀ d', m ≤ d' → vAt ps d' = vAt ps m + rAt ps m * (d' - m) := fun d' h => vAt_shift ha e0 (hl p0 (List.mem_of_getElem? e0)) h fun p hp => by have := hl p hp; omega
  exact ⟨_, key d hd, key⟩
/-- a difference above anywhere is above soon -/
theorem far_enough {f g : List Pc} {m B d : Int} (hf : Asc f) (hg : Asc g) (nf : f ≠ []) (ng : g ≠ []) (lf : ∀ p ∈ f, p.1 ≤ m) (lg : ∀ p ∈ g, p.1 ≤ m) (m0 : 0 ≤ m) (hB : vAt f m - vAt g m ≤ B) (B0 : 0 ≤ B) (h : ∀ d, 0 ≤ d → d < m + B + 3 → vAt g d - vAt f d ≤ 0) (hd : 0 ≤ d) : vAt g d - vAt f d ≤ 0 := by
  by_cases hx : d < m + B + 3
  · exact h d hd hx
  obtain ⟨r, _, k1⟩ := vAt_behind (d := d) hf lf (by omega) nf
  obtain ⟨q, _, k2⟩ := vAt_behind (d := d) hg lg (by omega) ng
  have a1 := k1 d (by omega)
  have a2 := k2 d (by omega)
  have b1 := k1 (m + B + 2) (by omega)
  have b2 := k2 (m + B + 2) (by omega)
  have hh := h (m + B + 2) (by omega) (by omega)
  have hm := h m m0 (by omega)
  rw [b1, b2] at hh
  rw [a1, a2]
  have e1 : m + B + 2 - m = B + 2 := by omega
  rw [e1] at hh
  have e2 : q * (B + 2) - r * (B + 2) = (q - r) * (B + 2) := (Int.sub_mul ..).symm
  have e3 : q * (d - m) - r * (d - m) = (q - r) * (d - m) := (Int.sub_mul ..).symm
  have hs : q - r ≤ 0 := by
    by_cases hs : q - r ≤ 0
    · exact hs
    exfalso
    have : 1 * (B + 2) ≤ (q - r) * (B + 2) := Int.mul_le_mul_of_nonneg_right (by omega) (by omega)
    omega
  have : (q - r) * (d - m) ≤ 0 := Int.mul_nonpos_of_nonpos_of_nonneg hs (by omega)
  omega
/-- the first one of such days -/
theorem first_of {g : Int → Int} {p : Int → Bool} {N : Int} {r : Option Int} {xs : List Int} (hp : ∀ d, 0 ≤ d → (p d = true ↔ 0 < g d)) (hN : (∀ d, 0 ≤ d → d < N → g d ≤ 0) → ∀ d, 0 ≤ d → g d ≤ 0) (hx : ∀ x ∈ xs, 0 ≤ x) (h : IsFirst g r) :
    (((List.range N.toNat).map (fun i => ((i : Nat) : Int)) ++ xs).filter p).head? = r := by
  rw [List.head?_filter]
  cases r with
  | none =>
    rw [List.find?_eq_none]
    intro x hx' hpx
    have h0 : 0 ≤ x := by
      rcases List.mem_append.mp hx' with e | e
      · obtain ⟨i, _, rfl⟩ := List.mem_map.mp e; omega
      · exact hx x e
    have := (hp x h0).mp hpx
    have := h x h0
    omega
  | some e =>
    obtain ⟨e0, e1, e2⟩ := h
    have eN : e < N := by
      by_cases hh : e < N
      · exact hh
      · have := hN (fun d hd hd2 => e2 d hd (by omega)) e e0
        omega
    rw [List.find?_append, List.find?_map]
    have : (List.range N.toNat).find? (p ∘ fun i => ((i : Nat) : Int)) = some e.toNat := by
      rw [List.find?_range_eq_some]
      refine ⟨?_, ?_, fun j hj => ?_⟩
      · show p ((e.toNat : Nat) : Int) = true
        rw [Int.toNat_of_nonneg e0]
        exact (hp e e0).mpr e1
      · rw [List.mem_range]; omega
      · have := e2 (j : Int) (by omega) (by omega)
        have h3 := hp (j : Int) (by omega)
        show (!p ((j : Nat) : Int)) = true
        cases q : p ((j : Nat) : Int) with
        | false => rfl
        | true => have := h3.mp q; omega
    rw [this]
    show some ((e.toNat : Nat) : Int) = some e
    rw [Int.toNat_of_nonneg e0]
theorem asc_of_days {ps : List Pc} : ∀ {qs : List Pc}, Asc ps → qs.map (·.1) = ps.map (·.1) → Asc qs := by
  induction ps with
  | nil => intro qs _ e; cases qs with
    | nil => trivial
    | cons q qs => cases e
  | cons p ps ih =>
    intro qs ha e
    cases qs with
    | nil => cases e
    | cons q qs =>
      simp at e
      have hq := ih ha.tail e.2
      cases qs with
      | nil => trivial
      | cons q2 qs =>
        cases ps with
        | nil => simp at e
        | cons p2 ps =>
          simp at e
          exact ⟨by rw [e.1, e.2.1]; exact ha.1, hq⟩
end Fs
/-! readings of the laws own defs, printed. -/
namespace Fs
open PySem PySem.Spec PyProof.Rows L2
def n_5_law_beside : List Str := ["pot", "pieces", "way", "shift", "day", "value", "rate", "rows"]
def r_5_law_beside (S : Sps) : WS := (wSeq (wAsg (wTup (wCons (wCall S "_law_take" (wCons (wVar 0) (wCons (wC (.int 4)) wNil))) (wCons (wOpX (binO S .Sub) (wCall S "_law_take" (wCons (wVar 0) (wCons (wC (.int 5)) wNil))) (wC (.int 2))) wNil))) (dgTup 2 (dgCons (dgN 2) (dgCons (dgN 3) dgNil))))
 (wSeq (wIf (wTru (wOpX (cmpO S .Eq) (wVar 2) (wC (.int 0)))) (wRet (wCall S "_law_pieces" (wCons (wVar 0) (wCons (wCall S "_law_amount" (wCons (wVar 0) wNil)) (wCons (wC (.int 6)) (wCons (wC (.int 4)) wNil)))))) wNext)
 (wSeq (wSet 7 (wLc (wIt (wVar 1)) (dgTup 3 (dgCons (dgN 4) (dgCons (dgN 5) (dgCons (dgN 6) dgNil)))) wYes (wTup (wCons (wVar 4) (wCons (wOpX (binO S .Add) (wVar 5) (wVar 3)) (wCons (wVar 6) wNil)))) [4, 5, 6]))
 (wSeq (wIf (wTru (wOpX (cmpO S .Eq) (wVar 2) (wC (.int 1)))) (wRet (wVar 7)) wNext)
 (wSeq (wAsg (wOpX (ixO S) (wVar 7) (wUnX (negO S) (wC (.int 1)))) (dgTup 3 (dgCons (dgN 4) (dgCons (dgN 5) (dgCons (dgN 6) dgNil)))))
 (wRet (wOpX (binO S .Add) (wSl oCut (wVar 7) wP0 (wP1 (wUnX (negO S) (wC (.int 1))))) (wLst (wCons (wTup (wCons (wVar 4) (wCons (wOpX (binO S .Sub) (wVar 5) (wCall S "_law_take" (wCons (wVar 0) (wCons (wC (.int 3)) wNil)))) (wCons (wOpX (binO S .Add) (wVar 6) (wCall S "_law_of" (wCons (wVar 0) (wCons (wLst (wCons (wC (.int 1)) (wCons (wUnX (negO S) (wC (.int 1))) (wCons (wC (.int 0)) wNil)))) wNil)))) wNil)))) wNil)))))))))
def n_5_law_right : List Str := ["pot", "one", "other", "mine", "its", "days", "near", "far", "a", "b", "fewer", "day"]
def r_5_law_right (S : Sps) : WS := (wSeq (wSet 1 (wCall S "_law_pieces" (wCons (wVar 0) (wCons (wCall S "_law_amount" (wCons (wVar 0) wNil)) (wCons (wC (.int 6)) (wCons (wC (.int 4)) wNil))))))
 (wSeq (wSet 2 (wCall S "_law_beside" (wCons (wVar 0) (wCons (wVar 1) wNil))))
 (wSeq (wPar3 3 4 5 (wCons (wCall S "_law_stairs" (wCons (wVar 1) wNil)) (wCons (wCall S "_law_stairs" (wCons (wVar 2) wNil)) (wCons (wCall S "_law_span" (wCons (wLst (wCons (wVar 1) (wCons (wVar 2) wNil))) wNil)) wNil))))
 (wSeq (wFor (wIt (wTup (wCons (wTup (wCons (wVar 3) (wCons (wVar 4) (wCons (wVar 1) (wCons (wVar 2) wNil))))) (wCons (wTup (wCons (wVar 4) (wCons (wVar 3) (wCons (wVar 2) (wCons (wVar 1) wNil))))) wNil)))) (dgTup 4 (dgCons (dgN 6) (dgCons (dgN 7) (dgCons (dgN 8) (dgCons (dgN 9) dgNil))))) (wSeq (wSet 10 (wLc (wIt (wVar 5)) (dgN 11) (wTru (wOpX (cmpO S .Lt) (wCall S "_law_at" (wCons (wVar 8) (wCons (wVar 11) wNil))) (wCall S "_law_at" (wCons (wVar 9) (wCons (wVar 11) wNil))))) (wVar 11) [11]))
 (wSeq (wIf (wTru (wOpX (cmpO S .NotEq) (wB (one dRepr) (wCons (wMeth S "first_less" (wVar 6) (wCons (wVar 7) wNil)) wNil)) (wB (one dRepr) (wCons (wIfE (wTru (wOpX (cmpO S .NotEq) (wVar 10) (wLst wNil))) (wOpX (ixO S) (wVar 10) (wC (.int 0))) (wC .non)) wNil)))) (wRet (wC (.bl false))) wNext)
 (wIf (wTru (wOpX (cmpO S .NotEq) (wB (one dRepr) (wCons (wMeth S "nowhere_above" (wVar 7) (wCons (wVar 6) wNil)) wNil)) (wB (one dRepr) (wCons (wOpX (cmpO S .Eq) (wVar 10) (wLst wNil)) wNil)))) (wRet (wC (.bl false))) wNext))))
 (wRet (wAnd (wOpX (cmpO S .Is) (wMeth S "nowhere_above" (wVar 3) (wCons (wVar 3) wNil)) (wC (.bl true))) (wOpX (cmpO S .Is) (wMeth S "first_less" (wVar 3) (wCons (wVar 3) wNil)) (wC .non))))))))
def n_5law : List Str := ["script", "place", "pot", "lap"]
def r_5law (S : Sps) : WS := (wSeq (wFor (wIt (wCall S "_law_cells" (wCons (wVar 0) (wCons (wC (.int 6)) wNil)))) (dgN 1) (wSeq (wSet 2 (wCall S "_law_draws" (wCons (wVar 0) (wCons (wVar 1) wNil))))
 (wIf (wNotT (wTru (wB (one dAll) (wCons (wLc (wRng1 (wCons (wC (.int 3)) wNil)) (dgN 3) wYes (wCall S "_law_right" (wCons (wVar 2) wNil)) [3]) wNil)))) (wRet (wC (.bl false))) wNext)))
 (wRet (wC (.bl true))))
end Fs
set_option maxHeartbeats 4000000
/-! Fd05: law k05's own defs. -/
namespace Fs
open PySem PySem.Spec PyProof.Rows L2

/-! ### texts -/
theorem strOk_of (s : String) : PyData.strOk (Str.ofString s) = true := by
  unfold PyData.strOk
  rw [Str.ofString_eq_toList]
  simp only [List.all_toArray, List.all_map, List.all_eq_true]
  intro c _
  have := c.valid
  unfold UInt32.isValidChar Nat.isValidChar at this
  simp only [Function.comp, decide_eq_true_eq]
  show c.val.toNat < 0x110000
  omega
theorem eqD_same {M : Mem} {s : String} {f : Bool → Prop} (h : f true) : eqD M (.str (Str.ofString s)) (.str (Str.ofString s)) f := by
  refine ⟨.str (Str.ofString s), .str (Str.ofString s), rfl, rfl, ?_, ?_, ?_⟩
  · show (PyData.strOk (Str.ofString s) && decide (PyData.depth (.str (Str.ofString s)) ≤ 64)) = true
    rw [strOk_of]; rfl
  · show (PyData.strOk (Str.ofString s) && decide (PyData.depth (.str (Str.ofString s)) ≤ 64)) = true
    rw [strOk_of]; rfl
  · have : PyData.eqv (.str (Str.ofString s)) (.str (Str.ofString s)) = true := by simp [PyData.eqv]
    rw [this]; exact h

/-! ### small pieces -/
structure Sml (ps : List Pc) : Prop where
  asc : Asc ps
  hd : ∃ p, ps[0]? = some p ∧ p.1 = 0
  len : ps.length ≤ 58
  bd : ∀ p ∈ ps, 0 ≤ p.1 ∧ p.1 ≤ 348 ∧ -2000 ≤ p.2.1 ∧ p.2.1 ≤ 2000 ∧ -10 ≤ p.2.2 ∧ p.2.2 ≤ 10
theorem Sml.ok {ps : List Pc} (h : Sml ps) : PsOk 40 40 58 ps := ⟨h.asc, fun p hp => by
  obtain ⟨b1, b2, b3, b4, b5, b6⟩ := h.bd p hp
  exact ⟨Bt.ofLt (by omega) (by omega), Bt.ofLt (by omega) (by omega), Bt.ofLt (by omega) (by omega)⟩, h.hd, h.len⟩
theorem Drawn.sml {n : Nat} {ps : List Pc} (h : Drawn 6 4 n ps) (h1 : 1 ≤ n) (h2 : n ≤ 58) : Sml ps := by
  refine ⟨h.asc, ?_, by rw [h.len]; exact h2, fun p hp => ?_⟩
  · obtain ⟨p, e⟩ : ∃ p, ps[0]? = some p := ⟨_, List.getElem?_eq_getElem (by rw [h.len]; omega)⟩
    exact ⟨p, e, h.hd p e⟩
  · obtain ⟨b1, b2, b3, b4, b5, b6⟩ := h.bd p hp
    exact ⟨b1, by omega, by omega, by omega, by omega, by omega⟩
def shifted (sh : Int) (ps : List Pc) : List Pc := ps.map fun p => (p.1, p.2.1 + sh, p.2.2)
def bent (t e : Int) (ps : List Pc) : List Pc := ps.dropLast ++ [((lastOf ps).1, (lastOf ps).2.1 - t, (lastOf ps).2.2 + e)]
theorem shifted_sml {n : Nat} {ps : List Pc} {sh : Int} (h : Drawn 6 4 n ps) (h1 : 1 ≤ n) (h2 : n ≤ 58) (s1 : -2 ≤ sh) (s2 : sh ≤ 2) : Sml (shifted sh ps) ∧ ∀ p ∈ shifted sh ps, -1990 ≤ p.2.1 ∧ p.2.1 ≤ 1990 ∧ -4 ≤ p.2.2 ∧ p.2.2 ≤ 4 := by
  have h0 := h.sml h1 h2
  have bd : ∀ p ∈ shifted sh ps, 0 ≤ p.1 ∧ p.1 ≤ 348 ∧ -1990 ≤ p.2.1 ∧ p.2.1 ≤ 1990 ∧ -4 ≤ p.2.2 ∧ p.2.2 ≤ 4 := fun p hp => by
    obtain ⟨q, hq, rfl⟩ := List.mem_map.mp hp
    obtain ⟨b1, b2, b3, b4, b5, b6⟩ := h.bd q hq
    exact ⟨b1, by show q.1 ≤ _; omega, by show _ ≤ q.2.1 + sh; omega, by show q.2.1 + sh ≤ _; omega, b5, b6⟩
  refine ⟨⟨asc_of_days h0.asc (by unfold shifted; rw [List.map_map]; rfl), ?_, by unfold shifted; rw [List.length_map]; exact h0.len, fun p hp => ?_⟩, fun p hp => (bd p hp).2.2⟩
  · obtain ⟨p, e, e1⟩ := h0.hd
    exact ⟨(p.1, p.2.1 + sh, p.2.2), by unfold shifted; rw [List.getElem?_map, e]; rfl, e1⟩
  · obtain ⟨b1, b2, b3, b4, b5, b6⟩ := bd p hp
    exact ⟨b1, b2, by omega, by omega, by omega, by omega⟩
theorem bent_sml {ps : List Pc} {t e : Int} (h : Sml ps) (hb : ∀ p ∈ ps, -1990 ≤ p.2.1 ∧ p.2.1 ≤ 1990 ∧ -4 ≤ p.2.2 ∧ p.2.2 ≤ 4) (t1 : 0 ≤ t) (t2 : t ≤ 3) (e1 : -1 ≤ e) (e2 : e ≤ 1) : Sml (bent t e ps) := by
  have hne : ps ≠ [] := h.ok.ne
  have hs := last_split hne
  have hdays : (bent t e ps).map (·.1) = ps.map (·.1) := by
    conv => rhs; rw [hs]
    unfold bent
    simp
  refine ⟨asc_of_days h.asc hdays, ?_, ?_, fun p hp => ?_⟩
  · obtain ⟨p, ep, ep1⟩ := h.hd
    have : ((bent t e ps).map (·.1))[0]? = some 0 := by rw [hdays, List.getElem?_map, ep]; simp [ep1]
    rw [List.getElem?_map] at this
    cases q : (bent t e ps)[0]? with
    | none => rw [q] at this; cases this
    | some r => rw [q] at this; simp at this; exact ⟨r, rfl, this⟩
  · have := congrArg List.length hdays
    simp at this
    rw [this]; exact h.len
  · rcases List.mem_append.mp hp with hp | hp
    · exact h.bd p ((List.dropLast_sublist _).subset hp)
    · rw [List.mem_singleton.mp hp]
      have hl := List.mem_of_getElem? (lastOf_get hne)
      obtain ⟨b1, b2, b3, b4, b5, b6⟩ := h.bd _ hl
      obtain ⟨c1, c2, c3, c4⟩ := hb _ hl
      exact ⟨b1, b2, by show _ ≤ _ - t; omega, by show _ - t ≤ _; omega, by show _ ≤ _ + e; omega, by show _ + e ≤ _; omega⟩
theorem cut_last {α : Type} (xs : List α) : cutD xs none (some (-1)) = xs.dropLast := by
  unfold cutD
  rw [HT.sIx_none]
  show (xs.drop 0).take (((-1 : Int) + (xs.length : Int)).toNat - 0) = _
  rw [List.drop_zero, List.dropLast_eq_take]
  congr 1
  omega
def spBeside : DSp := fun ds M P ex => ∃ (a : Addr) (z n : Nat) (ps : List Pc), ds = [.ref a, .lst (pcsD ps)] ∧ Pot a z M ∧ z + 450 < 2 ^ 50 ∧ 1 ≤ n ∧ n ≤ 58 ∧ Drawn 6 4 n ps ∧
  ∀ qs M', Sml qs → Pot a (z + 410) M' → Only a M M' → P (.lst (pcsD qs)) M'
theorem c_beside (S : Sps) (h1 : S (.f "_law_take") = some spTake) (h2 : S (.f "_law_of") = some spOf) (h3 : S (.f "_law_pieces") = some spLawPieces) (h4 : S (.f "_law_amount") = some spAmount) (ds M P ex) (h : spBeside ds M P ex) : wBody n_5_law_beside (r_5_law_beside S) ds M P ex := by
  obtain ⟨a, z, n, ps, rfl, hp, hz, n1, n2, hD, h⟩ := h
  have sl := sizeLine_eq
  unfold wBody r_5_law_beside
  refine seq_cut (fun ρ' M1 => ∃ w sh : Int, ρ' = [some (.ref a), some (.lst (pcsD ps)), some (.int w), some (.int sh), none, none, none, none] ∧ Pot a (z + 2) M1 ∧ Only a M M1 ∧ -2 ≤ sh ∧ sh ≤ 2) (fun K hK => ?_) ?_
  · simp [wSeq, wRet, wRetN, wSet, wDrop, wIf, wNext, wBrk, wCnt, wOr, wAnd, wOrT, wAndT, wNot, wNotT, wTru, wIfE, wOpX, wUnX, wVar, wC, eget, eset, wCons, wNil, wTup, wLst, wB, one, wCall, oS, wPar, wPar3, wAsg, wLM, oA, refD, dgN, dgCons, dgNil, dgTup, binO, addO, subO, mulO, fdivO, modO, powO, cmpO, relO, isO, eqO, neO, oII, truD, Br, negO, isNon, oD, oL, sFalse, eFalse, wStar, notK, n_5_law_beside, startD, h1]
    refine ⟨a, _, _, rfl, hp, by omega, by decide, by unfold Bt; decide, fun w M1 w0 w1 p1 o1 => ?_⟩
    refine ⟨a, _, _, rfl, p1, by omega, by decide, by unfold Bt; decide, fun sh M2 s0 s1 p2 o2 => ?_⟩
    refine ⟨by omega, hK _ _ ⟨w, sh - 2, rfl, p2, o1.trans o2, by omega, by omega⟩⟩
  rintro ρ1 M1 ⟨w, sh, rfl, p1, o1, s1, s2⟩
  refine seq_cut (fun ρ' M2 => M2 = M1 ∧ ρ' = [some (.ref a), some (.lst (pcsD ps)), some (.int w), some (.int sh), none, none, none, none]) (fun K hK => ?_) ?_
  · simp [wSeq, wRet, wRetN, wSet, wDrop, wIf, wNext, wBrk, wCnt, wOr, wAnd, wOrT, wAndT, wNot, wNotT, wTru, wIfE, wOpX, wUnX, wVar, wC, eget, eset, wCons, wNil, wTup, wLst, wB, one, wCall, oS, wPar, wPar3, wAsg, wLM, oA, refD, dgN, dgCons, dgNil, dgTup, binO, addO, subO, mulO, fdivO, modO, powO, cmpO, relO, isO, eqO, neO, oII, truD, Br, negO, isNon, oD, oL, sFalse, eFalse, wStar, notK, h3, h4, eqD_ii]
    refine ⟨fun hw => ⟨a, _, rfl, p1, by omega, fun r M2 hr p2 o2 => ?_⟩, fun hw => hK _ _ ⟨rfl, rfl⟩⟩
    have go : ∀ am : Nat, r = am → 1 ≤ am → am ≤ 58 → spLawPieces [.ref a, .int r, .int 6, .int 4] M2 (exitP P) fun x d M' => ex x d M' := fun am e a1 a2 => by
      subst e
      exact ⟨a, _, am, 6, 4, rfl, p2, by omega, a1, a2, by decide, by decide, by decide, by decide, fun n' qs M3 b1 b2 hq p3 o3 => exitP_refl (h qs M3 (hq.sml b1 (by omega)) (p3.mono (by omega)) ((o1.trans o2).trans o3))⟩
    rcases hr with rfl | rfl
    · exact go 6 rfl (by decide) (by decide)
    · exact go 58 rfl (by decide) (by decide)
  rintro ρ2 M2 ⟨rfl, rfl⟩
  obtain ⟨r1, r2⟩ := shifted_sml hD n1 n2 s1 s2
  have rl : (shifted sh ps).length ≤ 58 := r1.len
  have pl : ps.length ≤ 58 := by rw [hD.len]; exact n2
  refine seq_cut (fun ρ' M3 => M3 = M2 ∧ ρ' = [some (.ref a), some (.lst (pcsD ps)), some (.int w), some (.int sh), none, none, none, some (.lst (pcsD (shifted sh ps)))]) (fun K hK => ?_) ?_
  · simp [wSeq, wRet, wRetN, wSet, wDrop, wIf, wNext, wBrk, wCnt, wOr, wAnd, wOrT, wAndT, wNot, wNotT, wTru, wIfE, wOpX, wUnX, wVar, wC, eget, eset, wCons, wNil, wTup, wLst, wB, one, wCall, oS, wPar, wPar3, wAsg, wLM, oA, refD, dgN, dgCons, dgNil, dgTup, binO, addO, subO, mulO, fdivO, modO, powO, cmpO, relO, isO, eqO, neO, oII, truD, Br, negO, isNon, oD, oL, sFalse, eFalse, wStar, notK, wLc, wIt]
    refine lc_mapA pcD (fun p => pcD (p.1, p.2.1 + sh, p.2.2)) (show gd none M2 True from trivial) ps [] (fun p hp Q q => ?_) (by simp; omega) (.inl (hK _ _ ⟨rfl, ?_⟩))
    · simp [wSeq, wRet, wRetN, wSet, wDrop, wIf, wNext, wBrk, wCnt, wOr, wAnd, wOrT, wAndT, wNot, wNotT, wTru, wIfE, wOpX, wUnX, wVar, wC, eget, eset, wCons, wNil, wTup, wLst, wB, one, wCall, oS, wPar, wPar3, wAsg, wLM, oA, refD, dgN, dgCons, dgNil, dgTup, binO, addO, subO, mulO, fdivO, modO, powO, cmpO, relO, isO, eqO, neO, oII, truD, Br, negO, isNon, oD, oL, sFalse, eFalse, wStar, notK, dwipe, pcD]
      exact ⟨by omega, q⟩
    · unfold shifted pcsD
      simp
  rintro ρ3 M3 ⟨rfl, rfl⟩
  refine seq_cut (fun ρ' M4 => M4 = M3 ∧ ρ' = [some (.ref a), some (.lst (pcsD ps)), some (.int w), some (.int sh), none, none, none, some (.lst (pcsD (shifted sh ps)))]) (fun K hK => ?_) ?_
  · simp [wSeq, wRet, wRetN, wSet, wDrop, wIf, wNext, wBrk, wCnt, wOr, wAnd, wOrT, wAndT, wNot, wNotT, wTru, wIfE, wOpX, wUnX, wVar, wC, eget, eset, wCons, wNil, wTup, wLst, wB, one, wCall, oS, wPar, wPar3, wAsg, wLM, oA, refD, dgN, dgCons, dgNil, dgTup, binO, addO, subO, mulO, fdivO, modO, powO, cmpO, relO, isO, eqO, neO, oII, truD, Br, negO, isNon, oD, oL, sFalse, eFalse, wStar, notK, eqD_ii]
    exact ⟨fun hw => exitP_refl (h _ _ r1 (p1.mono (by omega)) o1), fun hw => hK _ _ ⟨rfl, rfl⟩⟩
  rintro ρ4 M4 ⟨rfl, rfl⟩
  have hne := r1.ok.ne
  refine seq_cut (fun ρ' M5 => M5 = M4 ∧ ρ' = [some (.ref a), some (.lst (pcsD ps)), some (.int w), some (.int sh), some (.int (lastOf (shifted sh ps)).1), some (.int (lastOf (shifted sh ps)).2.1), some (.int (lastOf (shifted sh ps)).2.2), some (.lst (pcsD (shifted sh ps)))]) (fun K hK => ?_) ?_
  · have s0 : seqD M4 (.lst (pcsD (shifted sh ps))) = some (pcsD (shifted sh ps)) := rfl
    simp [wSeq, wRet, wRetN, wSet, wDrop, wIf, wNext, wBrk, wCnt, wOr, wAnd, wOrT, wAndT, wNot, wNotT, wTru, wIfE, wOpX, wUnX, wVar, wC, eget, eset, wCons, wNil, wTup, wLst, wB, one, wCall, oS, wPar, wPar3, wAsg, wLM, oA, refD, dgN, dgCons, dgNil, dgTup, binO, addO, subO, mulO, fdivO, modO, powO, cmpO, relO, isO, eqO, neO, oII, truD, Br, negO, isNon, oD, oL, sFalse, eFalse, wStar, notK, ixO_seq S s0, atI_lastOf hne, pcD]
    exact hK _ _ ⟨rfl, rfl⟩
  rintro ρ5 M5 ⟨rfl, rfl⟩
  simp [wSeq, wRet, wRetN, wSet, wDrop, wIf, wNext, wBrk, wCnt, wOr, wAnd, wOrT, wAndT, wNot, wNotT, wTru, wIfE, wOpX, wUnX, wVar, wC, eget, eset, wCons, wNil, wTup, wLst, wB, one, wCall, oS, wPar, wPar3, wAsg, wLM, oA, refD, dgN, dgCons, dgNil, dgTup, binO, addO, subO, mulO, fdivO, modO, powO, cmpO, relO, isO, eqO, neO, oII, truD, Br, negO, isNon, oD, oL, sFalse, eFalse, wStar, notK, h1, h2, wSl, wP0, wP1, oCut]
  have e1 : cutD (pcsD (shifted sh ps)) none (some (-1)) = pcsD (shifted sh ps).dropLast := by
    rw [cut_last]; unfold pcsD; rw [List.map_dropLast]
  rw [e1]
  refine .inl ⟨a, _, _, rfl, p1, by omega, by decide, by unfold Bt; decide, fun t M6 t0 t1 p6 o6 => ?_⟩
  refine ⟨by omega, .inl ⟨a, _, _, _, rfl, rfl, by simp, by simp only [List.length_cons, List.length_nil]; omega, p6, by omega, fun e M7 he p7 o7 => ?_⟩⟩
  obtain ⟨x, rfl, x1, x2⟩ : ∃ x : Int, e = .int x ∧ -1 ≤ x ∧ x ≤ 1 := by
    simp at he
    rcases he with rfl | rfl | rfl <;> exact ⟨_, rfl, by omega, by omega⟩
  refine ⟨by omega, by omega, .inl ?_⟩
  simp only [lstOf]
  refine ⟨?_, .inl (exitP_refl ?_)⟩
  · rw [pcsD_len]
    simp only [List.length_cons, List.length_nil, List.length_dropLast]
    omega
  have e2 : pcsD (shifted sh ps).dropLast ++ [.tup [.int (lastOf (shifted sh ps)).1, .int ((lastOf (shifted sh ps)).2.1 - t), .int ((lastOf (shifted sh ps)).2.2 + x)]] = pcsD (bent t x (shifted sh ps)) := by
    unfold bent pcsD
    rw [List.map_append]; rfl
  rw [e2]
  exact h _ _ (bent_sml r1 r2 t0 (by omega) x1 x2) (p7.mono (by omega)) ((o1.trans o6).trans o7)
end Fs
set_option maxHeartbeats 4000000
/-! Fd06: law k05's own defs: right, law. -/
namespace Fs
open PySem PySem.Spec PyProof.Rows L2

theorem isFirst_ex (g : Int → Int) : ∃ r, IsFirst g r := by
  by_cases h : ∃ n : Nat, 0 < g n
  · have key : ∀ n : Nat, 0 < g n → ∃ e, IsFirst g (some e) := fun n => by
      induction n using Nat.strongRecOn with
      | ind n ih =>
        intro hn
        by_cases hm : ∃ m : Nat, m < n ∧ 0 < g m
        · obtain ⟨m, m1, m2⟩ := hm
          exact ih m m1 m2
        · refine ⟨n, by omega, hn, fun d hd hd2 => ?_⟩
          by_cases hz : g d ≤ 0
          · exact hz
          · exact absurd ⟨d.toNat, by omega, by rw [Int.toNat_of_nonneg hd]; omega⟩ hm
    obtain ⟨n, hn⟩ := h
    obtain ⟨e, he⟩ := key n hn
    exact ⟨_, he⟩
  · refine ⟨none, fun d hd => ?_⟩
    by_cases hz : g d ≤ 0
    · exact hz
    · exact absurd ⟨d.toNat, by rw [Int.toNat_of_nonneg hd]; omega⟩ h
theorem absI_le (i : Int) : i ≤ absI i ∧ -i ≤ absI i := by unfold absI; split <;> omega
theorem Sml.last_le {ps : List Pc} (h : Sml ps) {m : Int} (hm : (lastOf ps).1 ≤ m) : ∀ p ∈ ps, p.1 ≤ m := fun p hp => by
  obtain ⟨i, hi⟩ := List.getElem?_of_mem hp
  have hl := lastOf_get h.ok.ne
  have il := (List.getElem?_eq_some_iff.mp hi).1
  by_cases e : i = ps.length - 1
  · rw [e, hl] at hi; cases hi; exact hm
  · have := h.asc.get hi hl (by omega); omega
theorem Sml.at_last {ps : List Pc} (h : Sml ps) {m : Int} (hm : (lastOf ps).1 ≤ m) (hm2 : m ≤ 348) : -6000 ≤ vAt ps m ∧ vAt ps m ≤ 6000 := by
  have hl := lastOf_get h.ok.ne
  have e : vAt ps m = numberIn (lastOf ps) m := vAt_pc h.asc hl hm fun q hq => by
    have := (List.getElem?_eq_some_iff.mp hq).1
    have := h.ok.ne
    have : 0 < ps.length := List.length_pos_iff.mpr this
    omega
  obtain ⟨b1, b2, b3, b4, b5, b6⟩ := h.bd _ (List.mem_of_getElem? hl)
  have := mul_bd (s := 10) (far := 348) (x := m - (lastOf ps).1) b5 b6 (by decide) (by omega) (by omega)
  rw [e]
  unfold numberIn
  omega
/-- the day that the law finds -/
def fewer (A B : List Pc) (days : List Int) : List Int := days.filter fun d => decide (vAt A d < vAt B d)
theorem fewer_first {A B : List Pc} {m : Int} {Ls : List (List Pc)} {r : Option Int} (hA : Sml A) (hB : Sml B) (mA : (lastOf A).1 ≤ m) (mB : (lastOf B).1 ≤ m) (m0 : 0 ≤ m) (hN : spanN Ls m = m + (absI (vAt A m) + absI (vAt B m)) + 3)
    (h : IsFirst (fun d => vAt B d - vAt A d) r) : (fewer A B (daysD (spanN Ls m))).head? = r := by
  refine first_of (g := fun d => vAt B d - vAt A d) (fun d _ => by simp) (fun hh d hd => ?_) (fun x hx => ?_) h
  · have a1 := absI_le (vAt A m)
    have a2 := absI_le (vAt B m)
    exact far_enough (B := absI (vAt A m) + absI (vAt B m)) hA.asc hB.asc hA.ok.ne hB.ok.ne (hA.last_le mA) (hB.last_le mB) m0 (by omega) (by have := absI_nonneg (vAt A m); have := absI_nonneg (vAt B m); omega) (fun d h1 h2 => hh d h1 (by omega)) hd
  · simp at hx
    rcases hx with rfl | rfl <;> decide
def turnBody (S : Sps) : WS := (wSeq (wSet 10 (wLc (wIt (wVar 5)) (dgN 11) (wTru (wOpX (cmpO S .Lt) (wCall S "_law_at" (wCons (wVar 8) (wCons (wVar 11) wNil))) (wCall S "_law_at" (wCons (wVar 9) (wCons (wVar 11) wNil))))) (wVar 11) [11]))
 (wSeq (wIf (wTru (wOpX (cmpO S .NotEq) (wB (one dRepr) (wCons (wMeth S "first_less" (wVar 6) (wCons (wVar 7) wNil)) wNil)) (wB (one dRepr) (wCons (wIfE (wTru (wOpX (cmpO S .NotEq) (wVar 10) (wLst wNil))) (wOpX (ixO S) (wVar 10) (wC (.int 0))) (wC .non)) wNil)))) (wRet (wC (.bl false))) wNext)
 (wIf (wTru (wOpX (cmpO S .NotEq) (wB (one dRepr) (wCons (wMeth S "nowhere_above" (wVar 7) (wCons (wVar 6) wNil)) wNil)) (wB (one dRepr) (wCons (wOpX (cmpO S .Eq) (wVar 10) (wLst wNil)) wNil)))) (wRet (wC (.bl false))) wNext)))
theorem c_turn (S : Sps) (h0 : (S (.c "Stairs")).isSome) (h6 : S (.f "_law_at") = some spAt) (h7 : S (.m "Stairs" "first_less") = some spLess) (h8 : S (.m "Stairs" "nowhere_above") = some spNowhere) {A B ts us : List Pc} {N : Int}
    (hA : Sml A) (hB : Sml B) (t1 : Canon (vAt A) ts) (t2 : PsOk 42 86 58 ts) (u1 : Canon (vAt B) us) (u2 : PsOk 42 86 58 us) (n0 : 0 ≤ N) (n1 : N ≤ 10000000) (hF : ∀ r, IsFirst (fun d => vAt B d - vAt A d) r → (fewer A B (daysD N)).head? = r)
    (ex : EXS) (D : DEnds) (M : Mem) (w0 w1 w2 w3 w4 w10 w11 : Option Dt) (hK : ∀ x, D.nx [w0, w1, w2, w3, w4, some (.lst ((daysD N).map .int)), some (stD ts), some (stD us), some (.lst (pcsD A)), some (.lst (pcsD B)), x, w11] M) :
    turnBody S ex D [w0, w1, w2, w3, w4, some (.lst ((daysD N).map .int)), some (stD ts), some (stD us), some (.lst (pcsD A)), some (.lst (pcsD B)), w10, w11] M := by
  have sl := sizeLine_eq
  have dl : (daysD N).length ≤ 10000002 := by unfold daysD; simp; omega
  have dm : ∀ x ∈ daysD N, 0 ≤ x ∧ x ≤ 10 ^ 12 + 7 := fun x hx => by
    unfold daysD at hx
    simp at hx
    rcases hx with ⟨i, hi, rfl⟩ | rfl | rfl
    · omega
    · decide
    · decide
  refine seq_cut (fun ρ' M1 => M1 = M ∧ ρ' = [w0, w1, w2, w3, w4, some (.lst ((daysD N).map .int)), some (stD ts), some (stD us), some (.lst (pcsD A)), some (.lst (pcsD B)), some (.lst ((fewer A B (daysD N)).map .int)), w11]) (fun K hK => ?_) ?_
  · simp [wSeq, wRet, wRetN, wSet, wDrop, wIf, wNext, wBrk, wCnt, wOr, wAnd, wOrT, wAndT, wNot, wNotT, wTru, wIfE, wOpX, wUnX, wVar, wC, eget, eset, wCons, wNil, wTup, wLst, wB, one, wCall, oS, wPar, wPar3, wAsg, wLM, oA, refD, dgN, dgCons, dgNil, dgTup, binO, addO, subO, mulO, fdivO, modO, powO, cmpO, relO, isO, eqO, neO, oII, truD, Br, negO, isNon, oD, oL, sFalse, eFalse, wStar, notK, h6, wLc, wIt]
    refine lc_filA (fun d => decide (vAt A d < vAt B d)) .int .int (show gd none M True from trivial) _ [] (fun x hx Q1 Q2 q1 q2 => ?_) (by simp only [List.length_nil]; omega) (.inl (hK _ _ ⟨rfl, rfl⟩))
    obtain ⟨x0, x1⟩ := dm x hx
    have xB : Bt 40 x := Bt.of x0 (by omega)
    obtain ⟨a1, a2, ⟨p0, a3, a4⟩, a5⟩ := hA.ok
    obtain ⟨b1, b2, ⟨q0, b3, b4⟩, b5⟩ := hB.ok
    simp [wSeq, wRet, wRetN, wSet, wDrop, wIf, wNext, wBrk, wCnt, wOr, wAnd, wOrT, wAndT, wNot, wNotT, wTru, wIfE, wOpX, wUnX, wVar, wC, eget, eset, wCons, wNil, wTup, wLst, wB, one, wCall, oS, wPar, wPar3, wAsg, wLM, oA, refD, dgN, dgCons, dgNil, dgTup, binO, addO, subO, mulO, fdivO, modO, powO, cmpO, relO, isO, eqO, neO, oII, truD, Br, negO, isNon, oD, oL, sFalse, eFalse, wStar, notK, dwipe, h6]
    refine ⟨_, A, 40, 40, x, p0, rfl, rfl, a1, a2, xB, by decide, by omega, a3, by omega, ?_⟩
    refine ⟨_, B, 40, 40, x, q0, rfl, rfl, b1, b2, xB, by decide, by omega, b3, by omega, ?_⟩
    simp
    exact ⟨fun y => q1 (by simpa using y), fun y => q2 (by simpa using y)⟩
  rintro ρ1 M1 ⟨rfl, rfl⟩
  have eqf : ∀ d, 0 ≤ d → vAt B d - vAt A d = sumV (-1) us ts d := fun d hd => by
    unfold sumV
    rw [t1.at d hd, u1.at d hd]
    omega
  have nil : ∀ {x : List Int} {f : Bool → Prop}, f x.isEmpty → eqD M1 (.lst (x.map .int)) (.lst []) f := fun {x f} hf => eqD_nil (ds := x.map .int) (qs := x.map .int) rfl (fun _ e => by cases e) (toPys_ints x) (shaped_ints x).1 (by have := (shaped_ints x).2; omega) (by rw [List.isEmpty_map]; exact hf)
  refine seq_cut (fun ρ' M2 => M2 = M1 ∧ ρ' = [w0, w1, w2, w3, w4, some (.lst ((daysD N).map .int)), some (stD ts), some (stD us), some (.lst (pcsD A)), some (.lst (pcsD B)), some (.lst ((fewer A B (daysD N)).map .int)), w11]) (fun K hK => ?_) ?_
  · simp [wSeq, wRet, wRetN, wSet, wDrop, wIf, wNext, wBrk, wCnt, wOr, wAnd, wOrT, wAndT, wNot, wNotT, wTru, wIfE, wOpX, wUnX, wVar, wC, eget, eset, wCons, wNil, wTup, wLst, wB, one, wCall, oS, wPar, wPar3, wAsg, wLM, oA, refD, dgN, dgCons, dgNil, dgTup, binO, addO, subO, mulO, fdivO, modO, powO, cmpO, relO, isO, eqO, neO, oII, truD, Br, negO, isNon, oD, oL, sFalse, eFalse, wStar, notK, wMeth, h7, stD, show ∀ ds, clsD M1 (.ins "Stairs" ds) = some "Stairs" from fun _ => rfl, oC]
    refine ⟨ts, us, 42, 86, 58, 58, rfl, t2, u2, by decide, by decide, by decide, fun r hr => ?_⟩
    have e := hF r (hr.congr fun d hd => eqf d hd)
    have hfin : K [w0, w1, w2, w3, w4, some (.lst ((daysD N).map .int)), some (stD ts), some (stD us), some (.lst (pcsD A)), some (.lst (pcsD B)), some (.lst ((fewer A B (daysD N)).map .int)), w11] M1 := hK _ _ ⟨rfl, rfl⟩
    have hmem : ∀ x ∈ fewer A B (daysD N), x ∈ daysD N := fun x hx => (List.mem_filter.mp hx).1
    generalize fewer A B (daysD N) = fw at *
    cases r with
    | none =>
      have : fw = [] := List.head?_eq_none_iff.mp e
      subst this
      refine .inl (nil ?_)
      simp [dRepr]
      simpa [stD] using hfin
    | some x =>
      cases fw with
      | nil => cases e
      | cons y t =>
        cases e
        obtain ⟨x0, x1⟩ := dm x (hmem x (List.mem_cons_self ..))
        have xB : Bt 41 x := Bt.of x0 (by omega)
        have xl : x.natAbs.log2 < 1920 := by have := xB.log; omega
        refine ⟨xl, .inl (nil ?_)⟩
        simp
        have s0 : seqD M1 (.lst (Dt.int x :: t.map .int)) = some (Dt.int x :: t.map .int) := rfl
        rw [ixO_seq S s0, show L2.atI (Dt.int x :: t.map .int) 0 = some (.int x) from atI_nat _ 0 (by simp)]
        refine ⟨xl, ?_⟩
        exact ⟨fun h => absurd rfl h, fun _ => by simpa [stD] using hfin⟩
  rintro ρ2 M2 ⟨rfl, rfl⟩
  simp [wSeq, wRet, wRetN, wSet, wDrop, wIf, wNext, wBrk, wCnt, wOr, wAnd, wOrT, wAndT, wNot, wNotT, wTru, wIfE, wOpX, wUnX, wVar, wC, eget, eset, wCons, wNil, wTup, wLst, wB, one, wCall, oS, wPar, wPar3, wAsg, wLM, oA, refD, dgN, dgCons, dgNil, dgTup, binO, addO, subO, mulO, fdivO, modO, powO, cmpO, relO, isO, eqO, neO, oII, truD, Br, negO, isNon, oD, oL, sFalse, eFalse, wStar, notK, wMeth, h8, stD, show ∀ ds, clsD M2 (.ins "Stairs" ds) = some "Stairs" from fun _ => rfl, oC]
  refine ⟨us, ts, 42, 86, 58, 58, rfl, u2, t2, by decide, by decide, by decide, fun r hr => ?_⟩
  have e := hF r (hr.congr fun d hd => eqf d hd)
  have hfin := hK (some (.lst ((fewer A B (daysD N)).map .int)))
  generalize fewer A B (daysD N) = fw at *
  cases r with
  | none =>
    have : fw = [] := List.head?_eq_none_iff.mp e
    subst this
    refine .inl (nil ?_)
    simp [dRepr]
    simpa [stD] using hfin
  | some x =>
    cases fw with
    | nil => cases e
    | cons y t =>
      refine .inl (nil ?_)
      simp [dRepr]
      simpa [stD] using hfin
def spRight : DSp := fun ds M P ex => ∃ (a : Addr) (z : Nat), ds = [.ref a] ∧ Pot a z M ∧ z + 1000 < 2 ^ 50 ∧ ∀ M', Pot a (z + 900) M' → Only a M M' → P (.bl true) M'
theorem c_right (S : Sps) (h0 : (S (.c "Stairs")).isSome) (h1 : S (.f "_law_pieces") = some spLawPieces) (h2 : S (.f "_law_amount") = some spAmount) (h3 : S (.f "_law_beside") = some spBeside) (h4 : S (.f "_law_stairs") = some spLawStairs) (h5 : S (.f "_law_span") = some spSpan)
    (h6 : S (.f "_law_at") = some spAt) (h7 : S (.m "Stairs" "first_less") = some spLess) (h8 : S (.m "Stairs" "nowhere_above") = some spNowhere) (ds M P ex) (h : spRight ds M P ex) : wBody n_5_law_right (r_5_law_right S) ds M P ex := by
  obtain ⟨a, z, rfl, hp, hz, h⟩ := h
  have sl := sizeLine_eq
  unfold wBody r_5_law_right
  refine seq_cut (fun ρ' M1 => ∃ n ps, 1 ≤ n ∧ n ≤ 58 ∧ Drawn 6 4 n ps ∧ ρ' = [some (.ref a), some (.lst (pcsD ps)), none, none, none, none, none, none, none, none, none, none] ∧ Pot a (z + 401) M1 ∧ Only a M M1) (fun K hK => ?_) ?_
  · simp [wSeq, wRet, wRetN, wSet, wDrop, wIf, wNext, wBrk, wCnt, wOr, wAnd, wOrT, wAndT, wNot, wNotT, wTru, wIfE, wOpX, wUnX, wVar, wC, eget, eset, wCons, wNil, wTup, wLst, wB, one, wCall, oS, wPar, wPar3, wAsg, wLM, oA, refD, dgN, dgCons, dgNil, dgTup, binO, addO, subO, mulO, fdivO, modO, powO, cmpO, relO, isO, eqO, neO, oII, truD, Br, negO, isNon, oD, oL, sFalse, eFalse, wStar, notK, n_5_law_right, startD, h1, h2]
    refine ⟨a, _, rfl, hp, by omega, fun r M2 hr p2 o2 => ?_⟩
    have go : ∀ (am : Nat) (K2 : DK), r = am → 1 ≤ am → am ≤ 58 → (∀ n qs M3, 1 ≤ n → n ≤ 58 → Drawn 6 4 n qs → Pot a (z + 401) M3 → Only a M M3 → K2 (.lst (pcsD qs)) M3) → spLawPieces [.ref a, .int r, .int 6, .int 4] M2 K2 fun x d M' => ex x d M' := fun am K2 e a1 a2 hk => by
      subst e
      exact ⟨a, _, am, 6, 4, rfl, p2, by omega, a1, a2, by decide, by decide, by decide, by decide, fun n' qs M3 b1 b2 hq p3 o3 => hk n' qs M3 b1 (by omega) hq (p3.mono (by omega)) (o2.trans o3)⟩
    rcases hr with rfl | rfl
    · exact go 6 _ rfl (by decide) (by decide) fun n qs M3 b1 b2 b3 b4 b5 => hK _ _ ⟨n, qs, b1, b2, b3, rfl, b4, b5⟩
    · exact go 58 _ rfl (by decide) (by decide) fun n qs M3 b1 b2 b3 b4 b5 => hK _ _ ⟨n, qs, b1, b2, b3, rfl, b4, b5⟩
  rintro ρ1 M1 ⟨n, ps, n1, n2, hD, rfl, p1, o1⟩
  have hA := hD.sml n1 n2
  refine seq_cut (fun ρ' M2 => ∃ qs, Sml qs ∧ ρ' = [some (.ref a), some (.lst (pcsD ps)), some (.lst (pcsD qs)), none, none, none, none, none, none, none, none, none] ∧ Pot a (z + 900) M2 ∧ Only a M M2) (fun K hK => ?_) ?_
  · simp [wSeq, wRet, wRetN, wSet, wDrop, wIf, wNext, wBrk, wCnt, wOr, wAnd, wOrT, wAndT, wNot, wNotT, wTru, wIfE, wOpX, wUnX, wVar, wC, eget, eset, wCons, wNil, wTup, wLst, wB, one, wCall, oS, wPar, wPar3, wAsg, wLM, oA, refD, dgN, dgCons, dgNil, dgTup, binO, addO, subO, mulO, fdivO, modO, powO, cmpO, relO, isO, eqO, neO, oII, truD, Br, negO, isNon, oD, oL, sFalse, eFalse, wStar, notK, h3]
    exact ⟨a, _, n, ps, rfl, p1, by omega, n1, n2, hD, fun qs M2 hq p2 o2 => hK _ _ ⟨qs, hq, rfl, p2.mono (by omega), o1.trans o2⟩⟩
  rintro ρ2 M2 ⟨qs, hB, rfl, p2, o2⟩
  refine seq_cut (fun ρ' M3 => ∃ ts us m, M3 = M2 ∧ Canon (vAt ps) ts ∧ PsOk 42 86 58 ts ∧ Canon (vAt qs) us ∧ PsOk 42 86 58 us ∧ (lastOf ps).1 ≤ m ∧ (lastOf qs).1 ≤ m ∧ 0 ≤ m ∧ m ≤ 348 ∧
    ρ' = [some (.ref a), some (.lst (pcsD ps)), some (.lst (pcsD qs)), some (stD ts), some (stD us), some (.lst ((daysD (spanN [ps, qs] m)).map .int)), none, none, none, none, none, none]) (fun K hK => ?_) ?_
  · simp [wSeq, wRet, wRetN, wSet, wDrop, wIf, wNext, wBrk, wCnt, wOr, wAnd, wOrT, wAndT, wNot, wNotT, wTru, wIfE, wOpX, wUnX, wVar, wC, eget, eset, wCons, wNil, wTup, wLst, wB, one, wCall, oS, wPar, wPar3, wAsg, wLM, oA, refD, dgN, dgCons, dgNil, dgTup, binO, addO, subO, mulO, fdivO, modO, powO, cmpO, relO, isO, eqO, neO, oII, truD, Br, negO, isNon, oD, oL, sFalse, eFalse, wStar, notK, h4, h5]
    refine ⟨_, ps, 40, 40, rfl, rfl, hA.ok.mono (Nat.le_refl _) (Nat.le_refl _) (by omega), by decide, fun ts t1 t2 t3 => ?_⟩
    refine ⟨_, qs, 40, 40, rfl, rfl, hB.ok.mono (Nat.le_refl _) (Nat.le_refl _) (by omega), by decide, fun us u1 u2 u3 => ?_⟩
    refine ⟨by omega, .inl ⟨[ps, qs], 40, 40, rfl, by simp, by simp, fun x hx => ?_, by decide, fun m m1 m2 => ?_⟩⟩
    · simp at hx
      rcases hx with rfl | rfl
      · exact hA.ok.mono (Nat.le_refl _) (Nat.le_refl _) (by omega)
      · exact hB.ok.mono (Nat.le_refl _) (Nat.le_refl _) (by omega)
    · have b1 := hA.bd _ (List.mem_of_getElem? (lastOf_get hA.ok.ne))
      have b2 := hB.bd _ (List.mem_of_getElem? (lastOf_get hB.ok.ne))
      have c1 := m2 ps (by simp)
      have c2 := m2 qs (by simp)
      have m3 : m ≤ 348 := by
        simp at m1
        rcases m1 with rfl | rfl
        · exact b1.2.1
        · exact b2.2.1
      have v1 := hA.at_last c1 m3
      have v2 := hB.at_last c2 m3
      have eN : spanN [ps, qs] m = m + (absI (vAt ps m) + (absI (vAt qs m) + 0)) + 3 := rfl
      have w1 : 0 ≤ absI (vAt ps m) ∧ absI (vAt ps m) ≤ 6000 := by unfold absI; split <;> omega
      have w2 : 0 ≤ absI (vAt qs m) ∧ absI (vAt qs m) ≤ 6000 := by unfold absI; split <;> omega
      refine ⟨by omega, by omega, hK _ _ ⟨ts, us, m, rfl, t1, t1.ps t2 (by have := hA.len; omega), u1, u1.ps u2 (by have := hB.len; omega), c1, c2, by omega, m3, rfl⟩⟩
  rintro ρ3 M3 ⟨ts, us, m, rfl, t1, t2, u1, u2, c1, c2, m0, m3, rfl⟩
  have hF1 : ∀ r, IsFirst (fun d => vAt qs d - vAt ps d) r → (fewer ps qs (daysD (spanN [ps, qs] m))).head? = r := fun r hr => fewer_first hA hB c1 c2 m0 (by simp [spanN]) hr
  have hF2 : ∀ r, IsFirst (fun d => vAt ps d - vAt qs d) r → (fewer qs ps (daysD (spanN [ps, qs] m))).head? = r := fun r hr => fewer_first hB hA c2 c1 m0 (by simp [spanN]; omega) hr
  have v1 := hA.at_last c1 m3
  have v2 := hB.at_last c2 m3
  have eN : spanN [ps, qs] m = m + (absI (vAt ps m) + (absI (vAt qs m) + 0)) + 3 := rfl
  have w1 : 0 ≤ absI (vAt ps m) ∧ absI (vAt ps m) ≤ 6000 := by unfold absI; split <;> omega
  have w2 : 0 ≤ absI (vAt qs m) ∧ absI (vAt qs m) ≤ 6000 := by unfold absI; split <;> omega
  have N0 : 0 ≤ spanN [ps, qs] m := by omega
  have N1 : spanN [ps, qs] m ≤ 10000000 := by omega
  generalize spanN [ps, qs] m = N at *
  refine seq_cut (fun ρ' M4 => M4 = M3 ∧ ∃ w6 w7 w8 w9 w10 w11, ρ' = [some (.ref a), some (.lst (pcsD ps)), some (.lst (pcsD qs)), some (stD ts), some (stD us), some (.lst ((daysD N).map .int)), w6, w7, w8, w9, w10, w11]) (fun K hK => ?_) ?_
  · show wFor _ _ (turnBody S) _ _ _ _
    simp only [wFor, wIt, wTup, wCons, wNil, wVar, eget]
    refine ⟨by simp only [List.length_cons, List.length_nil]; omega, by simp only [List.length_cons, List.length_nil]; omega, by simp only [List.length_cons, List.length_nil]; omega, ?_⟩
    simp only [forL, gd, dgTup, dgCons, dgN, dgNil, eset, List.length_cons, List.length_nil]
    refine ⟨trivial, c_turn S h0 h6 h7 h8 hA hB t1 t2 u1 u2 N0 N1 hF1 _ _ _ _ _ _ _ _ _ _ fun x => ⟨trivial, c_turn S h0 h6 h7 h8 hB hA u1 u2 t1 t2 N0 N1 hF2 _ _ _ _ _ _ _ _ _ _ fun y => hK _ _ ⟨rfl, _, _, _, _, _, _, rfl⟩⟩⟩
  rintro ρ4 M4 ⟨rfl, w6, w7, w8, w9, w10, w11, rfl⟩
  have self : ∀ r, IsFirst (sumV (-1) ts ts) r → r = none := fun r hr => by
    cases r with
    | none => rfl
    | some x => have := hr.2.1; unfold sumV at this; omega
  have sc : ∀ ds : List Dt, clsD M4 (.ins ("Stairs" : Str) ds) = some ("Stairs" : Str) := fun _ => rfl
  simp [wSeq, wRet, wRetN, wSet, wDrop, wIf, wNext, wBrk, wCnt, wOr, wAnd, wOrT, wAndT, wNot, wNotT, wTru, wIfE, wOpX, wUnX, wVar, wC, eget, eset, wCons, wNil, wTup, wLst, wB, one, wCall, oS, wPar, wPar3, wAsg, wLM, oA, refD, dgN, dgCons, dgNil, dgTup, binO, addO, subO, mulO, fdivO, modO, powO, cmpO, relO, isO, eqO, neO, oII, truD, Br, negO, isNon, oD, oL, sFalse, eFalse, wStar, notK, wMeth, h7, h8, stD, sc, oC]
  refine ⟨ts, ts, 42, 86, 58, 58, rfl, t2, t2, by decide, by decide, by decide, fun r hr => ?_⟩
  cases self r hr
  simp [wSeq, wRet, wRetN, wSet, wDrop, wIf, wNext, wBrk, wCnt, wOr, wAnd, wOrT, wAndT, wNot, wNotT, wTru, wIfE, wOpX, wUnX, wVar, wC, eget, eset, wCons, wNil, wTup, wLst, wB, one, wCall, oS, wPar, wPar3, wAsg, wLM, oA, refD, dgN, dgCons, dgNil, dgTup, binO, addO, subO, mulO, fdivO, modO, powO, cmpO, relO, isO, eqO, neO, oII, truD, Br, negO, isNon, oD, oL, sFalse, eFalse, wStar, notK, sc, h7]
  refine ⟨ts, ts, 42, 86, 58, 58, rfl, t2, t2, by decide, by decide, by decide, fun r hr => ?_⟩
  cases self r hr
  simp [wSeq, wRet, wRetN, wSet, wDrop, wIf, wNext, wBrk, wCnt, wOr, wAnd, wOrT, wAndT, wNot, wNotT, wTru, wIfE, wOpX, wUnX, wVar, wC, eget, eset, wCons, wNil, wTup, wLst, wB, one, wCall, oS, wPar, wPar3, wAsg, wLM, oA, refD, dgN, dgCons, dgNil, dgTup, binO, addO, subO, mulO, fdivO, modO, powO, cmpO, relO, isO, eqO, neO, oII, truD, Br, negO, isNon, oD, oL, sFalse, eFalse, wStar, notK, eoD]
  exact exitP_refl (h M4 p2 o2)

def spLaw : DSp := fun ds M P ex => ∃ ns : List Int, ds = [.scr ns] ∧ P (.bl true) M
theorem c_law5 (S : Sps) (h1 : S (.f "_law_cells") = some spCells) (h2 : S (.f "_law_draws") = some spDraws) (h3 : S (.f "_law_right") = some spRight) (ds M P ex) (h : spLaw ds M P ex) : wBody n_5law (r_5law S) ds M P ex := by
  obtain ⟨ns, rfl, h⟩ := h
  have sl := sizeLine_eq
  have sq : ∀ M', seqD M' (.scr ns) = some (ns.map .int) := fun _ => rfl
  unfold wBody r_5law
  refine seq_cut (fun ρ' M1 => Mem.Le M M1) (fun K hK => ?_) ?_
  · simp [wSeq, wRet, wRetN, wSet, wDrop, wIf, wNext, wBrk, wCnt, wOr, wAnd, wOrT, wAndT, wNot, wNotT, wTru, wIfE, wOpX, wUnX, wVar, wC, eget, eset, wCons, wNil, wTup, wLst, wB, one, wCall, oS, wPar, wPar3, wAsg, wLM, oA, refD, dgN, dgCons, dgNil, dgTup, binO, addO, subO, mulO, fdivO, modO, powO, cmpO, relO, isO, eqO, neO, oII, truD, Br, negO, isNon, oD, oL, sFalse, eFalse, wStar, notK, n_5law, startD, h1, wFor, wIt]
    refine ⟨_, _, 6, rfl, sq _, by decide, ?_⟩
    simp
    refine for_inv (fun i ρ M' => Mem.Le M M' ∧ ∃ w1 w2 w3, ρ = [some (.scr ns), w1, w2, w3]) (fun _ _ _ _ => trivial) ⟨Mem.Le.refl _, _, _, _, rfl⟩ (fun ρ M' hi => hK _ _ hi.1) ?_
    rintro i d ρ M' K2 hd ⟨le, w1, w2, w3, rfl⟩ hK2
    obtain ⟨j, hj, rfl⟩ : ∃ j : Nat, j < 10 ∧ d = .int j := by
      unfold rgD at hd
      rw [List.getElem?_map] at hd
      simp at hd
      obtain ⟨j, hj, rfl⟩ := hd
      have hm := List.mem_range.mp (List.mem_of_getElem? hj)
      have : cellsN 6 (ns.length : Int) ≤ 6 := by unfold cellsN maxI minI; split <;> split <;> omega
      exact ⟨j, by omega, rfl⟩
    simp only [dgN, eset]
    refine seq_cut (fun ρ' M1 => ∃ a, M' a = none ∧ Pot a 0 M1 ∧ Only a M' M1 ∧ ρ' = [some (.scr ns), some (.int j), some (.ref a), w3]) (fun K hK => ?_) ?_
    · simp [wSeq, wRet, wRetN, wSet, wDrop, wIf, wNext, wBrk, wCnt, wOr, wAnd, wOrT, wAndT, wNot, wNotT, wTru, wIfE, wOpX, wUnX, wVar, wC, eget, eset, wCons, wNil, wTup, wLst, wB, one, wCall, oS, wPar, wPar3, wAsg, wLM, oA, refD, dgN, dgCons, dgNil, dgTup, binO, addO, subO, mulO, fdivO, modO, powO, cmpO, relO, isO, eqO, neO, oII, truD, Br, negO, isNon, oD, oL, sFalse, eFalse, wStar, notK, h2]
      exact ⟨_, ns, j, rfl, sq _, by omega, fun a M1 ha hp ho => hK _ _ ⟨a, ha, hp, ho, rfl⟩⟩
    rintro ρ1 M1 ⟨a, ha, p1, o1, rfl⟩
    simp [wSeq, wRet, wRetN, wSet, wDrop, wIf, wNext, wBrk, wCnt, wOr, wAnd, wOrT, wAndT, wNot, wNotT, wTru, wIfE, wOpX, wUnX, wVar, wC, eget, eset, wCons, wNil, wTup, wLst, wB, one, wCall, oS, wPar, wPar3, wAsg, wLM, oA, refD, dgN, dgCons, dgNil, dgTup, binO, addO, subO, mulO, fdivO, modO, powO, cmpO, relO, isO, eqO, neO, oII, truD, Br, negO, isNon, oD, oL, sFalse, eFalse, wStar, notK, h3, wLc, wRng1]
    refine ⟨by unfold rgOk; decide, ?_⟩
    rw [show rangeD 0 3 = [.int 0, .int 1, .int 2] from rfl]
    simp only [lcL, gd, dgN, wYes, br_true, dwipe, eset, wCall, h3, oS, wCons, wVar, eget, wNil]
    refine ⟨a, 0, rfl, p1, by omega, fun M2 p2 o2 => ⟨by simp only [List.length_nil]; omega, a, _, rfl, p2, by omega, fun M3 p3 o3 => ⟨by simp only [List.length_cons, List.length_append, List.length_nil]; omega, a, _, rfl, p3, by omega, fun M4 p4 o4 => ⟨by simp only [List.length_cons, List.length_append, List.length_nil]; omega, .inl ?_⟩⟩⟩⟩
    simp [dAll, listD, oBs, blsD, oL]
    refine hK2 _ _ ⟨fun b o hb => ?_, _, _, _, rfl⟩
    have hb1 := le b o hb
    have hba : b ≠ a := fun e => by rw [e, ha] at hb1; cases hb1
    rw [(((o1.trans o2).trans o3).trans o4) b hba]
    exact hb1
  · intro ρ1 M1 le
    simp [wSeq, wRet, wRetN, wSet, wDrop, wIf, wNext, wBrk, wCnt, wOr, wAnd, wOrT, wAndT, wNot, wNotT, wTru, wIfE, wOpX, wUnX, wVar, wC, eget, eset, wCons, wNil, wTup, wLst, wB, one, wCall, oS, wPar, wPar3, wAsg, wLM, oA, refD, dgN, dgCons, dgNil, dgTup, binO, addO, subO, mulO, fdivO, modO, powO, cmpO, relO, isO, eqO, neO, oII, truD, Br, negO, isNon, oD, oL, sFalse, eFalse, wStar, notK]
    exact ⟨_, M, .drop le .refl, h⟩
end Fs
set_option maxHeartbeats 4000000
/-! Fe1: what may be called, from what keeps its promise. -/
namespace Fs
open PySem PySem.Spec PyProof.Rows L2
section
variable {P : Program} {w : World} {K : PySem.W.Frag} {mg : Str → Option Value} {base : Heap} {CX : CXT} {k : Nat} {f : Addr} {fd : FuncData} {ps : List Str} {sp : DSp}
theorem fnr_all (O : FnOk P w K mg base CX k f fd ps (toSp K sp)) (hb : Binds K fd ps []) : FnR P w K mg base CX k f (toSp K sp) :=
  (O.raw hb .nil).imp fun vs H Q E h => by
    show toSp K sp (vs ++ []) H Q E
    rw [List.append_nil]; exact h
theorem fnr_dfl {req : Nat} {dv : List Dt} {dvs : List V} (O : FnOk P w K mg base CX k f fd ps (toSp K sp)) (hd : ∀ F, IsDs K F dv dvs) (hb : ∀ j, j ≤ dv.length → ∃ ds, Vals (dvs.drop j) ds ∧ Binds K fd ps ds) : FnR P w K mg base CX k f (toSp K (dfl req dv sp)) := by
  intro A outer s H us vs Q E hr e0 r hs
  obtain ⟨G, F, ds, M, Pp, ex, R, i, ⟨h1, h2, h⟩, hk, hkx⟩ := hs
  obtain ⟨xs, hx, hB⟩ := hb (ds.length - req) (by omega)
  exact (O.raw hB hx) A outer s H us vs Q E hr e0 r ⟨G, F, _, M, Pp, ex, R, i.append ((hd F).drop _), h, hk, hkx⟩
theorem Clb.imp {sp' : DSp} (F : Clb P w K mg base k f (toSp K sp)) (h : ∀ ds M P ex, sp' ds M P ex → sp ds M P ex) : Clb P w K mg base k f (toSp K sp') := by
  intro X h1 h2 h3 h4 h5 hr E pins σ H s us vs Q hp I r hs
  obtain ⟨G, Ff, ds, M, Pp, ex, R, i, q, hk, hkx⟩ := hs
  exact F X h1 h2 h3 h4 h5 hr E pins σ H s us vs Q hp I r ⟨G, Ff, ds, M, Pp, ex, R, i, h _ _ _ _ q, hk, hkx⟩
end
theorem sl_stairs : SlKnown "Stairs" [("own_pieces", 0)] := fun f i h => by
  unfold slotIx at h
  rw [if_pos rfl] at h
  split at h
  · rename_i e; cases h; subst e; exact List.mem_cons_self ..
  · cases h
theorem law_says {K : PySem.W.Frag} (H : Hp) (a : Addr) (ns : List Int) (hS : SqL K H a (ns.map V.int)) : toSp K spLaw [.ref a] H (fun v _ => v = .bl true) fun _ _ _ => False := by
  refine ⟨fun _ => none, H, [.scr ns], fun _ => none, fun d _ => d = .bl true, fun _ _ _ => False, ?_, ⟨_, _, rfl, ⟨a, rfl, hS⟩, rfl⟩, ⟨ns, rfl, rfl⟩, fun d M' F' H' v h _ _ i => ?_, fun _ _ _ _ _ _ h => h.elim⟩
  · refine ⟨?_, ?_, ?_, ?_, Same.refl H, ?_, ?_⟩ <;> (intro _ _ e; cases e)
  · subst h; exact i
end Fs
namespace Fs
open PySem PySem.Spec PyProof.Rows L2
/-- the walk of a law whose promise is at a CX that knows the world -/
theorem walk_ofW {lw : PySem.W.OpenLaw} {most k : Nat} {qq : Program} {ls : List Str} {XP : (Str → Option Value) → Heap → Prop} {YP : World → Heap → Prop} {dd : DefRec} {CX : World → CXT} {x : Str}
    (h1 : lw.most = some most) (h2 : most ≤ sizeLine) (h3 : dd.params.defaults = []) (h4 : Room k callerA)
    (go : ∀ (w : World) (mg : Str → Option Value) (fa : Addr) (hp : Heap), YP w hp → hp.Ns mainGlobals mg → mg dd.name = some (.ref fa) →
      ∃ (K : PySem.W.Frag) (fd : FuncData) (sp : Sp), K.In hp ∧ (∀ (s : Shared) (u : Value), BindsTo s fd ⟨[u], []⟩ [(x, u)]) ∧
        (∀ (H : Hp) (a : Addr) (ns : List Int), ns.length ≤ most → L2.Only H → SqL K H a (ns.map V.int) → sp [.ref a] H (fun v _ => v = .bl true) fun _ _ _ => False) ∧
        ∀ base : Heap, K.In base → base.Ns mainGlobals mg → FnOk lw.prog w K mg base (CX w) k fa fd [x] sp)
    (hCX : ∀ (w : World) (H : Hp) (s : Shared) (e : Value) (t : Shared), CX w [] H s (fun _ _ _ => False) e t → False) :
    PySem.W.WalkO qq ls XP YP lw.row.toRowW dd [] (fun f vs => PySem.call f vs) := by
  refine Att.attach_call h1 h3 fun w sA sB mg mb fa o pm cd doc a vs ns G Y ho hd hcd hmg hob hin hln hg => ?_
  obtain ⟨K, fd, sp, KX, hb, hsp, hF⟩ := go w mg fa _ Y G.T.g hmg
  exact law_callG KX G.T.g G.T.b G.T.builtins G.T.nolimit hg hob hin (Nat.le_trans hln h2) h4 hF hb (fun H hO hS => hsp H a ns hln hO hS) fun H e t => hCX w H sB e t
end Fs
/-! Fr6: further readings of the program's defs, printed. -/
namespace Fs
open PySem PySem.Spec PyProof.Rows L2
def n_rate_on : List Str := ["pieces", "day"]
def r_rate_on (S : Sps) : WS := (wRet (wOpX (ixO S) (wOpX (ixO S) (wVar 0) (wCall S "spot_of" (wCons (wVar 0) (wCons (wVar 1) wNil)))) (wC (.int 2))))
def n_multiplied : List Str := ["pieces", "many", "day", "value", "rate"]
def r_multiplied (S : Sps) : WS := (wRet (wCall S "told" (wCons (wLc (wIt (wVar 0)) (dgTup 3 (dgCons (dgN 2) (dgCons (dgN 3) (dgCons (dgN 4) dgNil)))) wYes (wTup (wCons (wVar 2) (wCons (wOpX (binO S .Mult) (wVar 3) (wVar 1)) (wCons (wOpX (binO S .Mult) (wVar 4) (wVar 1)) wNil)))) [2, 3, 4]) wNil)))
def n_turning : List Str := ["gap", "slope"]
def r_turning (S : Sps) : WS := (wSeq (wIf (wTru (wOpX (cmpO S .GtE) (wVar 0) (wC (.int 0)))) (wRet (wIfE (wTru (wOpX (cmpO S .Lt) (wVar 1) (wC (.int 0)))) (wOpX (binO S .Add) (wOpX (binO S .FloorDiv) (wVar 0) (wUnX (negO S) (wVar 1))) (wC (.int 1))) (wC .non))) wNext)
 (wRet (wIfE (wTru (wOpX (cmpO S .Gt) (wVar 1) (wC (.int 0)))) (wUnX (negO S) (wOpX (binO S .FloorDiv) (wVar 0) (wVar 1))) (wC .non))))
def n_greater : List Str := ["one", "other", "found", "days", "mine", "its", "end", "day", "gap", "slope", "first", "second", "far"]
def r_greater (S : Sps) : WS := (wSeq (wSet 2 (wLst wNil))
 (wSeq (wSet 3 (wCall S "days_of_both" (wCons (wVar 0) (wCons (wVar 1) wNil))))
 (wSeq (wFor (wZip3 (wCons (wCall S "on_days" (wCons (wVar 0) (wCons (wVar 3) wNil))) (wCons (wCall S "on_days" (wCons (wVar 1) (wCons (wVar 3) wNil))) (wCons (wLst (wStar (wSl oCut (wVar 3) (wP1 (wC (.int 1))) wP0) (wCons (wC .non) wNil))) wNil)))) (dgTup 3 (dgCons (dgN 4) (dgCons (dgN 5) (dgCons (dgN 6) dgNil)))) (wSeq (wSet 7 (wOpX (ixO S) (wVar 4) (wC (.int 0))))
 (wSeq (wPar 8 9 (wCons (wOpX (binO S .Sub) (wOpX (ixO S) (wVar 4) (wC (.int 1))) (wOpX (ixO S) (wVar 5) (wC (.int 1)))) (wCons (wOpX (binO S .Sub) (wOpX (ixO S) (wVar 4) (wC (.int 2))) (wOpX (ixO S) (wVar 5) (wC (.int 2)))) wNil)))
 (wSeq (wAsg (wIfE (wTru (wOpX (cmpO S .GtE) (wVar 8) (wC (.int 0)))) (wTup (wCons (wVar 4) (wCons (wVar 5) wNil))) (wTup (wCons (wVar 5) (wCons (wVar 4) wNil)))) (dgTup 2 (dgCons (dgN 10) (dgCons (dgN 11) dgNil))))
 (wSeq (wDrop (wLM lmAppend (wVar 2) (wCons (wVar 10) wNil)))
 (wSeq (wSet 12 (wCall S "turning" (wCons (wVar 8) (wCons (wVar 9) wNil))))
 (wIf (wAndT (wTru (wOpX (cmpO S .IsNot) (wVar 12) (wC .non))) (wTru (wCall S "is_ahead" (wCons (wOpX (binO S .Add) (wVar 7) (wVar 12)) (wCons (wVar 6) wNil))))) (wDrop (wLM lmAppend (wVar 2) (wCons (wTup (wCons (wOpX (binO S .Add) (wVar 7) (wVar 12)) (wCons (wOpX (binO S .Add) (wOpX (ixO S) (wVar 11) (wC (.int 1))) (wOpX (binO S .Mult) (wOpX (ixO S) (wVar 11) (wC (.int 2))) (wVar 12))) (wCons (wOpX (ixO S) (wVar 11) (wC (.int 2))) wNil)))) wNil))) wNext)))))))
 (wRet (wCall S "told" (wCons (wVar 2) wNil))))))
def n_greatest_so_far : List Str := ["pieces", "found", "best", "begin", "value", "rate", "end", "day"]
def r_greatest_so_far (S : Sps) : WS := (wSeq (wSet 1 (wLst wNil))
 (wSeq (wSet 2 (wOpX (ixO S) (wOpX (ixO S) (wVar 0) (wC (.int 0))) (wC (.int 1))))
 (wSeq (wFor (wZip2 (wCons (wVar 0) (wCons (wCall S "ends_of" (wCons (wVar 0) wNil)) wNil))) (dgTup 2 (dgCons (dgTup 3 (dgCons (dgN 3) (dgCons (dgN 4) (dgCons (dgN 5) dgNil)))) (dgCons (dgN 6) dgNil))) (wSeq (wSet 2 (wB (dMax) (wCons (wVar 2) (wCons (wVar 4) wNil))))
 (wSeq (wSet 7 (wIfE (wOrT (wTru (wOpX (cmpO S .Eq) (wVar 4) (wVar 2))) (wTru (wOpX (cmpO S .LtE) (wVar 5) (wC (.int 0))))) (wVar 3) (wOpX (binO S .Add) (wOpX (binO S .Add) (wVar 3) (wOpX (binO S .FloorDiv) (wOpX (binO S .Sub) (wVar 2) (wVar 4)) (wVar 5))) (wC (.int 1)))))
 (wIf (wOrT (wTru (wOpX (cmpO S .LtE) (wVar 5) (wC (.int 0)))) (wNotT (wTru (wCall S "is_ahead" (wCons (wVar 7) (wCons (wVar 6) wNil)))))) (wDrop (wLM lmAppend (wVar 1) (wCons (wTup (wCons (wVar 3) (wCons (wVar 2) (wCons (wC (.int 0)) wNil)))) wNil))) (wSeq (wIf (wTru (wOpX (cmpO S .Gt) (wVar 7) (wVar 3))) (wDrop (wLM lmAppend (wVar 1) (wCons (wTup (wCons (wVar 3) (wCons (wVar 2) (wCons (wC (.int 0)) wNil)))) wNil))) wNext)
 (wSeq (wDrop (wLM lmAppend (wVar 1) (wCons (wTup (wCons (wVar 7) (wCons (wOpX (binO S .Add) (wVar 4) (wOpX (binO S .Mult) (wVar 5) (wOpX (binO S .Sub) (wVar 7) (wVar 3)))) (wCons (wVar 5) wNil)))) wNil)))
 (wSet 2 (wIfE (wTru (wOpX (cmpO S .Is) (wVar 6) (wC .non))) (wVar 2) (wOpX (binO S .Add) (wVar 4) (wOpX (binO S .Mult) (wVar 5) (wOpX (binO S .Sub) (wOpX (binO S .Sub) (wVar 6) (wC (.int 1))) (wVar 3))))))))))))
 (wRet (wCall S "told" (wCons (wVar 1) wNil))))))
def n_greatest_from_here : List Str := ["pieces", "found", "best", "begin", "value", "rate", "end", "last", "day"]
def r_greatest_from_here (S : Sps) : WS := (wSeq (wIf (wTru (wOpX (cmpO S .Gt) (wOpX (ixO S) (wOpX (ixO S) (wVar 0) (wUnX (negO S) (wC (.int 1)))) (wC (.int 2))) (wC (.int 0)))) (wRet (wC .non)) wNext)
 (wSeq (wSet 1 (wLst wNil))
 (wSeq (wSet 2 (wC .non))
 (wSeq (wFor (wIt (wRev (wLZip (wCons (wVar 0) (wCons (wCall S "ends_of" (wCons (wVar 0) wNil)) wNil))))) (dgTup 2 (dgCons (dgTup 3 (dgCons (dgN 3) (dgCons (dgN 4) (dgCons (dgN 5) dgNil)))) (dgCons (dgN 6) dgNil))) (wSeq (wSet 7 (wIfE (wOrT (wTru (wOpX (cmpO S .Is) (wVar 6) (wC .non))) (wTru (wOpX (cmpO S .LtE) (wVar 5) (wC (.int 0))))) (wVar 4) (wOpX (binO S .Add) (wVar 4) (wOpX (binO S .Mult) (wVar 5) (wOpX (binO S .Sub) (wOpX (binO S .Sub) (wVar 6) (wC (.int 1))) (wVar 3))))))
 (wSeq (wIf (wTru (wOpX (cmpO S .Is) (wVar 2) (wC .non))) (wDrop (wLM lmAppend (wVar 1) (wCons (wTup (wCons (wVar 3) (wCons (wVar 4) (wCons (wVar 5) wNil)))) wNil))) (wIf (wOrT (wTru (wOpX (cmpO S .Gt) (wVar 5) (wC (.int 0)))) (wTru (wOpX (cmpO S .LtE) (wVar 4) (wVar 2)))) (wDrop (wLM lmAppend (wVar 1) (wCons (wTup (wCons (wVar 3) (wCons (wB (dMax) (wCons (wVar 7) (wCons (wVar 2) wNil))) (wCons (wC (.int 0)) wNil)))) wNil))) (wSeq (wSet 8 (wIfE (wTru (wOpX (cmpO S .Eq) (wVar 5) (wC (.int 0)))) (wVar 6) (wOpX (binO S .Sub) (wVar 3) (wOpX (binO S .FloorDiv) (wOpX (binO S .Sub) (wVar 2) (wVar 4)) (wUnX (negO S) (wVar 5))))))
 (wSeq (wIf (wTru (wCall S "is_ahead" (wCons (wVar 8) (wCons (wVar 6) wNil)))) (wDrop (wLM lmAppend (wVar 1) (wCons (wTup (wCons (wVar 8) (wCons (wVar 2) (wCons (wC (.int 0)) wNil)))) wNil))) wNext)
 (wDrop (wLM lmAppend (wVar 1) (wCons (wTup (wCons (wVar 3) (wCons (wVar 4) (wCons (wVar 5) wNil)))) wNil)))))))
 (wSet 2 (wIfE (wTru (wOpX (cmpO S .Is) (wVar 2) (wC .non))) (wVar 7) (wB (dMax) (wCons (wVar 7) (wCons (wVar 2) wNil))))))))
 (wRet (wCall S "told" (wCons (wRev (wVar 1)) wNil)))))))
def n_greatest_of : List Str := ["pieces", "some", "begin", "value", "rate", "end", "piece"]
def r_greatest_of (S : Sps) : WS := (wSeq (wIf (wTru (wOpX (cmpO S .Gt) (wOpX (ixO S) (wOpX (ixO S) (wVar 0) (wUnX (negO S) (wC (.int 1)))) (wC (.int 2))) (wC (.int 0)))) (wRet (wC .non)) wNext)
 (wSeq (wSet 1 (wLc (wIt (wVar 0)) (dgN 6) wYes (wOpX (ixO S) (wVar 6) (wC (.int 1))) [6]))
 (wSeq (wFor (wIt (wSl oCut (wLZip (wCons (wVar 0) (wCons (wCall S "ends_of" (wCons (wVar 0) wNil)) wNil))) wP0 (wP1 (wUnX (negO S) (wC (.int 1)))))) (dgTup 2 (dgCons (dgTup 3 (dgCons (dgN 2) (dgCons (dgN 3) (dgCons (dgN 4) dgNil)))) (dgCons (dgN 5) dgNil))) (wDrop (wLM lmAppend (wVar 1) (wCons (wOpX (binO S .Add) (wVar 3) (wOpX (binO S .Mult) (wVar 4) (wOpX (binO S .Sub) (wOpX (binO S .Sub) (wVar 5) (wC (.int 1))) (wVar 2)))) wNil))))
 (wRet (wB (dMax) (wCons (wVar 1) wNil))))))
def n_moved : List Str := ["pieces", "days", "later", "begin", "value", "rate"]
def r_moved (S : Sps) : WS := (wSeq (wSet 2 (wLc (wIt (wVar 0)) (dgTup 3 (dgCons (dgN 3) (dgCons (dgN 4) (dgCons (dgN 5) dgNil)))) (wTru (wOpX (cmpO S .Gt) (wVar 3) (wVar 1))) (wTup (wCons (wOpX (binO S .Sub) (wVar 3) (wVar 1)) (wCons (wVar 4) (wCons (wVar 5) wNil)))) [3, 4, 5]))
 (wRet (wCall S "told" (wCons (wLst (wCons (wTup (wCons (wC (.int 0)) (wCons (wCall S "number_on" (wCons (wVar 0) (wCons (wVar 1) wNil))) (wCons (wCall S "rate_on" (wCons (wVar 0) (wCons (wVar 1) wNil))) wNil)))) (wStar (wVar 2) wNil))) wNil))))
def n_held : List Str := ["pieces", "days", "later", "begin", "value", "rate"]
def r_held (S : Sps) : WS := (wSeq (wSet 2 (wLc (wIt (wVar 0)) (dgTup 3 (dgCons (dgN 3) (dgCons (dgN 4) (dgCons (dgN 5) dgNil)))) wYes (wTup (wCons (wOpX (binO S .Add) (wVar 3) (wVar 1)) (wCons (wVar 4) (wCons (wVar 5) wNil)))) [3, 4, 5]))
 (wRet (wCall S "told" (wCons (wIfE (wTru (wOpX (cmpO S .Eq) (wVar 1) (wC (.int 0)))) (wVar 2) (wLst (wCons (wTup (wCons (wC (.int 0)) (wCons (wOpX (ixO S) (wOpX (ixO S) (wVar 0) (wC (.int 0))) (wC (.int 1))) (wCons (wC (.int 0)) wNil)))) (wStar (wVar 2) wNil)))) wNil))))
def n_days_with : List Str := ["pieces", "number", "found", "begin", "value", "rate", "end", "last", "day"]
def r_days_with (S : Sps) : WS := (wSeq (wSet 2 (wLst wNil))
 (wSeq (wFor (wZip2 (wCons (wVar 0) (wCons (wCall S "ends_of" (wCons (wVar 0) wNil)) wNil))) (dgTup 2 (dgCons (dgTup 3 (dgCons (dgN 3) (dgCons (dgN 4) (dgCons (dgN 5) dgNil)))) (dgCons (dgN 6) dgNil))) (wSeq (wSet 7 (wIfE (wTru (wOpX (cmpO S .Is) (wVar 6) (wC .non))) (wC .non) (wOpX (binO S .Sub) (wVar 6) (wC (.int 1)))))
 (wIf (wAndT (wTru (wOpX (cmpO S .Eq) (wVar 5) (wC (.int 0)))) (wTru (wOpX (cmpO S .Eq) (wVar 4) (wVar 1)))) (wDrop (wLM lmAppend (wVar 2) (wCons (wTup (wCons (wVar 3) (wCons (wVar 7) wNil))) wNil))) (wIf (wAndT (wTru (wOpX (cmpO S .NotEq) (wVar 5) (wC (.int 0)))) (wAndT (wTru (wOpX (cmpO S .Eq) (wOpX (binO S .Mod) (wOpX (binO S .Sub) (wVar 1) (wVar 4)) (wVar 5)) (wC (.int 0)))) (wTru (wOpX (cmpO S .GtE) (wOpX (binO S .FloorDiv) (wOpX (binO S .Sub) (wVar 1) (wVar 4)) (wVar 5)) (wC (.int 0)))))) (wSeq (wSet 8 (wOpX (binO S .Add) (wVar 3) (wOpX (binO S .FloorDiv) (wOpX (binO S .Sub) (wVar 1) (wVar 4)) (wVar 5))))
 (wDrop (wLM lmExtend (wVar 2) (wCons (wOpX (binO S .Mult) (wLst (wCons (wTup (wCons (wVar 8) (wCons (wVar 8) wNil))) wNil)) (wB (one dInt) (wCons (wCall S "is_ahead" (wCons (wVar 8) (wCons (wVar 6) wNil))) wNil))) wNil)))) wNext))))
 (wRet (wCall S "joined" (wCons (wVar 2) wNil)))))
def n_joined : List Str := ["rows", "found", "first", "last"]
def r_joined (S : Sps) : WS := (wSeq (wSet 1 (wLst wNil))
 (wSeq (wFor (wIt (wVar 0)) (dgTup 2 (dgCons (dgN 2) (dgCons (dgN 3) dgNil))) (wIf (wAndT (wTru (wOpX (cmpO S .NotEq) (wVar 1) (wLst wNil))) (wAndT (wTru (wOpX (cmpO S .IsNot) (wOpX (ixO S) (wOpX (ixO S) (wVar 1) (wUnX (negO S) (wC (.int 1)))) (wC (.int 1))) (wC .non))) (wTru (wOpX (cmpO S .LtE) (wVar 2) (wOpX (binO S .Add) (wOpX (ixO S) (wOpX (ixO S) (wVar 1) (wUnX (negO S) (wC (.int 1)))) (wC (.int 1))) (wC (.int 1))))))) (wAsg (wTup (wCons (wOpX (ixO S) (wOpX (ixO S) (wVar 1) (wUnX (negO S) (wC (.int 1)))) (wC (.int 0))) (wCons (wIfE (wTru (wOpX (cmpO S .Is) (wVar 3) (wC .non))) (wC .non) (wB (dMax) (wCons (wVar 3) (wCons (wOpX (ixO S) (wOpX (ixO S) (wVar 1) (wUnX (negO S) (wC (.int 1)))) (wC (.int 1))) wNil)))) wNil))) (dgSub (wVar 1) (wUnX (negO S) (wC (.int 1))))) (wIf (wOrT (wTru (wOpX (cmpO S .Eq) (wVar 1) (wLst wNil))) (wTru (wOpX (cmpO S .IsNot) (wOpX (ixO S) (wOpX (ixO S) (wVar 1) (wUnX (negO S) (wC (.int 1)))) (wC (.int 1))) (wC .non)))) (wDrop (wLM lmAppend (wVar 1) (wCons (wTup (wCons (wVar 2) (wCons (wVar 3) wNil))) wNil))) wNext)))
 (wRet (wB (one dTuple) (wCons (wVar 1) wNil)))))
def n_check_day : List Str := ["value"]
def r_check_day (S : Sps) : WS := (wIf (wNotT (wTru (wCall S "is_integer" (wCons (wVar 0) (wCons (wC (.int 0)) wNil))))) sFalse wNext)
def n_Stairs_text : List Str := ["self", "piece", "number"]
def r_Stairs_text (S : Sps) : WS := (wRet (wSM smJoin (wC (.str ", ")) (wCons (wLc (wIt (wAttr S "own_pieces" (wVar 0))) (dgN 1) wYes (wSM smJoin (wC (.str " ")) (wCons (wLc (wIt (wVar 1)) (dgN 2) wYes (wB (one dStr) (wCons (wVar 2) wNil)) [2]) wNil)) [1]) wNil)))
def n_Stairs_top : List Str := ["self"]
def r_Stairs_top (S : Sps) : WS := (wRet (wCall S "greatest_of" (wCons (wAttr S "own_pieces" (wVar 0)) wNil)))
def n_Stairs_bottom : List Str := ["self", "found"]
def r_Stairs_bottom (S : Sps) : WS := (wSeq (wSet 1 (wAttr S "top" (wUnX (negO S) (wVar 0))))
 (wRet (wIfE (wTru (wOpX (cmpO S .Is) (wVar 1) (wC .non))) (wC .non) (wUnX (negO S) (wVar 1)))))
def n_Stairs_so_far : List Str := ["self"]
def r_Stairs_so_far (S : Sps) : WS := (wRet (wCall S "Stairs" (wCons (wCall S "greatest_so_far" (wCons (wAttr S "own_pieces" (wVar 0)) wNil)) wNil)))
def n_Stairs_from_here : List Str := ["self", "found"]
def r_Stairs_from_here (S : Sps) : WS := (wSeq (wSet 1 (wCall S "greatest_from_here" (wCons (wAttr S "own_pieces" (wVar 0)) wNil)))
 (wSeq (wIf (wTru (wOpX (cmpO S .Is) (wVar 1) (wC .non))) sFalse wNext)
 (wRet (wCall S "Stairs" (wCons (wVar 1) wNil)))))
def n_Stairs_moved : List Str := ["self", "days"]
def r_Stairs_moved (S : Sps) : WS := (wSeq (wDrop (wCall S "check_day" (wCons (wVar 1) wNil)))
 (wRet (wCall S "Stairs" (wCons (wCall S "moved_pieces" (wCons (wAttr S "own_pieces" (wVar 0)) (wCons (wVar 1) wNil))) wNil))))
def n_Stairs_held : List Str := ["self", "days"]
def r_Stairs_held (S : Sps) : WS := (wSeq (wDrop (wCall S "check_day" (wCons (wVar 1) wNil)))
 (wRet (wCall S "Stairs" (wCons (wCall S "held_pieces" (wCons (wAttr S "own_pieces" (wVar 0)) (wCons (wVar 1) wNil))) wNil))))
def n_Stairs_days_of : List Str := ["self", "number"]
def r_Stairs_days_of (S : Sps) : WS := (wSeq (wIf (wNotT (wTru (wCall S "is_integer" (wCons (wVar 1) wNil)))) sFalse wNext)
 (wRet (wCall S "days_with" (wCons (wAttr S "own_pieces" (wVar 0)) (wCons (wVar 1) wNil)))))
def n_Stairs___getitem__ : List Str := ["self", "day"]
def r_Stairs___getitem__ (S : Sps) : WS := (wSeq (wDrop (wCall S "check_day" (wCons (wVar 1) wNil)))
 (wRet (wCall S "number_on" (wCons (wAttr S "own_pieces" (wVar 0)) (wCons (wVar 1) wNil)))))
def n_Stairs___len__ : List Str := ["self"]
def r_Stairs___len__ (S : Sps) : WS := (wRet (wB (one dLen) (wCons (wAttr S "own_pieces" (wVar 0)) wNil)))
def n_Stairs___add__ : List Str := ["self", "other"]
def r_Stairs___add__ (S : Sps) : WS := (wSeq (wIf (wNotT (wTru (wB (dIsi S) (wCons (wVar 1) (wCons (wC (.glo "Stairs")) wNil))))) (wRet eFalse) wNext)
 (wRet (wCall S "Stairs" (wCons (wCall S "summed" (wCons (wAttr S "own_pieces" (wVar 0)) (wCons (wAttr S "pieces" (wVar 1)) (wCons (wC (.int 1)) wNil)))) wNil))))
def n_Stairs___neg__ : List Str := ["self"]
def r_Stairs___neg__ (S : Sps) : WS := (wRet (wCall S "Stairs" (wCons (wCall S "multiplied" (wCons (wAttr S "own_pieces" (wVar 0)) (wCons (wUnX (negO S) (wC (.int 1))) wNil))) wNil)))
def n_Stairs___mul__ : List Str := ["self", "many"]
def r_Stairs___mul__ (S : Sps) : WS := (wSeq (wIf (wNotT (wTru (wCall S "is_integer" (wCons (wVar 1) wNil)))) (wRet eFalse) wNext)
 (wRet (wCall S "Stairs" (wCons (wCall S "multiplied" (wCons (wAttr S "own_pieces" (wVar 0)) (wCons (wVar 1) wNil))) wNil))))
def n_Stairs___rmul__ : List Str := ["self", "many"]
def r_Stairs___rmul__ (S : Sps) : WS := (wSeq (wIf (wNotT (wTru (wCall S "is_integer" (wCons (wVar 1) wNil)))) (wRet eFalse) wNext)
 (wRet (wCall S "Stairs" (wCons (wCall S "multiplied" (wCons (wAttr S "own_pieces" (wVar 0)) (wCons (wVar 1) wNil))) wNil))))
def n_Stairs___or__ : List Str := ["self", "other"]
def r_Stairs___or__ (S : Sps) : WS := (wSeq (wIf (wNotT (wTru (wB (dIsi S) (wCons (wVar 1) (wCons (wC (.glo "Stairs")) wNil))))) (wRet eFalse) wNext)
 (wRet (wCall S "Stairs" (wCons (wCall S "greater" (wCons (wAttr S "own_pieces" (wVar 0)) (wCons (wAttr S "pieces" (wVar 1)) wNil))) wNil))))
def n_Stairs___and__ : List Str := ["self", "other"]
def r_Stairs___and__ (S : Sps) : WS := (wSeq (wIf (wNotT (wTru (wB (dIsi S) (wCons (wVar 1) (wCons (wC (.glo "Stairs")) wNil))))) (wRet eFalse) wNext)
 (wRet (wUnX (negO S) (wOpX (binO S .BitOr) (wUnX (negO S) (wVar 0)) (wUnX (negO S) (wVar 1))))))
end Fs
set_option maxHeartbeats 4000000
/-! Fc9: spots, numbers on a day, multiples, moved, held. -/
namespace Fs
open PySem PySem.Spec PyProof.Rows L2

/-! ### spots -/
def spSpotOf : DSp := fun ds M P ex => ∃ (d : Dt) (ps : List Pc) (day : Int) (p0 : Pc), ds = [d, .int day] ∧ seqD M d = some (pcsD ps) ∧ Asc ps ∧ ps[0]? = some p0 ∧
  ∀ (t : Nat) (p : Pc), ps[t]? = some p → (t = 0 ∨ p.1 ≤ day) → (∀ q, ps[t + 1]? = some q → day < q.1) → P (.int t) M
theorem half_nat (a b : Nat) : ((a : Int) + (b : Int) + 1).fdiv 2 = (((a + b + 1) / 2 : Nat) : Int) := by
  rw [Int.fdiv_eq_ediv_of_nonneg _ (by decide)]; omega
theorem c_spot_of (S : Sps) (ds M P ex) (h : spSpotOf ds M P ex) : wBody n_spot_of (r_spot_of S) ds M P ex := by
  obtain ⟨d, ps, day, p0, rfl, hq, ha, e0, h⟩ := h
  have hl := (List.getElem?_eq_some_iff.mp e0).1
  have dv : DivOk 2 := by unfold DivOk; decide
  simp [wSeq, wRet, wRetN, wSet, wDrop, wIf, wNext, wBrk, wCnt, wOr, wAnd, wOrT, wAndT, wNot, wNotT, wTru, wIfE, wOpX, wUnX, wVar, wC, eget, eset, wCons, wNil, wTup, wLst, wB, one, wCall, oS, wPar, wPar3, wAsg, wLM, oA, refD, dgN, dgCons, dgNil, dgTup, binO, addO, subO, mulO, fdivO, modO, powO, cmpO, relO, isO, eqO, neO, oII, truD, Br, negO, isNon, oD, oL, sFalse, eFalse, wStar, notK, wBody, r_spot_of, n_spot_of, startD, dLen_seq hq, pcsD_len]
  refine wh_inv (fun m ρ M' => M' = M ∧ ∃ (lo hi : Nat) (w4 : Option Dt) (pl : Pc), ρ = [some d, some (.int day), some (.int lo), some (.int hi), w4] ∧ lo ≤ hi ∧ hi < ps.length ∧ m = hi - lo ∧ ps[lo]? = some pl ∧ (lo = 0 ∨ pl.1 ≤ day) ∧ ∀ j q, hi < j → ps[j]? = some q → day < q.1) (ps.length - 1) ⟨rfl, 0, ps.length - 1, none, p0, ?_, by omega, by omega, by omega, e0, .inl rfl, fun j q h1 h2 => ?_⟩ ?_
  · have : ((ps.length : Int) - 1) = ((ps.length - 1 : Nat) : Int) := by omega
    rw [this]; rfl
  · have := (List.getElem?_eq_some_iff.mp h2).1
    omega
  rintro m ρ M' K ⟨rfl, lo, hi, w4, pl, rfl, l1, l2, l3, l4, l5, l6⟩ hK
  simp [wSeq, wRet, wRetN, wSet, wDrop, wIf, wNext, wBrk, wCnt, wOr, wAnd, wOrT, wAndT, wNot, wNotT, wTru, wIfE, wOpX, wUnX, wVar, wC, eget, eset, wCons, wNil, wTup, wLst, wB, one, wCall, oS, wPar, wPar3, wAsg, wLM, oA, refD, dgN, dgCons, dgNil, dgTup, binO, addO, subO, mulO, fdivO, modO, powO, cmpO, relO, isO, eqO, neO, oII, truD, Br, negO, isNon, oD, oL, sFalse, eFalse, wStar, notK, dv]
  refine ⟨fun hlt => ?_, fun hge => ?_⟩
  · rw [half_nat]
    obtain ⟨mi, hm⟩ : ∃ mi, (lo + hi + 1) / 2 = mi := ⟨_, rfl⟩
    rw [hm]
    have m1 : lo < mi := by omega
    have m2 : mi ≤ hi := by omega
    obtain ⟨pm, em⟩ : ∃ q, ps[mi]? = some q := ⟨_, List.getElem?_eq_getElem (by omega)⟩
    simp [ixO_seq S hq, atI_pcs em, oD, ix_pc0]
    refine ⟨fun hle => ?_, fun hgt => ?_⟩
    · exact hK (hi - mi) _ _ (by omega) ⟨rfl, mi, hi, _, pm, rfl, by omega, l2, rfl, em, .inr hle, l6⟩
    · refine hK (mi - 1 - lo) _ _ (by omega) ⟨rfl, lo, mi - 1, some (.int (mi : Int)), pl, ?_, by omega, by omega, rfl, l4, l5, fun j q h1 h2 => ?_⟩
      · have : ((mi : Int) - 1) = ((mi - 1 : Nat) : Int) := by omega
        rw [this]
      · by_cases e : j = mi
        · subst e; rw [em] at h2; cases h2; exact hgt
        · have := ha.get em h2 (by omega); omega
  · have : lo = hi := by omega
    subst this
    exact exitP_refl (h lo pl l4 l5 fun q hq' => l6 _ _ (by omega) hq')
def spNumberOn : DSp := fun ds M P ex => ∃ (d : Dt) (ps : List Pc) (a c e : Nat) (day : Int) (p0 : Pc), ds = [d, .int day] ∧ seqD M d = some (pcsD ps) ∧ Asc ps ∧ Bd a c ps ∧ Bt e day ∧ a + c + e + 10 < 1000000 ∧ ps[0]? = some p0 ∧ P (.int (vAt ps day)) M
theorem c_number_on (S : Sps) (h1 : S (.f "spot_of") = some spSpotOf) (ds M P ex) (h : spNumberOn ds M P ex) : wBody n_number_on (r_number_on S) ds M P ex := by
  obtain ⟨d, ps, a, c, e, day, p0, rfl, hq, ha, hB, he, hz, e0, h⟩ := h
  simp [wSeq, wRet, wRetN, wSet, wDrop, wIf, wNext, wBrk, wCnt, wOr, wAnd, wOrT, wAndT, wNot, wNotT, wTru, wIfE, wOpX, wUnX, wVar, wC, eget, eset, wCons, wNil, wTup, wLst, wB, one, wCall, oS, wPar, wPar3, wAsg, wLM, oA, refD, dgN, dgCons, dgNil, dgTup, binO, addO, subO, mulO, fdivO, modO, powO, cmpO, relO, isO, eqO, neO, oII, truD, Br, negO, isNon, oD, oL, sFalse, eFalse, wStar, notK, wBody, r_number_on, n_number_on, startD, h1]
  refine ⟨d, ps, day, p0, rfl, hq, ha, e0, fun t p et t1 t2 => ?_⟩
  obtain ⟨B1, B2, B3⟩ := hB.get et
  have k1 : MulOk p.2.2 (day - p.1) := mulOk_of B3 (he.sub B1 (k := a + e + 1) (by omega) (by omega)) (by omega)
  have ev := (vAt_ix ha et t1 t2).1
  simp [ixO_seq S hq, atI_pcs et, oD, pcD, k1]
  rw [ev] at h
  exact exitP_refl h
def spRateOn : DSp := fun ds M P ex => ∃ (d : Dt) (ps : List Pc) (day : Int) (p0 : Pc), ds = [d, .int day] ∧ seqD M d = some (pcsD ps) ∧ Asc ps ∧ ps[0]? = some p0 ∧ P (.int (rAt ps day)) M
theorem c_rate_on (S : Sps) (h1 : S (.f "spot_of") = some spSpotOf) (ds M P ex) (h : spRateOn ds M P ex) : wBody n_rate_on (r_rate_on S) ds M P ex := by
  obtain ⟨d, ps, day, p0, rfl, hq, ha, e0, h⟩ := h
  simp [wSeq, wRet, wRetN, wSet, wDrop, wIf, wNext, wBrk, wCnt, wOr, wAnd, wOrT, wAndT, wNot, wNotT, wTru, wIfE, wOpX, wUnX, wVar, wC, eget, eset, wCons, wNil, wTup, wLst, wB, one, wCall, oS, wPar, wPar3, wAsg, wLM, oA, refD, dgN, dgCons, dgNil, dgTup, binO, addO, subO, mulO, fdivO, modO, powO, cmpO, relO, isO, eqO, neO, oII, truD, Br, negO, isNon, oD, oL, sFalse, eFalse, wStar, notK, wBody, r_rate_on, n_rate_on, startD, h1]
  refine ⟨d, ps, day, p0, rfl, hq, ha, e0, fun t p et t1 t2 => ?_⟩
  have ev := (vAt_ix ha et t1 t2).2
  simp [ixO_seq S hq, atI_pcs et, oD, ix_pc2]
  rw [ev] at h
  exact exitP_refl h
def spCheckDay : DSp := fun ds M P ex => ∃ d : Int, ds = [.int d] ∧ 0 ≤ d ∧ P .non M
theorem c_check_day (S : Sps) (h1 : S (.f "is_integer") = some (dfl 1 [.non, .non] spIsInteger)) (ds M P ex) (h : spCheckDay ds M P ex) : wBody n_check_day (r_check_day S) ds M P ex := by
  obtain ⟨d, rfl, hd, h⟩ := h
  have z := exitP_refl h
  simp [wSeq, wRet, wRetN, wSet, wDrop, wIf, wNext, wBrk, wCnt, wOr, wAnd, wOrT, wAndT, wNot, wNotT, wTru, wIfE, wOpX, wUnX, wVar, wC, eget, eset, wCons, wNil, wTup, wLst, wB, one, wCall, oS, wPar, wPar3, wAsg, wLM, oA, refD, dgN, dgCons, dgNil, dgTup, binO, addO, subO, mulO, fdivO, modO, powO, cmpO, relO, isO, eqO, neO, oII, truD, Br, negO, isNon, oD, oL, sFalse, eFalse, wStar, notK, wBody, r_check_day, n_check_day, startD, h1]
  refine ⟨by simp, by simp, .int d, some 0, none, rfl, ?_⟩
  simp [loOk, hiOk, hd]
  exact z
/-- what stairs are of -/
theorem own_pieces (S : Sps) (h0 : (S (.c "Stairs")).isSome) (ps : List Pc) (M : Mem) (P : DK) (ex : EX) : attrO S "own_pieces" (stD ps) M P ex = P (.tup (pcsD ps)) M := by
  obtain ⟨sp, e⟩ := Option.isSome_iff_exists.mp h0
  simp [attrO, stD, show slotIx "Stairs" "own_pieces" = some 0 from by decide, e, oS, oD]
theorem prop_pieces (S : Sps) (h2 : S (.p "Stairs" "pieces") = some spPieces) (ps : List Pc) (M : Mem) (P : DK) (ex : EX) (h : P (.tup (pcsD ps)) M) : attrO S "pieces" (stD ps) M P ex := by
  simp only [attrO, stD, show slotIx "Stairs" "pieces" = none from by decide, h2, oS]
  exact ⟨_, rfl, h⟩
theorem isi_stairs (S : Sps) (h0 : (S (.c "Stairs")).isSome) (ps : List Pc) (M : Mem) (P : DK) : dIsi S [stD ps, .glo "Stairs"] M P = P (.bl true) M := by
  obtain ⟨sp, e⟩ := Option.isSome_iff_exists.mp h0
  simp [dIsi, isiO, stD, e, oS]
def spGetItem : DSp := fun ds M P ex => ∃ (ps : List Pc) (a c n e : Nat) (day : Int), ds = [stD ps, .int day] ∧ PsOk a c n ps ∧ Bt e day ∧ 0 ≤ day ∧ a + c + e + 10 < 1000000 ∧ P (.int (vAt ps day)) M
theorem c_getitem (S : Sps) (h0 : (S (.c "Stairs")).isSome) (h1 : S (.f "check_day") = some spCheckDay) (h2 : S (.f "number_on") = some spNumberOn) (ds M P ex) (h : spGetItem ds M P ex) : wBody n_Stairs___getitem__ (r_Stairs___getitem__ S) ds M P ex := by
  obtain ⟨ps, a, c, n, e, day, rfl, k, he, hd, hz, h⟩ := h
  obtain ⟨p0, e0, _⟩ := k.hd
  simp [wSeq, wRet, wRetN, wSet, wDrop, wIf, wNext, wBrk, wCnt, wOr, wAnd, wOrT, wAndT, wNot, wNotT, wTru, wIfE, wOpX, wUnX, wVar, wC, eget, eset, wCons, wNil, wTup, wLst, wB, one, wCall, oS, wPar, wPar3, wAsg, wLM, oA, refD, dgN, dgCons, dgNil, dgTup, binO, addO, subO, mulO, fdivO, modO, powO, cmpO, relO, isO, eqO, neO, oII, truD, Br, negO, isNon, oD, oL, sFalse, eFalse, wStar, notK, wBody, r_Stairs___getitem__, n_Stairs___getitem__, startD, h1, h2, wAttr, own_pieces S h0]
  exact ⟨day, rfl, hd, _, ps, a, c, e, day, p0, rfl, rfl, k.asc, k.bd, he, hz, e0, exitP_refl h⟩
/-- Stairs of pieces that are told in one way -/
theorem st_wrap {f : Int → Int} {ts : List Pc} {a c n : Nat} {M : Mem} {P : DK} {ex : EX} (t1 : Canon f ts) (t2 : Bd a c ts) (t3 : ts.length ≤ n) (hn : n ≤ 5000000) (hz : 4 * (a + c) + 40 < 1000000) (h : P (stD ts) M) : spStairs [.tup (pcsD ts)] M P ex := by
  refine ⟨ts, a, c, rfl, t1.ps t2 (by omega), hz, fun us u1 _ _ => ?_⟩
  cases stairs_again t1 u1
  exact h
/-- stairs with such numbers come -/
def StOut (g : Int → Int) (a c n : Nat) (P : DK) (M : Mem) : Prop := ∀ ts, Canon g ts → Bd a c ts → ts.length ≤ n → P (stD ts) M
def PcOut (g : Int → Int) (a c n : Nat) (P : DK) (M : Mem) : Prop := ∀ ts, Canon g ts → Bd a c ts → ts.length ≤ n → P (.tup (pcsD ts)) M

/-! ### multiples -/
def mulP (k : Int) (p : Pc) : Pc := (p.1, p.2.1 * k, p.2.2 * k)
theorem asc_same {f : Pc → Pc} (hf : ∀ p, (f p).1 = p.1) : ∀ {ps : List Pc}, Asc ps → Asc (ps.map f)
  | [], _ => trivial
  | [_], _ => trivial
  | p :: q :: r, h => ⟨by rw [hf, hf]; exact h.1, asc_same hf h.2⟩
theorem num_mulP (k : Int) (p : Pc) (d : Int) : numberIn (mulP k p) d = numberIn p d * k := by
  unfold numberIn mulP
  dsimp only
  rw [Int.add_mul, Int.mul_assoc, Int.mul_assoc, Int.mul_comm k]
theorem vAt_mulP (k : Int) : ∀ {ps : List Pc} (d : Int), vAt (ps.map (mulP k)) d = vAt ps d * k
  | [], d => by simp [vAt]
  | [p], d => num_mulP k p d
  | p :: q :: r, d => by
    have ih := vAt_mulP k (ps := q :: r) d
    show (if q.1 ≤ d then vAt ((q :: r).map (mulP k)) d else numberIn (mulP k p) d) = (if q.1 ≤ d then vAt (q :: r) d else numberIn p d) * k
    split
    · exact ih
    · exact num_mulP k p d
def spMult : DSp := fun ds M P ex => ∃ (x : Dt) (ps : List Pc) (a c e n : Nat) (k : Int), ds = [x, .int k] ∧ seqF x = some (pcsD ps) ∧ PsOk a c n ps ∧ Bt e k ∧ n ≤ 5000000 ∧ 4 * (a + c + e) + 40 < 1000000 ∧ PcOut (fun d => vAt ps d * k) (a + 2) (a + c + e + 6) n P M
theorem c_multiplied (S : Sps) (h1 : S (.f "told") = some spTold) (ds M P ex) (h : spMult ds M P ex) : wBody n_multiplied (r_multiplied S) ds M P ex := by
  obtain ⟨x, ps, a, c, e, n, k, rfl, hx, ⟨k1, k2, ⟨p0, k3, k4⟩, k5⟩, he, hn, hz, h⟩ := h
  have sl := sizeLine_eq
  simp [wSeq, wRet, wRetN, wSet, wDrop, wIf, wNext, wBrk, wCnt, wOr, wAnd, wOrT, wAndT, wNot, wNotT, wTru, wIfE, wOpX, wUnX, wVar, wC, eget, eset, wCons, wNil, wTup, wLst, wB, one, wCall, oS, wPar, wPar3, wAsg, wLM, oA, refD, dgN, dgCons, dgNil, dgTup, binO, addO, subO, mulO, fdivO, modO, powO, cmpO, relO, isO, eqO, neO, oII, truD, Br, negO, isNon, oD, oL, sFalse, eFalse, wStar, notK, wBody, r_multiplied, n_multiplied, startD, h1, wLc]
  rw [wIt_var rfl hx]
  refine lc_mapA pcD (fun p => pcD (mulP k p)) (show gd none M True from trivial) ps [] (fun p hp Q q => ?_) (by simp; omega) (.inl ?_)
  · obtain ⟨B1, B2, B3⟩ := k2 p hp
    have m1 : MulOk p.2.1 k := mulOk_of B2 he (by omega)
    have m2 : MulOk p.2.2 k := mulOk_of B3 he (by omega)
    simp [wSeq, wRet, wRetN, wSet, wDrop, wIf, wNext, wBrk, wCnt, wOr, wAnd, wOrT, wAndT, wNot, wNotT, wTru, wIfE, wOpX, wUnX, wVar, wC, eget, eset, wCons, wNil, wTup, wLst, wB, one, wCall, oS, wPar, wPar3, wAsg, wLM, oA, refD, dgN, dgCons, dgNil, dgTup, binO, addO, subO, mulO, fdivO, modO, powO, cmpO, relO, isO, eqO, neO, oII, truD, Br, negO, isNon, oD, oL, sFalse, eFalse, wStar, notK, dwipe, pcD, m1, m2]
    exact ⟨by omega, q⟩
  have e1 : ps.map (fun p => pcD (mulP k p)) = pcsD (ps.map (mulP k)) := by unfold pcsD; rw [List.map_map]; rfl
  simp only [List.nil_append, e1]
  refine ⟨.lst (pcsD (ps.map (mulP k))), ps.map (mulP k), a, c + e, mulP k p0, rfl, rfl, asc_same (f := mulP k) (fun _ => rfl) k1, fun p hp => ?_, by omega, by rw [List.length_map]; omega, by rw [List.getElem?_map, k3]; rfl, k4, fun ts t1 t2 t3 => ?_⟩
  · obtain ⟨q, hq, rfl⟩ := List.mem_map.mp hp
    obtain ⟨B1, B2, B3⟩ := k2 q hq
    exact ⟨B1, B2.mul he (Nat.le_refl _), B3.mul he (Nat.le_refl _)⟩
  · exact exitP_refl (h ts (t1.congr fun d _ => (vAt_mulP k d).symm) (t2.mono (by omega) (by omega)) (by rw [List.length_map] at t3; omega))
def spNeg : DSp := fun ds M P ex => ∃ (ps : List Pc) (a c n : Nat), ds = [stD ps] ∧ PsOk a c n ps ∧ n ≤ 5000000 ∧ 8 * (a + c) + 200 < 1000000 ∧ StOut (fun d => -vAt ps d) (a + 2) (a + c + 7) n P M
theorem c_neg (S : Sps) (h0 : (S (.c "Stairs")).isSome) (h1 : S (.f "multiplied") = some spMult) (h3 : S (.f "Stairs") = some spStairs) (ds M P ex) (h : spNeg ds M P ex) : wBody n_Stairs___neg__ (r_Stairs___neg__ S) ds M P ex := by
  obtain ⟨ps, a, c, n, rfl, k, hn, hz, h⟩ := h
  simp [wSeq, wRet, wRetN, wSet, wDrop, wIf, wNext, wBrk, wCnt, wOr, wAnd, wOrT, wAndT, wNot, wNotT, wTru, wIfE, wOpX, wUnX, wVar, wC, eget, eset, wCons, wNil, wTup, wLst, wB, one, wCall, oS, wPar, wPar3, wAsg, wLM, oA, refD, dgN, dgCons, dgNil, dgTup, binO, addO, subO, mulO, fdivO, modO, powO, cmpO, relO, isO, eqO, neO, oII, truD, Br, negO, isNon, oD, oL, sFalse, eFalse, wStar, notK, wBody, r_Stairs___neg__, n_Stairs___neg__, startD, h1, h3, wAttr, own_pieces S h0]
  refine ⟨_, ps, a, c, 1, n, -1, rfl, rfl, k, by unfold Bt; decide, hn, by omega, fun ts t1 t2 t3 => ?_⟩
  exact st_wrap t1 t2 t3 hn (by omega) (exitP_refl (h ts (t1.congr fun d _ => by show -vAt ps d = vAt ps d * -1; omega) (t2.mono (by omega) (by omega)) t3))
def spMul : DSp := fun ds M P ex => ∃ (ps : List Pc) (a c e n : Nat) (k : Int), ds = [stD ps, .int k] ∧ PsOk a c n ps ∧ Bt e k ∧ n ≤ 5000000 ∧ 8 * (a + c + e) + 200 < 1000000 ∧ StOut (fun d => vAt ps d * k) (a + 2) (a + c + e + 6) n P M
theorem c_mul (S : Sps) (h0 : (S (.c "Stairs")).isSome) (h1 : S (.f "multiplied") = some spMult) (h2 : S (.f "is_integer") = some (dfl 1 [.non, .non] spIsInteger)) (h3 : S (.f "Stairs") = some spStairs) (ds M P ex) (h : spMul ds M P ex) : wBody n_Stairs___mul__ (r_Stairs___mul__ S) ds M P ex := by
  obtain ⟨ps, a, c, e, n, k, rfl, kk, he, hn, hz, h⟩ := h
  simp [wSeq, wRet, wRetN, wSet, wDrop, wIf, wNext, wBrk, wCnt, wOr, wAnd, wOrT, wAndT, wNot, wNotT, wTru, wIfE, wOpX, wUnX, wVar, wC, eget, eset, wCons, wNil, wTup, wLst, wB, one, wCall, oS, wPar, wPar3, wAsg, wLM, oA, refD, dgN, dgCons, dgNil, dgTup, binO, addO, subO, mulO, fdivO, modO, powO, cmpO, relO, isO, eqO, neO, oII, truD, Br, negO, isNon, oD, oL, sFalse, eFalse, wStar, notK, wBody, r_Stairs___mul__, n_Stairs___mul__, startD, h1, h2, h3, wAttr]
  refine ⟨by simp, by simp, .int k, none, none, rfl, ?_⟩
  simp [loOk, hiOk, own_pieces S h0]
  exact ⟨_, ps, a, c, e, n, k, rfl, rfl, kk, he, hn, by omega, fun ts t1 t2 t3 => st_wrap t1 t2 t3 hn (by omega) (exitP_refl (h ts t1 t2 t3))⟩
theorem c_rmul (S : Sps) (h0 : (S (.c "Stairs")).isSome) (h1 : S (.f "multiplied") = some spMult) (h2 : S (.f "is_integer") = some (dfl 1 [.non, .non] spIsInteger)) (h3 : S (.f "Stairs") = some spStairs) (ds M P ex) (h : spMul ds M P ex) : wBody n_Stairs___rmul__ (r_Stairs___rmul__ S) ds M P ex := by
  have := c_mul S h0 h1 h2 h3 ds M P ex h
  exact this

/-! ### sums -/
def spAdd : DSp := fun ds M P ex => ∃ (ps qs : List Pc) (a c n m : Nat), ds = [stD ps, stD qs] ∧ PsOk a c n ps ∧ PsOk a c m qs ∧ n + m + 1 < scanBound ∧ 16 * (a + c) + 200 < 1000000 ∧ StOut (sumV 1 ps qs) (a + 2) (2 * a + c + 10) (n + m) P M
theorem c_add (S : Sps) (h0 : (S (.c "Stairs")).isSome) (h1 : S (.f "summed") = some spSummed) (h2 : S (.p "Stairs" "pieces") = some spPieces) (h3 : S (.f "Stairs") = some spStairs) (ds M P ex) (h : spAdd ds M P ex) : wBody n_Stairs___add__ (r_Stairs___add__ S) ds M P ex := by
  obtain ⟨ps, qs, a, c, n, m, rfl, ⟨k1, k2, ⟨p0, k3, k4⟩, k5⟩, ⟨l1, l2, ⟨q0, l3, l4⟩, l5⟩, hn, hz, h⟩ := h
  have sb : scanBound = 4096 := rfl
  simp [wSeq, wRet, wRetN, wSet, wDrop, wIf, wNext, wBrk, wCnt, wOr, wAnd, wOrT, wAndT, wNot, wNotT, wTru, wIfE, wOpX, wUnX, wVar, wC, eget, eset, wCons, wNil, wTup, wLst, wB, one, wCall, oS, wPar, wPar3, wAsg, wLM, oA, refD, dgN, dgCons, dgNil, dgTup, binO, addO, subO, mulO, fdivO, modO, powO, cmpO, relO, isO, eqO, neO, oII, truD, Br, negO, isNon, oD, oL, sFalse, eFalse, wStar, notK, wBody, r_Stairs___add__, n_Stairs___add__, startD, h1, h3, wAttr, isi_stairs S h0, own_pieces S h0]
  refine prop_pieces S h2 qs M _ _ ?_
  refine ⟨_, _, ps, qs, a, c, 1, p0, q0, rfl, rfl, rfl, k1, l1, k2, l2, by unfold Bt; decide, by omega, k3, k4, l3, l4, by omega, fun ts t1 t2 t3 => ?_⟩
  exact st_wrap t1 t2 (n := n + m) (by omega) (by omega) (by omega) (exitP_refl (h ts t1 t2 (by omega)))

/-! ### equal -/
theorem eqvAll_pcs : ∀ (ps qs : List Pc), PyData.eqvAll (ps.map pcPy) (qs.map pcPy) = decide (ps = qs)
  | [], [] => by simp [PyData.eqvAll]
  | [], q :: qs => by simp [PyData.eqvAll]
  | p :: ps, [] => by simp [PyData.eqvAll]
  | (a, b, c) :: ps, (a', b', c') :: qs => by
    have ih := eqvAll_pcs ps qs
    simp only [List.map_cons, PyData.eqvAll, ih, pcPy, PyData.eqv]
    rw [Bool.eq_iff_iff]
    simp
theorem eqD_pcs {M : Mem} {ps qs : List Pc} {f : Bool → Prop} (h : f (decide (ps = qs))) : eqD M (.tup (pcsD ps)) (.tup (pcsD qs)) f := by
  have sh : ∀ rs : List Pc, SeqAt.shaped (.tuple (rs.map pcPy)) = true := fun rs => by
    show (PyData.canLay0 (.tuple (rs.map pcPy)) && decide (PyData.depth (.tuple (rs.map pcPy)) ≤ 64)) = true
    simp only [PyData.canLay0, PyData.depth, (shaped_pcs rs).1]
    have := (shaped_pcs rs).2
    simp; omega
  refine ⟨.tuple (ps.map pcPy), .tuple (qs.map pcPy), ?_, ?_, sh ps, sh qs, ?_⟩
  · show (toPys (pcsD ps)).map PyData.tuple = _; rw [toPys_pcs]; rfl
  · show (toPys (pcsD qs)).map PyData.tuple = _; rw [toPys_pcs]; rfl
  · show f (PyData.eqvAll _ _); rw [eqvAll_pcs]; exact h
def spEq : DSp := fun ds M P ex => ∃ (ps qs : List Pc), ds = [stD ps, stD qs] ∧ P (.bl (decide (ps = qs))) M
theorem c_eq (S : Sps) (h0 : (S (.c "Stairs")).isSome) (h2 : S (.p "Stairs" "pieces") = some spPieces) (ds M P ex) (h : spEq ds M P ex) : wBody n_Stairs___eq__ (r_Stairs___eq__ S) ds M P ex := by
  obtain ⟨ps, qs, rfl, h⟩ := h
  simp [wSeq, wRet, wRetN, wSet, wDrop, wIf, wNext, wBrk, wCnt, wOr, wAnd, wOrT, wAndT, wNot, wNotT, wTru, wIfE, wOpX, wUnX, wVar, wC, eget, eset, wCons, wNil, wTup, wLst, wB, one, wCall, oS, wPar, wPar3, wAsg, wLM, oA, refD, dgN, dgCons, dgNil, dgTup, binO, addO, subO, mulO, fdivO, modO, powO, cmpO, relO, isO, eqO, neO, oII, truD, Br, negO, isNon, oD, oL, sFalse, eFalse, wStar, notK, wBody, r_Stairs___eq__, n_Stairs___eq__, startD, wAttr, isi_stairs S h0, own_pieces S h0]
  refine prop_pieces S h2 qs M _ _ ?_
  exact eqD_pcs (exitP_refl h)

/-! ### moved, held -/
theorem filter_drop {ps : List Pc} {j : Nat} {p : Pc} {d : Int} (ha : Asc ps) (h : ps[j]? = some p) (h1 : p.1 ≤ d) (h2 : ∀ q, ps[j + 1]? = some q → d < q.1) : ps.filter (fun p => decide (d < p.1)) = ps.drop (j + 1) := by
  conv => lhs; rw [← List.take_append_drop (j + 1) ps]
  rw [List.filter_append, List.filter_eq_nil_iff.mpr, List.nil_append, List.filter_eq_self.mpr]
  · intro q hq
    obtain ⟨i, hi⟩ := List.getElem?_of_mem hq
    rw [List.getElem?_drop] at hi
    have : d < q.1 := by
      by_cases e : i = 0
      · subst e; exact h2 q hi
      · obtain ⟨q1, e1⟩ : ∃ q1, ps[j + 1]? = some q1 := ⟨_, List.getElem?_eq_getElem (by have := (List.getElem?_eq_some_iff.mp hi).1; omega)⟩
        have := h2 q1 e1
        have := ha.get e1 hi (by omega)
        omega
    simp [this]
  · intro q hq
    obtain ⟨i, hi⟩ := List.getElem?_of_mem hq
    have hil := (List.getElem?_eq_some_iff.mp hi).1
    rw [List.length_take] at hil
    rw [List.getElem?_take_of_lt (by omega)] at hi
    have : q.1 ≤ d := by
      by_cases e : i = j
      · subst e; rw [h] at hi; cases hi; exact h1
      · have := ha.get hi h (by omega); omega
    simp; omega
theorem asc_by {ps : List Pc} (h : ∀ i p q, ps[i]? = some p → ps[i + 1]? = some q → p.1 < q.1) : Asc ps := by
  induction ps with
  | nil => trivial
  | cons p r ih =>
    cases r with
    | nil => trivial
    | cons q r => exact ⟨h 0 p q rfl rfl, ih fun i x y hx hy => h (i + 1) x y (by simpa using hx) (by simpa using hy)⟩
/-- pieces by what each of them tells -/
theorem vAt_by {ps : List Pc} {p0 : Pc} {g : Int → Int} {d : Int} (ha : Asc ps) (e0 : ps[0]? = some p0) (h0 : p0.1 ≤ d) (h : ∀ i p, ps[i]? = some p → p.1 ≤ d → (∀ q, ps[i + 1]? = some q → d < q.1) → numberIn p d = g d) : vAt ps d = g d := by
  obtain ⟨j, p, _, ej, j1, j2⟩ := ix_of (d := d) ps.length 0 e0 h0 (by omega)
  rw [vAt_pc ha ej j1 j2]
  exact h j p ej j1 j2
def mvP (n : Int) (p : Pc) : Pc := (p.1 - n, p.2.1, p.2.2)
def mvL (ps : List Pc) (n : Int) (j : Nat) : List Pc := (0, vAt ps n, rAt ps n) :: (ps.drop (j + 1)).map (mvP n)
theorem mvL_get {ps : List Pc} {n : Int} {j i : Nat} : (mvL ps n j)[i + 1]? = (ps[j + 1 + i]?).map (mvP n) := by
  unfold mvL
  rw [List.getElem?_cons_succ, List.getElem?_map, List.getElem?_drop]
theorem mvL_ok {ps : List Pc} {n : Int} {j : Nat} {p : Pc} (ha : Asc ps) (h : ps[j]? = some p) (h1 : p.1 ≤ n) (h2 : ∀ q, ps[j + 1]? = some q → n < q.1) : Asc (mvL ps n j) ∧ ∀ d, 0 ≤ d → vAt (mvL ps n j) d = vAt ps (d + n) := by
  have asc : Asc (mvL ps n j) := asc_by fun i x y hx hy => by
    rw [mvL_get] at hy
    obtain ⟨y', ey, rfl⟩ := Option.map_eq_some_iff.mp hy
    cases i with
    | zero =>
      cases hx
      have := h2 y' ey
      show 0 < y'.1 - n
      omega
    | succ i =>
      rw [mvL_get] at hx
      obtain ⟨x', ex, rfl⟩ := Option.map_eq_some_iff.mp hx
      have := ha.get ex ey (by omega)
      show x'.1 - n < y'.1 - n
      omega
  refine ⟨asc, fun d hd => vAt_by (g := fun d => vAt ps (d + n)) asc rfl hd fun i x ei e1 e2 => ?_⟩
  obtain ⟨v1, v2⟩ := vAt_ix ha h (.inr h1) h2
  cases i with
  | zero =>
    cases ei
    have : vAt ps (d + n) = numberIn p (d + n) := vAt_pc ha h (by omega) fun q hq => by
      have := e2 (mvP n q) (by rw [mvL_get, show j + 1 + 0 = j + 1 from rfl, hq]; rfl)
      have h3 : d < q.1 - n := this
      omega
    rw [this]
    show vAt ps n + rAt ps n * (d - 0) = _
    rw [v1, v2]
    unfold numberIn
    have : p.2.2 * (d + n - p.1) = p.2.2 * (n - p.1) + p.2.2 * (d - 0) := by rw [← Int.mul_add]; congr 1; omega
    omega
  | succ i =>
    rw [mvL_get] at ei
    obtain ⟨x', ex, rfl⟩ := Option.map_eq_some_iff.mp ei
    have e1' : x'.1 - n ≤ d := e1
    have : vAt ps (d + n) = numberIn x' (d + n) := vAt_pc ha ex (by omega) fun q hq => by
      have := e2 (mvP n q) (by rw [show i + 1 + 1 = (i + 1) + 1 from rfl, mvL_get, show j + 1 + (i + 1) = j + 1 + i + 1 from by omega, hq]; rfl)
      have h3 : d < q.1 - n := this
      omega
    show numberIn (mvP n x') d = _
    rw [this]
    unfold numberIn mvP
    dsimp only
    rw [show d - (x'.1 - n) = d + n - x'.1 by omega]
def spMoved : DSp := fun ds M P ex => ∃ (ps : List Pc) (a c e n : Nat) (k : Int), ds = [.tup (pcsD ps), .int k] ∧ PsOk a c n ps ∧ Bt e k ∧ 0 ≤ k ∧ n ≤ 5000000 ∧ 8 * (a + c + e) + 100 < 1000000 ∧ PcOut (fun d => vAt ps (d + k)) (a + 2) (2 * a + c + e + 10) n P M
theorem c_moved (S : Sps) (h1 : S (.f "told") = some spTold) (h2 : S (.f "number_on") = some spNumberOn) (h3 : S (.f "rate_on") = some spRateOn) (ds M P ex) (h : spMoved ds M P ex) : wBody n_moved (r_moved S) ds M P ex := by
  obtain ⟨ps, a, c, e, n, k, rfl, ⟨k1, k2, ⟨p0, k3, k4⟩, k5⟩, he, hk, hn, hz, h⟩ := h
  have sl := sizeLine_eq
  obtain ⟨j, p, _, ej, hj1, hj2⟩ := ix_of (d := k) ps.length 0 k3 (by omega) (by omega)
  simp [wSeq, wRet, wRetN, wSet, wDrop, wIf, wNext, wBrk, wCnt, wOr, wAnd, wOrT, wAndT, wNot, wNotT, wTru, wIfE, wOpX, wUnX, wVar, wC, eget, eset, wCons, wNil, wTup, wLst, wB, one, wCall, oS, wPar, wPar3, wAsg, wLM, oA, refD, dgN, dgCons, dgNil, dgTup, binO, addO, subO, mulO, fdivO, modO, powO, cmpO, relO, isO, eqO, neO, oII, truD, Br, negO, isNon, oD, oL, sFalse, eFalse, wStar, notK, wBody, r_moved, n_moved, startD, h1, h2, h3, wLc]
  rw [wIt_var rfl rfl]
  refine lc_filA (fun p => decide (k < p.1)) pcD (fun p => pcD (mvP k p)) (show gd none M True from trivial) ps [] (fun p hp Q1 Q2 q1 q2 => ?_) (by simp; omega) (.inl ?_)
  · simp [wSeq, wRet, wRetN, wSet, wDrop, wIf, wNext, wBrk, wCnt, wOr, wAnd, wOrT, wAndT, wNot, wNotT, wTru, wIfE, wOpX, wUnX, wVar, wC, eget, eset, wCons, wNil, wTup, wLst, wB, one, wCall, oS, wPar, wPar3, wAsg, wLM, oA, refD, dgN, dgCons, dgNil, dgTup, binO, addO, subO, mulO, fdivO, modO, powO, cmpO, relO, isO, eqO, neO, oII, truD, Br, negO, isNon, oD, oL, sFalse, eFalse, wStar, notK, dwipe, pcD]
    exact ⟨fun hlt => ⟨by omega, q1 (by simpa using hlt)⟩, fun hge => q2 (by simpa using hge)⟩
  rw [filter_drop k1 ej hj1 hj2]
  have e1 : (ps.drop (j + 1)).map (fun p => pcD (mvP k p)) = pcsD ((ps.drop (j + 1)).map (mvP k)) := by unfold pcsD; rw [List.map_map]; rfl
  simp only [List.nil_append, e1]
  refine ⟨_, ps, a, c, e, k, p0, rfl, rfl, k1, k2, he, by omega, k3, ?_⟩
  refine ⟨_, ps, k, p0, rfl, rfl, k1, k3, ?_⟩
  refine ⟨by omega, ?_⟩
  simp only [seqD, List.append_nil]
  obtain ⟨m1, m2⟩ := mvL_ok k1 ej hj1 hj2
  have ml : (mvL ps k j).length ≤ ps.length := by
    have := (List.getElem?_eq_some_iff.mp ej).1
    unfold mvL
    simp only [List.length_cons, List.length_map, List.length_drop]
    omega
  obtain ⟨B1, B2, B3⟩ := k2.get ej
  obtain ⟨v1, v2⟩ := vAt_ix k1 ej (.inr hj1) hj2
  have el : Dt.tup [.int 0, .int (vAt ps k), .int (rAt ps k)] :: pcsD ((ps.drop (j + 1)).map (mvP k)) = pcsD (mvL ps k j) := rfl
  have ll : (pcsD ((ps.drop (j + 1)).map (mvP k))).length + 1 ≤ ps.length := by
    have := ml
    unfold mvL at this
    simpa [pcsD] using this
  refine ⟨by show (pcsD _).length + 1 ≤ sizeLine; omega, .inl ?_⟩
  rw [el]
  refine ⟨.lst (pcsD (mvL ps k j)), mvL ps k j, a, a + c + e + 3, (0, vAt ps k, rAt ps k), rfl, rfl, m1, fun q hq => ?_, by omega, by omega, rfl, rfl, fun ts t1 t2 t3 => ?_⟩
  · rcases List.mem_cons.mp hq with rfl | hq
    · refine ⟨by unfold Bt; exact Nat.pow_pos (by decide), ?_, ?_⟩
      · show Bt _ (vAt ps k)
        rw [v1]
        exact B2.add (B3.mul (he.sub B1 (k := a + e + 1) (by omega) (by omega)) (show _ ≤ a + c + e + 2 by omega)) (by omega) (by omega)
      · show Bt _ (rAt ps k)
        rw [v2]
        exact B3.mono (by omega)
    · obtain ⟨r, hr, rfl⟩ := List.mem_map.mp hq
      obtain ⟨i, hi⟩ := List.getElem?_of_mem hr
      rw [List.getElem?_drop] at hi
      obtain ⟨C1, C2, C3⟩ := k2.get hi
      have hkr : k < r.1 := by
        by_cases z : i = 0
        · subst z; exact hj2 r hi
        · obtain ⟨q1, e1⟩ : ∃ q1, ps[j + 1]? = some q1 := ⟨_, List.getElem?_eq_getElem (by have := (List.getElem?_eq_some_iff.mp hi).1; omega)⟩
          have := hj2 q1 e1
          have := k1.get e1 hi (by omega)
          omega
      refine ⟨?_, C2.mono (by omega), C3.mono (by omega)⟩
      show Bt a (r.1 - k)
      unfold Bt at C1 ⊢
      omega
  · exact exitP_refl (h ts (t1.congr fun d hd => (m2 d hd).symm) (t2.mono (by omega) (by omega)) (by omega))
def spStMoved : DSp := fun ds M P ex => ∃ (ps : List Pc) (a c e n : Nat) (k : Int), ds = [stD ps, .int k] ∧ PsOk a c n ps ∧ Bt e k ∧ 0 ≤ k ∧ n ≤ 5000000 ∧ 16 * (a + c + e) + 200 < 1000000 ∧ StOut (fun d => vAt ps (d + k)) (a + 2) (2 * a + c + e + 10) n P M
theorem c_st_moved (S : Sps) (h0 : (S (.c "Stairs")).isSome) (h1 : S (.f "check_day") = some spCheckDay) (h2 : S (.f "moved_pieces") = some spMoved) (h3 : S (.f "Stairs") = some spStairs) (ds M P ex) (h : spStMoved ds M P ex) : wBody n_Stairs_moved (r_Stairs_moved S) ds M P ex := by
  obtain ⟨ps, a, c, e, n, k, rfl, kk, he, hk, hn, hz, h⟩ := h
  simp [wSeq, wRet, wRetN, wSet, wDrop, wIf, wNext, wBrk, wCnt, wOr, wAnd, wOrT, wAndT, wNot, wNotT, wTru, wIfE, wOpX, wUnX, wVar, wC, eget, eset, wCons, wNil, wTup, wLst, wB, one, wCall, oS, wPar, wPar3, wAsg, wLM, oA, refD, dgN, dgCons, dgNil, dgTup, binO, addO, subO, mulO, fdivO, modO, powO, cmpO, relO, isO, eqO, neO, oII, truD, Br, negO, isNon, oD, oL, sFalse, eFalse, wStar, notK, wBody, r_Stairs_moved, n_Stairs_moved, startD, h1, h2, h3, wAttr, own_pieces S h0]
  exact ⟨k, rfl, hk, ps, a, c, e, n, k, rfl, kk, he, hk, hn, by omega, fun ts t1 t2 t3 => st_wrap t1 t2 t3 hn (by omega) (exitP_refl (h ts t1 t2 t3))⟩
def hdP (n : Int) (p : Pc) : Pc := (p.1 + n, p.2.1, p.2.2)
theorem num_hd (n : Int) (p : Pc) (d : Int) : numberIn (hdP n p) d = numberIn p (d - n) := by
  unfold numberIn hdP
  dsimp only
  rw [show d - (p.1 + n) = d - n - p.1 by omega]
theorem vAt_hd (n : Int) : ∀ {ps : List Pc} (d : Int), vAt (ps.map (hdP n)) d = vAt ps (d - n)
  | [], d => rfl
  | [p], d => num_hd n p d
  | p :: q :: r, d => by
    have ih := vAt_hd n (ps := q :: r) d
    have e1 := num_hd n p d
    show (if q.1 + n ≤ d then vAt ((q :: r).map (hdP n)) d else numberIn (hdP n p) d) = (if q.1 ≤ d - n then vAt (q :: r) (d - n) else numberIn p (d - n))
    by_cases h : q.1 + n ≤ d
    · rw [if_pos h, if_pos (by omega)]; exact ih
    · rw [if_neg h, if_neg (by omega)]; exact e1
theorem asc_hd (n : Int) : ∀ {ps : List Pc}, Asc ps → Asc (ps.map (hdP n))
  | [], _ => trivial
  | [_], _ => trivial
  | p :: q :: r, h => ⟨by show p.1 + n < q.1 + n; have := h.1; omega, asc_hd n h.2⟩
/-- held: so many days later -/
def hold (f : Int → Int) (n : Int) (d : Int) : Int := f (if n ≤ d then d - n else 0)
def spHeld : DSp := fun ds M P ex => ∃ (ps : List Pc) (a c e n : Nat) (k : Int), ds = [.tup (pcsD ps), .int k] ∧ PsOk a c n ps ∧ Bt e k ∧ 0 ≤ k ∧ n ≤ 5000000 ∧ 8 * (a + c + e) + 100 < 1000000 ∧ PcOut (hold (vAt ps) k) (a + e + 3) (2 * a + c + 2 * e + 10) (n + 1) P M
theorem c_held (S : Sps) (h1 : S (.f "told") = some spTold) (ds M P ex) (h : spHeld ds M P ex) : wBody n_held (r_held S) ds M P ex := by
  obtain ⟨ps, a, c, e, n, k, rfl, ⟨k1, k2, ⟨p0, k3, k4⟩, k5⟩, he, hk, hn, hz, h⟩ := h
  have sl := sizeLine_eq
  simp [wSeq, wRet, wRetN, wSet, wDrop, wIf, wNext, wBrk, wCnt, wOr, wAnd, wOrT, wAndT, wNot, wNotT, wTru, wIfE, wOpX, wUnX, wVar, wC, eget, eset, wCons, wNil, wTup, wLst, wB, one, wCall, oS, wPar, wPar3, wAsg, wLM, oA, refD, dgN, dgCons, dgNil, dgTup, binO, addO, subO, mulO, fdivO, modO, powO, cmpO, relO, isO, eqO, neO, oII, truD, Br, negO, isNon, oD, oL, sFalse, eFalse, wStar, notK, wBody, r_held, n_held, startD, h1, wLc]
  rw [wIt_var rfl rfl]
  refine lc_mapA pcD (fun p => pcD (hdP k p)) (show gd none M True from trivial) ps [] (fun p hp Q q => ?_) (by simp; omega) (.inl ?_)
  · simp [wSeq, wRet, wRetN, wSet, wDrop, wIf, wNext, wBrk, wCnt, wOr, wAnd, wOrT, wAndT, wNot, wNotT, wTru, wIfE, wOpX, wUnX, wVar, wC, eget, eset, wCons, wNil, wTup, wLst, wB, one, wCall, oS, wPar, wPar3, wAsg, wLM, oA, refD, dgN, dgCons, dgNil, dgTup, binO, addO, subO, mulO, fdivO, modO, powO, cmpO, relO, isO, eqO, neO, oII, truD, Br, negO, isNon, oD, oL, sFalse, eFalse, wStar, notK, dwipe, pcD]
    exact ⟨by omega, q⟩
  have e1 : ps.map (fun p => pcD (hdP k p)) = pcsD (ps.map (hdP k)) := by unfold pcsD; rw [List.map_map]; rfl
  have s0 : seqD M (.tup (pcsD ps)) = some (pcsD ps) := rfl
  have B1 : Bd (a + e + 1) (a + c + e) (ps.map (hdP k)) := fun p hp => by
    obtain ⟨q, hq, rfl⟩ := List.mem_map.mp hp
    obtain ⟨C1, C2, C3⟩ := k2 q hq
    exact ⟨C1.add he (by omega) (by omega), C2.mono (by omega), C3.mono (by omega)⟩
  simp only [List.nil_append, e1]
  simp [eqD_ii, ixO_seq S s0, show L2.atI (pcsD ps) 0 = some (pcD p0) from atI_pcs k3, oD, ix_pc1]
  refine ⟨fun hz0 => ?_, fun hz0 => ?_⟩
  · subst hz0
    refine ⟨.lst (pcsD (ps.map (hdP 0))), ps.map (hdP 0), a + e + 1, a + c + e, hdP 0 p0, rfl, rfl, asc_hd 0 k1, B1, by omega, by rw [List.length_map]; omega, by rw [List.getElem?_map, k3]; rfl, by show p0.1 + 0 = 0; omega, fun ts t1 t2 t3 => ?_⟩
    refine exitP_refl (h ts (t1.congr fun d hd => ?_) (t2.mono (by omega) (by omega)) (by rw [List.length_map] at t3; omega))
    unfold hold
    rw [if_pos hd, vAt_hd]
  · refine ⟨by omega, ?_⟩
    simp only [seqD, List.append_nil]
    have el : Dt.tup [.int 0, .int p0.2.1, .int 0] :: pcsD (ps.map (hdP k)) = pcsD ((0, p0.2.1, 0) :: ps.map (hdP k)) := rfl
    refine ⟨by simp [pcsD]; omega, .inl ?_⟩
    rw [el]
    have asc : Asc ((0, p0.2.1, 0) :: ps.map (hdP k)) := by
      cases ps with
      | nil => cases k3
      | cons q r => cases k3; exact ⟨by show 0 < p0.1 + k; omega, asc_hd k k1⟩
    refine ⟨.lst (pcsD ((0, p0.2.1, 0) :: ps.map (hdP k))), (0, p0.2.1, 0) :: ps.map (hdP k), a + e + 1, a + c + e, (0, p0.2.1, 0), rfl, rfl, asc, fun p hp => ?_, by omega, by simp; omega, rfl, rfl, fun ts t1 t2 t3 => ?_⟩
    · rcases List.mem_cons.mp hp with rfl | hp
      · obtain ⟨C1, C2, C3⟩ := k2.get k3
        exact ⟨by unfold Bt; exact Nat.pow_pos (by decide), C2.mono (by omega), by unfold Bt; exact Nat.pow_pos (by decide)⟩
      · exact B1 p hp
    · refine exitP_refl (h ts (t1.congr fun d hd => ?_) (t2.mono (by omega) (by omega)) (by simp at t3; omega))
      unfold hold
      cases ps with
      | nil => cases k3
      | cons q r =>
        cases k3
        show _ = (if p0.1 + k ≤ d then vAt ((p0 :: r).map (hdP k)) d else numberIn (0, p0.2.1, 0) d)
        have v0 : vAt (p0 :: r) 0 = p0.2.1 := by
          rw [vAt_pc (s := 0) k1 rfl (by omega) fun q hq => by have := k1.get (show (p0 :: r)[0]? = some p0 from rfl) hq (by omega); omega]
          unfold numberIn; rw [k4]; simp
        by_cases z : k ≤ d
        · rw [if_pos z, if_pos (by omega), vAt_hd]
        · rw [if_neg z, if_neg (by omega), v0]
          unfold numberIn; simp
def spStHeld : DSp := fun ds M P ex => ∃ (ps : List Pc) (a c e n : Nat) (k : Int), ds = [stD ps, .int k] ∧ PsOk a c n ps ∧ Bt e k ∧ 0 ≤ k ∧ n < 5000000 ∧ 16 * (a + c + e) + 200 < 1000000 ∧ StOut (hold (vAt ps) k) (a + e + 3) (2 * a + c + 2 * e + 10) (n + 1) P M
theorem c_st_held (S : Sps) (h0 : (S (.c "Stairs")).isSome) (h1 : S (.f "check_day") = some spCheckDay) (h2 : S (.f "held_pieces") = some spHeld) (h3 : S (.f "Stairs") = some spStairs) (ds M P ex) (h : spStHeld ds M P ex) : wBody n_Stairs_held (r_Stairs_held S) ds M P ex := by
  obtain ⟨ps, a, c, e, n, k, rfl, kk, he, hk, hn, hz, h⟩ := h
  simp [wSeq, wRet, wRetN, wSet, wDrop, wIf, wNext, wBrk, wCnt, wOr, wAnd, wOrT, wAndT, wNot, wNotT, wTru, wIfE, wOpX, wUnX, wVar, wC, eget, eset, wCons, wNil, wTup, wLst, wB, one, wCall, oS, wPar, wPar3, wAsg, wLM, oA, refD, dgN, dgCons, dgNil, dgTup, binO, addO, subO, mulO, fdivO, modO, powO, cmpO, relO, isO, eqO, neO, oII, truD, Br, negO, isNon, oD, oL, sFalse, eFalse, wStar, notK, wBody, r_Stairs_held, n_Stairs_held, startD, h1, h2, h3, wAttr, own_pieces S h0]
  exact ⟨k, rfl, hk, ps, a, c, e, n, k, rfl, kk, he, hk, by omega, by omega, fun ts t1 t2 t3 => st_wrap t1 t2 t3 (by omega) (by omega) (exitP_refl (h ts t1 t2 t3))⟩
end Fs
/-! Fr7: further readings of the laws' common helpers, printed. -/
namespace Fs
open PySem PySem.Spec PyProof.Rows L2
def n__law_canon : List Str := ["pieces", "days", "day", "value", "rate", "found", "begin"]
def r__law_canon (S : Sps) : WS := (wSeq (wSet 1 (wLst wNil))
 (wSeq (wFor (wIt (wVar 0)) (dgTup 3 (dgCons (dgN 2) (dgCons (dgN 3) (dgCons (dgN 4) dgNil)))) (wDrop (wLM lmExtend (wVar 1) (wCons (wLst (wCons (wVar 2) (wCons (wOpX (binO S .Add) (wVar 2) (wC (.int 1))) (wCons (wOpX (binO S .Add) (wVar 2) (wC (.int 2))) wNil)))) wNil))))
 (wSeq (wPar3 1 5 6 (wCons (wSS (wVar 1)) (wCons (wLst wNil) (wCons (wC (.int 0)) wNil))))
 (wSeq (wWhile (wTru (wOpX (cmpO S .IsNot) (wVar 6) (wC .non))) (wSeq (wSet 3 (wCall S "_law_at" (wCons (wVar 0) (wCons (wVar 6) wNil))))
 (wSeq (wSet 4 (wOpX (binO S .Sub) (wCall S "_law_at" (wCons (wVar 0) (wCons (wOpX (binO S .Add) (wVar 6) (wC (.int 1))) wNil))) (wVar 3)))
 (wSeq (wDrop (wLM lmAppend (wVar 5) (wCons (wTup (wCons (wVar 6) (wCons (wVar 3) (wCons (wVar 4) wNil)))) wNil)))
 (wSet 6 (wCall S "_law_first_off" (wCons (wVar 0) (wCons (wVar 1) (wCons (wVar 6) (wCons (wVar 3) (wCons (wVar 4) wNil)))))))))))
 (wRet (wVar 5))))))
def n__law_first_off : List Str := ["pieces", "days", "begin", "value", "rate", "day"]
def r__law_first_off (S : Sps) : WS := (wSeq (wFor (wIt (wVar 1)) (dgN 5) (wIf (wAndT (wTru (wOpX (cmpO S .Gt) (wVar 5) (wOpX (binO S .Add) (wVar 2) (wC (.int 1))))) (wTru (wOpX (cmpO S .NotEq) (wCall S "_law_at" (wCons (wVar 0) (wCons (wVar 5) wNil))) (wOpX (binO S .Add) (wVar 3) (wOpX (binO S .Mult) (wVar 4) (wOpX (binO S .Sub) (wVar 5) (wVar 2))))))) (wRet (wVar 5)) wNext))
 (wRet (wC .non)))
def n__law_corners : List Str := ["lists", "found", "pieces", "day", "value", "rate"]
def r__law_corners (S : Sps) : WS := (wSeq (wSet 1 (wLst wNil))
 (wSeq (wFor (wIt (wVar 0)) (dgN 2) (wFor (wIt (wVar 2)) (dgTup 3 (dgCons (dgN 3) (dgCons (dgN 4) (dgCons (dgN 5) dgNil)))) (wDrop (wLM lmExtend (wVar 1) (wCons (wLst (wCons (wB (dMax) (wCons (wC (.int 0)) (wCons (wOpX (binO S .Sub) (wVar 3) (wC (.int 1))) wNil))) (wCons (wVar 3) (wCons (wOpX (binO S .Add) (wVar 3) (wC (.int 1))) (wCons (wOpX (binO S .Add) (wVar 3) (wC (.int 2))) wNil))))) wNil)))))
 (wRet (wSS (wOpX (binO S .Add) (wVar 1) (wLst (wCons (wOpX (binO S .Add) (wB (dMax) (wCons (wVar 1) wNil)) (wOpX (binO S .Pow) (wC (.int 10)) (wC (.int 9)))) (wCons (wOpX (binO S .Add) (wB (dMax) (wCons (wVar 1) wNil)) (wOpX (binO S .Pow) (wC (.int 10)) (wC (.int 36)))) wNil))))))))
def n__law_are_pieces : List Str := ["value", "piece", "days", "number", "one", "other"]
def r__law_are_pieces (S : Sps) : WS := (wSeq (wIf (wOrT (wNotT (wTru (wB (dIsi S) (wCons (wVar 0) (wCons (wC (.ty "tuple")) wNil))))) (wNotT (wTru (wB (one dAll) (wCons (wLc (wIt (wVar 0)) (dgN 1) wYes (wAnd (wB (dIsi S) (wCons (wVar 1) (wCons (wC (.ty "tuple")) wNil))) (wOpX (cmpO S .Eq) (wB (one dLen) (wCons (wVar 1) wNil)) (wC (.int 3)))) [1]) wNil))))) (wRet (wC (.bl false))) wNext)
 (wSeq (wFor (wIt (wVar 0)) (dgN 1) (wIf (wNotT (wTru (wB (one dAll) (wCons (wLc (wIt (wVar 1)) (dgN 3) wYes (wAnd (wB (dIsi S) (wCons (wVar 3) (wCons (wC (.ty "int")) wNil))) (wNot (wB (dIsi S) (wCons (wVar 3) (wCons (wC (.ty "bool")) wNil))))) [3]) wNil)))) (wRet (wC (.bl false))) wNext))
 (wSeq (wSet 2 (wLc (wIt (wVar 0)) (dgN 1) wYes (wOpX (ixO S) (wVar 1) (wC (.int 0))) [1]))
 (wRet (wAnd (wOpX (cmpO S .Eq) (wSl oCut (wVar 2) wP0 (wP1 (wC (.int 1)))) (wLst (wCons (wC (.int 0)) wNil))) (wB (one dAll) (wCons (wLc (wZip2 (wCons (wVar 2) (wCons (wSl oCut (wVar 2) (wP1 (wC (.int 1))) wP0) wNil))) (dgTup 2 (dgCons (dgN 4) (dgCons (dgN 5) dgNil))) wYes (wOpX (cmpO S .Lt) (wVar 4) (wVar 5)) [4, 5]) wNil)))))))
def n__law_numbers : List Str := ["pieces", "days", "found", "at", "day", "begin", "value", "rate"]
def r__law_numbers (S : Sps) : WS := (wSeq (wPar 2 3 (wCons (wLst wNil) (wCons (wC (.int 0)) wNil)))
 (wSeq (wFor (wIt (wVar 1)) (dgN 4) (wSeq (wSet 3 (wIfE (wTru (wOpX (cmpO S .LtE) (wOpX (ixO S) (wOpX (ixO S) (wVar 0) (wVar 3)) (wC (.int 0))) (wVar 4))) (wVar 3) (wC (.int 0))))
 (wSeq (wWhile (wAndT (wTru (wOpX (cmpO S .Lt) (wOpX (binO S .Add) (wVar 3) (wC (.int 1))) (wB (one dLen) (wCons (wVar 0) wNil)))) (wTru (wOpX (cmpO S .LtE) (wOpX (ixO S) (wOpX (ixO S) (wVar 0) (wOpX (binO S .Add) (wVar 3) (wC (.int 1)))) (wC (.int 0))) (wVar 4)))) (wSet 3 (wOpX (binO S .Add) (wVar 3) (wC (.int 1)))))
 (wSeq (wAsg (wOpX (ixO S) (wVar 0) (wVar 3)) (dgTup 3 (dgCons (dgN 5) (dgCons (dgN 6) (dgCons (dgN 7) dgNil)))))
 (wDrop (wLM lmAppend (wVar 2) (wCons (wOpX (binO S .Add) (wVar 6) (wOpX (binO S .Mult) (wVar 7) (wOpX (binO S .Sub) (wVar 4) (wVar 5)))) wNil)))))))
 (wRet (wVar 2))))
def n__law_is_as : List Str := ["stairs_here", "days", "dues", "pieces", "day"]
def r__law_is_as (S : Sps) : WS := (wSeq (wSet 3 (wAttr S "pieces" (wVar 0)))
 (wSeq (wIf (wOrT (wTru (wOpX (cmpO S .NotEq) (wB (one dRepr) (wCons (wLc (wIt (wVar 1)) (dgN 4) wYes (wOpX (ixO S) (wVar 0) (wVar 4)) [4]) wNil)) (wB (one dRepr) (wCons (wVar 2) wNil)))) (wNotT (wTru (wCall S "_law_are_pieces" (wCons (wVar 3) wNil))))) (wRet (wC (.bl false))) wNext)
 (wSeq (wIf (wTru (wOpX (cmpO S .NotEq) (wB (one dRepr) (wCons (wCall S "_law_numbers" (wCons (wVar 3) (wCons (wVar 1) wNil))) wNil)) (wB (one dRepr) (wCons (wVar 2) wNil)))) (wRet (wC (.bl false))) wNext)
 (wRet (wOpX (cmpO S .Eq) (wB (one dRepr) (wCons (wVar 3) wNil)) (wB (one dRepr) (wCons (wB (one dTuple) (wCons (wCall S "_law_canon" (wCons (wB (one dList) (wCons (wVar 3) wNil)) wNil)) wNil)) wNil)))))))
def n_6_law_ten : List Str := ["many", "found", "lap"]
def r_6_law_ten (S : Sps) : WS := (wSeq (wSet 1 (wC (.int 1)))
 (wSeq (wFor (wRng1 (wCons (wVar 0) wNil)) (dgN 2) (wSet 1 (wOpX (binO S .Mult) (wC (.int 10)) (wVar 1))))
 (wRet (wVar 1))))
def n_6_law_right : List Str := ["pot", "pieces", "made", "shifts", "shift", "days", "later_here", "ahead", "far", "some", "day", "one", "more"]
def r_6_law_right (S : Sps) : WS := (wSeq (wSet 1 (wCall S "_law_pieces" (wCons (wVar 0) (wCons (wCall S "_law_amount" (wCons (wVar 0) wNil)) (wCons (wC (.int 6)) (wCons (wC (.int 4)) wNil))))))
 (wSeq (wSet 2 (wCall S "_law_stairs" (wCons (wVar 1) wNil)))
 (wSeq (wSet 3 (wLst (wCons (wC (.int 0)) (wCons (wC (.int 1)) (wCons (wCall S "_law_take" (wCons (wVar 0) (wCons (wC (.int 9)) wNil))) (wCons (wCall S "_law_take" (wCons (wVar 0) (wCons (wC (.int 61)) wNil))) (wCons (wOpX (binO S .Add) (wOpX (binO S .Pow) (wC (.int 10)) (wC (.int 15))) (wCall S "_law_take" (wCons (wVar 0) (wCons (wC (.int 9)) wNil)))) (wCons (wCall S "_law_ten" (wCons (wCall S "_law_take" (wCons (wVar 0) (wCons (wC (.int 15)) wNil))) wNil)) wNil))))))))
 (wSeq (wFor (wIt (wVar 3)) (dgN 4) (wSeq (wSet 5 (wOpX (binO S .Add) (wOpX (binO S .Add) (wCall S "_law_corners" (wCons (wLst (wCons (wVar 1) wNil)) wNil)) (wLRg1 (wC (.int 70)))) (wLst (wCons (wC (.int 360)) (wCons (wC (.int 359)) (wCons (wOpX (binO S .Add) (wC (.int 100)) (wCall S "_law_take" (wCons (wVar 0) (wCons (wC (.int 260)) wNil)))) wNil))))))
 (wSeq (wPar 6 7 (wCons (wMeth S "moved" (wVar 2) (wCons (wVar 4) wNil)) (wCons (wMeth S "held" (wVar 2) (wCons (wVar 4) wNil)) wNil)))
 (wSeq (wIf (wNotT (wTru (wCall S "_law_is_as" (wCons (wVar 6) (wCons (wVar 5) (wCons (wLc (wIt (wVar 5)) (dgN 10) wYes (wCall S "_law_at" (wCons (wVar 1) (wCons (wOpX (binO S .Add) (wVar 10) (wVar 4)) wNil))) [10]) wNil)))))) (wRet (wC (.bl false))) wNext)
 (wSeq (wSet 8 (wSS (wOpX (binO S .Add) (wVar 5) (wLc (wIt (wVar 5)) (dgN 10) wYes (wOpX (binO S .Add) (wVar 10) (wVar 4)) [10]))))
 (wSeq (wIf (wNotT (wTru (wCall S "_law_is_as" (wCons (wVar 7) (wCons (wVar 8) (wCons (wLc (wIt (wVar 8)) (dgN 10) wYes (wCall S "_law_at" (wCons (wVar 1) (wCons (wB (dMax) (wCons (wC (.int 0)) (wCons (wOpX (binO S .Sub) (wVar 10) (wVar 4)) wNil))) wNil))) [10]) wNil)))))) (wRet (wC (.bl false))) wNext)
 (wSeq (wIf (wOrT (wTru (wOpX (cmpO S .NotEq) (wMeth S "moved" (wVar 7) (wCons (wVar 4) wNil)) (wVar 2))) (wTru (wOpX (cmpO S .NotEq) (wMeth S "moved" (wMeth S "moved" (wVar 2) (wCons (wVar 4) wNil)) (wCons (wC (.int 2)) wNil)) (wMeth S "moved" (wVar 2) (wCons (wOpX (binO S .Add) (wVar 4) (wC (.int 2))) wNil))))) (wRet (wC (.bl false))) wNext)
 (wSeq (wSet 9 (wLst (wCons (wTup (wCons (wMeth S "moved" (wVar 7) (wCons (wVar 4) wNil)) (wCons (wC (.int 0)) wNil))) (wCons (wTup (wCons (wMeth S "moved" (wVar 6) (wCons (wC (.int 2)) wNil)) (wCons (wOpX (binO S .Add) (wVar 4) (wC (.int 2))) wNil))) wNil))))
 (wIf (wNotT (wTru (wB (one dAll) (wCons (wLc (wIt (wVar 9)) (dgTup 2 (dgCons (dgN 11) (dgCons (dgN 12) dgNil))) wYes (wCall S "_law_is_as" (wCons (wVar 11) (wCons (wVar 5) (wCons (wLc (wIt (wVar 5)) (dgN 10) wYes (wCall S "_law_at" (wCons (wVar 1) (wCons (wOpX (binO S .Add) (wVar 10) (wVar 12)) wNil))) [10]) wNil)))) [11, 12]) wNil)))) (wRet (wC (.bl false))) wNext)))))))))
 (wRet (wAnd (wOpX (cmpO S .Eq) (wMeth S "moved" (wVar 2) (wCons (wC (.int 0)) wNil)) (wVar 2)) (wOpX (cmpO S .Eq) (wMeth S "held" (wVar 2) (wCons (wC (.int 0)) wNil)) (wVar 2))))))))
def n_6law : List Str := ["script", "place", "pot", "lap"]
def r_6law (S : Sps) : WS := (wSeq (wFor (wIt (wCall S "_law_cells" (wCons (wVar 0) (wCons (wC (.int 6)) wNil)))) (dgN 1) (wSeq (wSet 2 (wCall S "_law_draws" (wCons (wVar 0) (wCons (wVar 1) wNil))))
 (wIf (wNotT (wTru (wB (one dAll) (wCons (wLc (wRng1 (wCons (wC (.int 3)) wNil)) (dgN 3) wYes (wCall S "_law_right" (wCons (wVar 2) wNil)) [3]) wNil)))) (wRet (wC (.bl false))) wNext)))
 (wRet (wC (.bl true))))
def n_3_law_right : List Str := ["pot", "one", "other", "many_here", "is_far", "mine", "its", "days", "pairs", "rows", "pieces", "day", "value", "rate", "a", "b", "made", "dues"]
def r_3_law_right (S : Sps) : WS := (wSeq (wPar 1 2 (wCons (wCall S "_law_pieces" (wCons (wVar 0) (wCons (wCall S "_law_amount" (wCons (wVar 0) wNil)) (wCons (wC (.int 6)) (wCons (wC (.int 4)) wNil))))) (wCons (wCall S "_law_pieces" (wCons (wVar 0) (wCons (wCall S "_law_amount" (wCons (wVar 0) wNil)) (wCons (wC (.int 6)) (wCons (wC (.int 4)) wNil))))) wNil)))
 (wSeq (wSet 3 (wCall S "_law_of" (wCons (wVar 0) (wCons (wLst (wCons (wOpX (binO S .Sub) (wCall S "_law_take" (wCons (wVar 0) (wCons (wC (.int 11)) wNil))) (wC (.int 5))) (wCons (wOpX (binO S .Sub) (wCall S "_law_take" (wCons (wVar 0) (wCons (wC (.int 11)) wNil))) (wC (.int 5))) (wCons (wOpX (binO S .Pow) (wC (.int 10)) (wC (.int 20))) (wCons (wUnX (negO S) (wOpX (binO S .Pow) (wC (.int 10)) (wC (.int 20)))) wNil))))) wNil))))
 (wSeq (wSet 4 (wOpX (cmpO S .Eq) (wCall S "_law_take" (wCons (wVar 0) (wCons (wC (.int 4)) wNil))) (wC (.int 0))))
 (wSeq (wIf (wTru (wVar 4)) (wAsg (wLc (wIt (wTup (wCons (wVar 1) (wCons (wVar 2) wNil)))) (dgN 10) wYes (wLc (wIt (wVar 10)) (dgTup 3 (dgCons (dgN 11) (dgCons (dgN 12) (dgCons (dgN 13) dgNil)))) wYes (wTup (wCons (wOpX (binO S .Mult) (wVar 11) (wC (.int 5000))) (wCons (wVar 12) (wCons (wVar 13) wNil)))) [11, 12, 13]) [10]) (dgTup 2 (dgCons (dgN 1) (dgCons (dgN 2) dgNil)))) wNext)
 (wSeq (wPar 5 6 (wCons (wCall S "_law_stairs" (wCons (wVar 1) wNil)) (wCons (wCall S "_law_stairs" (wCons (wVar 2) wNil)) wNil)))
 (wSeq (wSet 7 (wIfE (wTru (wVar 4)) (wCall S "_law_corners" (wCons (wLst (wCons (wVar 1) (wCons (wVar 2) wNil))) wNil)) (wCall S "_law_span" (wCons (wLst (wCons (wVar 1) (wCons (wVar 2) wNil))) wNil))))
 (wSeq (wSet 8 (wLZip (wCons (wCall S "_law_numbers" (wCons (wVar 1) (wCons (wVar 7) wNil))) (wCons (wCall S "_law_numbers" (wCons (wVar 2) (wCons (wVar 7) wNil))) wNil))))
 (wSeq (wSet 9 (wLst (wCons (wTup (wCons (wOpX (binO S .Add) (wVar 5) (wVar 6)) (wCons (wLc (wIt (wVar 8)) (dgTup 2 (dgCons (dgN 14) (dgCons (dgN 15) dgNil))) wYes (wOpX (binO S .Add) (wVar 14) (wVar 15)) [14, 15]) wNil))) (wCons (wTup (wCons (wOpX (binO S .Sub) (wVar 5) (wVar 6)) (wCons (wLc (wIt (wVar 8)) (dgTup 2 (dgCons (dgN 14) (dgCons (dgN 15) dgNil))) wYes (wOpX (binO S .Sub) (wVar 14) (wVar 15)) [14, 15]) wNil))) wNil))))
 (wSeq (wDrop (wLM lmExtend (wVar 9) (wCons (wLst (wCons (wTup (wCons (wUnX (negO S) (wVar 6)) (wCons (wLc (wIt (wVar 8)) (dgTup 2 (dgCons (dgN 14) (dgCons (dgN 15) dgNil))) wYes (wUnX (negO S) (wVar 15)) [14, 15]) wNil))) (wCons (wTup (wCons (wOpX (binO S .Mult) (wVar 5) (wVar 3)) (wCons (wLc (wIt (wVar 8)) (dgTup 2 (dgCons (dgN 14) (dgCons (dgN 15) dgNil))) wYes (wOpX (binO S .Mult) (wVar 14) (wVar 3)) [14, 15]) wNil))) wNil))) wNil)))
 (wSeq (wDrop (wLM lmAppend (wVar 9) (wCons (wTup (wCons (wOpX (binO S .Mult) (wVar 3) (wVar 6)) (wCons (wLc (wIt (wVar 8)) (dgTup 2 (dgCons (dgN 14) (dgCons (dgN 15) dgNil))) wYes (wOpX (binO S .Mult) (wVar 3) (wVar 15)) [14, 15]) wNil))) wNil)))
 (wSeq (wDrop (wLM lmExtend (wVar 9) (wCons (wLst (wCons (wTup (wCons (wOpX (binO S .Sub) (wVar 5) (wVar 5)) (wCons (wLc (wIt (wVar 8)) (dgTup 2 (dgCons (dgN 14) (dgCons (dgN 15) dgNil))) wYes (wC (.int 0)) [14, 15]) wNil))) (wCons (wTup (wCons (wOpX (binO S .Sub) (wOpX (binO S .Add) (wVar 5) (wVar 6)) (wVar 6)) (wCons (wLc (wIt (wVar 8)) (dgTup 2 (dgCons (dgN 14) (dgCons (dgN 15) dgNil))) wYes (wVar 14) [14, 15]) wNil))) wNil))) wNil)))
 (wSeq (wDrop (wLM lmExtend (wVar 9) (wCons (wLst (wCons (wTup (wCons (wUnX (negO S) (wOpX (binO S .Sub) (wVar 5) (wVar 6))) (wCons (wLc (wIt (wVar 8)) (dgTup 2 (dgCons (dgN 14) (dgCons (dgN 15) dgNil))) wYes (wOpX (binO S .Sub) (wVar 15) (wVar 14)) [14, 15]) wNil))) (wCons (wTup (wCons (wVar 5) (wCons (wLc (wIt (wVar 8)) (dgTup 2 (dgCons (dgN 14) (dgCons (dgN 15) dgNil))) wYes (wVar 14) [14, 15]) wNil))) wNil))) wNil)))
 (wSeq (wDrop (wLM lmAppend (wVar 9) (wCons (wTup (wCons (wVar 6) (wCons (wLc (wIt (wVar 8)) (dgTup 2 (dgCons (dgN 14) (dgCons (dgN 15) dgNil))) wYes (wVar 15) [14, 15]) wNil))) wNil)))
 (wSeq (wIf (wNotT (wTru (wB (one dAll) (wCons (wLc (wIt (wVar 9)) (dgTup 2 (dgCons (dgN 16) (dgCons (dgN 17) dgNil))) wYes (wCall S "_law_is_as" (wCons (wVar 16) (wCons (wVar 7) (wCons (wVar 17) wNil)))) [16, 17]) wNil)))) (wRet (wC (.bl false))) wNext)
 (wRet (wAnd (wOpX (cmpO S .Eq) (wVar 5) (wCall S "_law_stairs" (wCons (wVar 1) wNil))) (wOpX (cmpO S .Eq) (wVar 6) (wCall S "_law_stairs" (wCons (wVar 2) wNil)))))))))))))))))))
def n_3law : List Str := ["script", "place", "pot", "lap"]
def r_3law (S : Sps) : WS := (wSeq (wFor (wIt (wCall S "_law_cells" (wCons (wVar 0) (wCons (wC (.int 6)) wNil)))) (dgN 1) (wSeq (wSet 2 (wCall S "_law_draws" (wCons (wVar 0) (wCons (wVar 1) wNil))))
 (wIf (wNotT (wTru (wB (one dAll) (wCons (wLc (wRng1 (wCons (wC (.int 3)) wNil)) (dgN 3) wYes (wCall S "_law_right" (wCons (wVar 2) wNil)) [3]) wNil)))) (wRet (wC (.bl false))) wNext)))
 (wRet (wC (.bl true))))
end Fs
set_option maxHeartbeats 4000000
/-! Fd7: repr of ints and pieces; what the laws look at. -/
namespace Fs
open PySem PySem.Spec PyProof.Rows L2

/-! ### repr -/
theorem int_short {n : Nat} {i : Int} (h : Bt n i) (hn : n < 1900) : i.natAbs.log2 < 1920 ∧ (PyData.shown (.int i)).length ≤ n + 10 := by
  have l := h.log
  refine ⟨by omega, ?_⟩
  show (Str.ofString (toString i)).length ≤ _
  rw [PySem.ofString_length]
  have := PySem.int_text_length_le (a := i) (k := n + 1) (by omega) (by omega)
  omega
theorem shows_ints {n : Nat} {ns : List Int} (h : ∀ i ∈ ns, Bt n i) (hn : n < 1900) : PyData.showableAll (ns.map .int) = true ∧ PyData.leavesShortAll (n + 10) (ns.map .int) = true ∧ PyData.bulkAll (ns.map .int) = ns.length := by
  induction ns with
  | nil => exact ⟨rfl, rfl, rfl⟩
  | cons i ns ih =>
    obtain ⟨a, b, c⟩ := ih fun j hj => h j (List.mem_cons_of_mem _ hj)
    obtain ⟨s1, s2⟩ := int_short (h i (List.mem_cons_self ..)) hn
    refine ⟨?_, ?_, ?_⟩
    · simp only [List.map_cons, PyData.showableAll, PyData.showable, a, Bool.and_true, decide_eq_true_eq]; exact s1
    · simp only [List.map_cons, PyData.leavesShortAll, PyData.leavesShort, b, Bool.and_true, decide_eq_true_eq]; exact s2
    · simp only [List.map_cons, PyData.bulkAll, PyData.bulk, c, List.length_cons]; omega
theorem shows_pcs {n : Nat} {ps : List Pc} (h : Bd n n ps) (hn : n < 1900) : PyData.showableAll (ps.map pcPy) = true ∧ PyData.leavesShortAll (n + 10) (ps.map pcPy) = true ∧ PyData.bulkAll (ps.map pcPy) = 4 * ps.length := by
  induction ps with
  | nil => exact ⟨rfl, rfl, rfl⟩
  | cons p ps ih =>
    obtain ⟨a, b, c⟩ := ih fun j hj => h j (List.mem_cons_of_mem _ hj)
    obtain ⟨b1, b2, b3⟩ := h p (List.mem_cons_self ..)
    obtain ⟨s1, s2, s3⟩ := shows_ints (n := n) (ns := [p.1, p.2.1, p.2.2]) (fun i hi => by
      simp at hi
      rcases hi with rfl | rfl | rfl
      · exact b1
      · exact b2
      · exact b3) hn
    refine ⟨?_, ?_, ?_⟩
    · simp only [List.map_cons, PyData.showableAll, a, Bool.and_true]; exact s1
    · simp only [List.map_cons, PyData.leavesShortAll, b, Bool.and_true]; exact s2
    · simp only [List.map_cons, PyData.bulkAll, c, List.length_cons]
      have : PyData.bulk (pcPy p) = 3 := s3
      omega
def shI (ns : List Int) : Str := PyData.shown (.list (ns.map .int))
def shT (ps : List Pc) : Str := PyData.shown (.tuple (ps.map pcPy))
theorem repr_ints {M : Mem} {x : Dt} {ns : List Int} {n : Nat} {P : DK} (hx : listD M x = some (ns.map .int)) (hs : ∀ ms, x ≠ .scr ms) (h : ∀ i ∈ ns, Bt n i) (hn : n < 1900) (hl : (n + 12) * (ns.length + 1) ≤ sizeLine) (hP : P (.str (shI ns)) M) : dRepr x M P := by
  obtain ⟨a, b, c⟩ := shows_ints h hn
  have sz : (PyData.shown (.list (ns.map .int))).length ≤ sizeLine := by
    have := PyData.shown_le_bulk (n + 10) (by omega) (.list (ns.map .int)) (by simpa only [PyData.leavesShort] using b)
    simp only [PyData.bulk, c] at this
    have e : (n + 10 + 2) * ns.length + (n + 12) = (n + 12) * (ns.length + 1) := by rw [Nat.mul_add, Nat.mul_one]
    omega
  have sh : SeqAt.shaped (.list (ns.map .int)) = true := by
    show (PyData.canLay0 (.list (ns.map .int)) && decide (PyData.depth (.list (ns.map .int)) ≤ 64)) = true
    simp only [PyData.canLay0, PyData.depth, (shaped_ints ns).1]
    have := (shaped_ints ns).2
    simp; omega
  have sw : PyData.showable (.list (ns.map .int)) = true := by simpa only [PyData.showable] using a
  have go : pyOf M x = some (.list (ns.map .int)) → ∃ p, pyOf M x = some p ∧ SeqAt.shaped p = true ∧ p.showable = true ∧ p.shown.length ≤ sizeLine ∧ P (.str p.shown) M := fun e => ⟨_, e, sh, sw, sz, hP⟩
  cases x with
  | lst es => cases hx; exact go (by show (toPys _).map PyData.list = _; rw [toPys_ints]; rfl)
  | scr ms => exact absurd rfl (hs ms)
  | ref a =>
    have hm : ∃ es, M a = some (.lst es) ∧ es = ns.map .int := by
      unfold listD at hx
      dsimp only at hx
      cases q : M a with
      | none => rw [q] at hx; cases hx
      | some o =>
        rw [q] at hx
        cases o with
        | lst es => cases hx; exact ⟨_, rfl, rfl⟩
        | _ => cases hx
    obtain ⟨es, e1, e2⟩ := hm
    subst e2
    refine go ?_
    unfold pyOf
    dsimp only
    rw [e1]
    dsimp only
    rw [toPys_ints]
    rfl
  | _ => cases hx
theorem repr_pcs {M : Mem} {ps : List Pc} {n : Nat} {P : DK} (h : Bd n n ps) (hn : n < 1900) (hl : (n + 12) * (4 * ps.length + 1) ≤ sizeLine) (hP : P (.str (shT ps)) M) : dRepr (.tup (pcsD ps)) M P := by
  obtain ⟨a, b, c⟩ := shows_pcs h hn
  refine ⟨.tuple (ps.map pcPy), ?_, ?_, by simpa only [PyData.showable] using a, ?_, hP⟩
  · show (toPys (pcsD ps)).map PyData.tuple = _; rw [toPys_pcs]; rfl
  · show (PyData.canLay0 (.tuple (ps.map pcPy)) && decide (PyData.depth (.tuple (ps.map pcPy)) ≤ 64)) = true
    simp only [PyData.canLay0, PyData.depth, (shaped_pcs ps).1]
    have := (shaped_pcs ps).2
    simp; omega
  · have := PyData.shown_le_bulk (n + 10) (by omega) (.tuple (ps.map pcPy)) (by simpa only [PyData.leavesShort] using b)
    simp only [PyData.bulk, c] at this
    have e : (n + 10 + 2) * (4 * ps.length) + (n + 12) = (n + 12) * (4 * ps.length + 1) := by rw [Nat.mul_add, Nat.mul_one]
    omega

/-! ### the first day off, told in one way by the law -/
def cornD (ps : List Pc) (d : Int) : Prop := ∃ p ∈ ps, d = p.1 ∨ d = p.1 + 1 ∨ d = p.1 + 2
theorem leaving_corner {ps : List Pc} {p0 : Pc} {b : Int} {r : Option Int} (ha : Asc ps) (e0 : ps[0]? = some p0) (h0 : p0.1 ≤ b) (hl : IsLeaving (vAt ps) b (vAt ps b) (vAt ps (b + 1) - vAt ps b) r) : ∀ e, r = some e → cornD ps e := by
  rintro e rfl
  obtain ⟨t, p, _, et, t1, t2⟩ := ix_of (d := b) ps.length 0 e0 h0 (by omega)
  obtain ⟨j, q, j1, j2, j3, _, j5⟩ := leaving_next ha et t1 t2 hl
  exact ⟨q, List.mem_of_getElem? j2, by omega⟩
theorem nat_first (p : Nat → Prop) : (∀ n, ¬ p n) ∨ ∃ n, p n ∧ ∀ m, m < n → ¬ p m := by
  by_cases h : ∃ n, p n
  · obtain ⟨n, hn⟩ := h
    right
    induction n using Nat.strongRecOn with
    | ind n ih =>
      by_cases hm : ∃ m, m < n ∧ p m
      · obtain ⟨m, m1, m2⟩ := hm
        exact ih m m1 m2
      · exact ⟨n, hn, fun m h1 h2 => hm ⟨m, h1, h2⟩⟩
  · exact .inl fun n hn => h ⟨n, hn⟩
theorem leaving_ex (f : Int → Int) (b v k : Int) : ∃ r, IsLeaving f b v k r := by
  rcases nat_first (fun n : Nat => f (b + 2 + n) ≠ v + k * (b + 2 + n - b)) with hr | ⟨n, h1, h2⟩
  · exact ⟨none, fun d hd => by
      have := hr (d - (b + 2)).toNat
      rw [show b + 2 + ((d - (b + 2)).toNat : Int) = d by omega] at this
      exact Classical.not_not.mp this⟩
  · exact ⟨some (b + 2 + n), by omega, h1, fun d hd hd2 => by
      have := h2 (d - (b + 2)).toNat (by omega)
      rw [show b + 2 + ((d - (b + 2)).toNat : Int) = d by omega] at this
      exact Classical.not_not.mp this⟩
theorem find_leaving {f : Int → Int} {b v k : Int} {ns : List Int} (hp : ns.Pairwise (· < ·)) (hc : ∀ r, IsLeaving f b v k r → ∀ e, r = some e → e ∈ ns) : IsLeaving f b v k (ns.find? fun d => decide (b + 1 < d) && decide (f d ≠ v + k * (d - b))) := by
  obtain ⟨r, hr⟩ := leaving_ex f b v k
  have hc' := hc r hr
  have e : (ns.find? fun d => decide (b + 1 < d) && decide (f d ≠ v + k * (d - b))) = r := by
    cases r with
    | none =>
      rw [List.find?_eq_none]
      intro d hd
      simp only [Bool.and_eq_true, decide_eq_true_eq, not_and, Classical.not_not]
      exact fun hb => hr d (by omega)
    | some x =>
      have hx := hc' x rfl
      obtain ⟨h1, h2, h3⟩ := hr
      rw [List.find?_eq_some_iff_append]
      refine ⟨by simp [h2]; omega, ?_⟩
      obtain ⟨as, bs, e⟩ := List.append_of_mem hx
      refine ⟨as, bs, e, fun a ha => ?_⟩
      rw [e] at hp
      have hax := (List.pairwise_append.mp hp).2.2 a ha x (List.mem_cons_self ..)
      by_cases hb : b + 1 < a
      · have := h3 a (by omega) hax
        simp [hb, this]
      · simp [hb]
  rw [e]; exact hr

/-- looked for one by one -/
theorem find_drop {α : Type} {p : α → Bool} {ns : List α} {i : Nat} {x : α} (h : ns.find? p = (ns.drop i).find? p) (e : ns[i]? = some x) : (p x = true → ns.find? p = some x) ∧ (p x = false → ns.find? p = (ns.drop (i + 1)).find? p) := by
  have hl := (List.getElem?_eq_some_iff.mp e).1
  have hd : ns.drop i = x :: ns.drop (i + 1) := by
    rw [List.drop_eq_getElem_cons hl, (List.getElem?_eq_some_iff.mp e).2]
  rw [hd] at h
  refine ⟨fun hp => ?_, fun hp => ?_⟩
  · rw [h, List.find?_cons_of_pos hp]
  · rw [h, List.find?_cons_of_neg (by simp [hp])]
def spFirstOff : DSp := fun ds M P ex => ∃ (x : Dt) (ps : List Pc) (a c e n : Nat) (ns : List Int) (b v k : Int), ds = [x, .lst (ns.map .int), .int b, .int v, .int k] ∧ seqD M x = some (pcsD ps) ∧ PsOk a c n ps ∧ n ≤ 5000000 ∧ (∀ d ∈ ns, 0 ≤ d ∧ Bt a d) ∧ Bt a b ∧ Bt e k ∧ a + c + e + 20 < 1000000 ∧
  P (eoD (ns.find? fun d => decide (b + 1 < d) && decide (vAt ps d ≠ v + k * (d - b)))) M
theorem c_first_off (S : Sps) (h1 : S (.f "_law_at") = some spAt) (ds M P ex) (h : spFirstOff ds M P ex) : wBody n__law_first_off (r__law_first_off S) ds M P ex := by
  obtain ⟨x, ps, a, c, e, n, ns, b, v, k, rfl, hx, ⟨k1, k2, ⟨p0, k3, k4⟩, k5⟩, hn, hns, hb, hk, hz, h⟩ := h
  have sl := sizeLine_eq
  simp [wSeq, wRet, wRetN, wSet, wDrop, wIf, wNext, wBrk, wCnt, wOr, wAnd, wOrT, wAndT, wNot, wNotT, wTru, wIfE, wOpX, wUnX, wVar, wC, eget, eset, wCons, wNil, wTup, wLst, wB, one, wCall, oS, wPar, wPar3, wAsg, wLM, oA, refD, dgN, dgCons, dgNil, dgTup, binO, addO, subO, mulO, fdivO, modO, powO, cmpO, relO, isO, eqO, neO, oII, truD, Br, negO, isNon, oD, oL, sFalse, eFalse, wStar, notK, wBody, r__law_first_off, n__law_first_off, startD, h1, wFor, wIt]
  refine for_inv (fun i ρ M' => M' = M ∧ (∃ w5, ρ = [some x, some (.lst (ns.map .int)), some (.int b), some (.int v), some (.int k), w5]) ∧ (ns.find? fun d => decide (b + 1 < d) && decide (vAt ps d ≠ v + k * (d - b))) = ((ns.drop i).find? fun d => decide (b + 1 < d) && decide (vAt ps d ≠ v + k * (d - b)))) (fun _ _ _ _ => trivial) ⟨rfl, ⟨_, rfl⟩, rfl⟩ ?_ ?_
  · rintro ρ M' ⟨rfl, _, hr⟩
    rw [List.length_map, List.drop_length, List.find?_nil] at hr
    rw [hr] at h
    exact exitP_refl h
  · rintro i d ρ M' K hd ⟨rfl, ⟨w5, rfl⟩, hr⟩ hK
    obtain ⟨y, ey, rfl⟩ : ∃ n, ns[i]? = some n ∧ d = .int n := by
      rw [List.getElem?_map] at hd
      cases z : ns[i]? with
      | none => rw [z] at hd; cases hd
      | some n => rw [z] at hd; cases hd; exact ⟨n, rfl, rfl⟩
    obtain ⟨y0, yB⟩ := hns y (List.mem_of_getElem? ey)
    obtain ⟨f1, f2⟩ := find_drop hr ey
    have m1 : MulOk k (y - b) := mulOk_of hk (yB.sub hb (k := a + 1) (by omega) (by omega)) (by omega)
    simp [wSeq, wRet, wRetN, wSet, wDrop, wIf, wNext, wBrk, wCnt, wOr, wAnd, wOrT, wAndT, wNot, wNotT, wTru, wIfE, wOpX, wUnX, wVar, wC, eget, eset, wCons, wNil, wTup, wLst, wB, one, wCall, oS, wPar, wPar3, wAsg, wLM, oA, refD, dgN, dgCons, dgNil, dgTup, binO, addO, subO, mulO, fdivO, modO, powO, cmpO, relO, isO, eqO, neO, oII, truD, Br, negO, isNon, oD, oL, sFalse, eFalse, wStar, notK, h1]
    refine ⟨fun hlt => ?_, fun hge => hK _ _ ⟨rfl, ⟨_, rfl⟩, f2 (by simp; omega)⟩⟩
    refine ⟨x, ps, a, c, y, p0, rfl, hx, k1, k2, yB, by omega, by omega, k3, by omega, ?_⟩
    simp [m1, eqD_ii]
    refine ⟨fun hne => ?_, fun he => hK _ _ ⟨rfl, ⟨_, rfl⟩, f2 (by simp [he])⟩⟩
    rw [f1 (by simp [hne]; omega)] at h
    exact exitP_refl h
def cornL (ps : List Pc) : List Int := ps.flatMap fun p => [p.1, p.1 + 1, p.1 + 2]
theorem cornL_len (ps : List Pc) : (cornL ps).length = 3 * ps.length := by
  unfold cornL
  induction ps with
  | nil => rfl
  | cons p ps ih => rw [List.flatMap_cons, List.length_append, ih]; simp; omega
theorem mem_cornL {ps : List Pc} {d : Int} : d ∈ cornL ps ↔ cornD ps d := by
  unfold cornL cornD
  rw [List.mem_flatMap]
  simp
theorem cornL_snoc {ps : List Pc} {i : Nat} {p : Pc} (h : ps[i]? = some p) : cornL (ps.take (i + 1)) = cornL (ps.take i) ++ [p.1, p.1 + 1, p.1 + 2] := by
  unfold cornL
  rw [take_snoc h, List.flatMap_append]
  simp
theorem two_le {M : Mem} {f g : Addr} {o u : MO} (hf : M f = none) (hg : (M.put f o) g = none) : Mem.Le M (((M.put f o).put g u).del g) := fun b w q => by
  have h1 : b ≠ f := fun e => by rw [e, hf] at q; cases q
  have h2 : b ≠ g := fun e => by
    have : (M.put f o) g = M g := Mem.put_ne (e ▸ h1)
    rw [this, ← e, q] at hg; cases hg
  rw [Mem.del_ne h2, Mem.put_ne h2, Mem.put_ne h1]
  exact q
theorem pcs_len0 {ps : List Pc} : (pcsD ps).length = ps.length := pcsD_len ps
def spLawCanon : DSp := fun ds M P ex => ∃ (x : Dt) (ps : List Pc) (a c n : Nat), ds = [x] ∧ seqF x = some (pcsD ps) ∧ PsOk a c n ps ∧ 3 * n + 1 < scanBound ∧ 4 * (a + c) + 80 < 1000000 ∧ ∀ ts, Canon (vAt ps) ts → P (.lst (pcsD ts)) M
theorem c_law_canon (S : Sps) (h1 : S (.f "_law_at") = some spAt) (h2 : S (.f "_law_first_off") = some spFirstOff) (ds M P ex) (h : spLawCanon ds M P ex) : wBody n__law_canon (r__law_canon S) ds M P ex := by
  obtain ⟨x, ps, a, c, n, rfl, hx, ⟨k1, k2, ⟨p0, k3, k4⟩, k5⟩, hn, hz, h⟩ := h
  have sl := sizeLine_eq
  have sb : scanBound = 4096 := rfl
  have k2' : Bd (a + 4) c ps := k2.mono (by omega) (Nat.le_refl _)
  have hx' : ∀ M', seqD M' x = some (pcsD ps) := fun M' => seqF_seqD hx
  unfold wBody r__law_canon
  refine seq_cut (fun ρ' M1 => ∃ f, M f = none ∧ M1 = M.put f (.lst []) ∧ ρ' = [some x, some (.ref f), none, none, none, none, none]) (fun K hK => ?_) ?_
  · simp [wSeq, wRet, wRetN, wSet, wDrop, wIf, wNext, wBrk, wCnt, wOr, wAnd, wOrT, wAndT, wNot, wNotT, wTru, wIfE, wOpX, wUnX, wVar, wC, eget, eset, wCons, wNil, wTup, wLst, wB, one, wCall, oS, wPar, wPar3, wAsg, wLM, oA, refD, dgN, dgCons, dgNil, dgTup, binO, addO, subO, mulO, fdivO, modO, powO, cmpO, relO, isO, eqO, neO, oII, truD, Br, negO, isNon, oD, oL, sFalse, eFalse, wStar, notK, n__law_canon, startD]
    exact .inr fun f hf => hK _ _ ⟨f, hf, rfl, rfl⟩
  rintro ρ1 M1 ⟨f, hf, rfl, rfl⟩
  refine seq_cut (fun ρ' M1 => ∃ w2 w3 w4, M1 = M.put f (.lst ((cornL ps).map .int)) ∧ ρ' = [some x, some (.ref f), w2, w3, w4, none, none]) (fun K hK => ?_) ?_
  · simp only [wFor]
    rw [wIt_var rfl hx]
    refine for_inv (fun i ρ M' => ∃ w2 w3 w4, M' = M.put f (.lst ((cornL (ps.take i)).map .int)) ∧ ρ = [some x, some (.ref f), w2, w3, w4, none, none]) (fun i ρ M' _ => trivial) ⟨_, _, _, rfl, rfl⟩ ?_ ?_
    · rintro ρ M' ⟨w2, w3, w4, rfl, rfl⟩
      rw [pcsD_len, List.take_length]
      exact hK _ _ ⟨_, _, _, rfl, rfl⟩
    · rintro i d ρ M' K' hd ⟨w2, w3, w4, rfl, rfl⟩ hK'
      obtain ⟨p, ep, rfl⟩ := pcs_get hd
      have hi := (List.getElem?_eq_some_iff.mp ep).1
      have hl := cornL_len (ps.take i)
      rw [List.length_take] at hl
      simp [wSeq, wRet, wRetN, wSet, wDrop, wIf, wNext, wBrk, wCnt, wOr, wAnd, wOrT, wAndT, wNot, wNotT, wTru, wIfE, wOpX, wUnX, wVar, wC, eget, eset, wCons, wNil, wTup, wLst, wB, one, wCall, oS, wPar, wPar3, wAsg, wLM, oA, refD, dgN, dgCons, dgNil, dgTup, binO, addO, subO, mulO, fdivO, modO, powO, cmpO, relO, isO, eqO, neO, oII, truD, Br, negO, isNon, oD, oL, sFalse, eFalse, wStar, notK, pcD, lstM, Mem.put_same, lmExtend, Mem.put_put, -List.map_take]
      refine ⟨by omega, .inl ?_⟩
      simp only [lstOf, oL, Mem.put_same, Mem.put_put]
      refine ⟨?_, hK' _ _ ⟨_, _, _, ?_, rfl⟩⟩
      · simp only [List.length_map, List.length_cons, List.length_nil]; omega
      · rw [cornL_snoc ep, List.map_append]; rfl
  rintro ρ2 M2 ⟨w2, w3, w4, rfl, rfl⟩
  have hcl := cornL_len ps
  refine seq_cut (fun ρ' M1 => ∃ (ns : List Int) (g : Addr), ns.Pairwise (· < ·) ∧ (∀ k, k ∈ ns ↔ cornD ps k) ∧ (M.put f (.lst ((cornL ps).map .int))) g = none ∧ M1 = (M.put f (.lst ((cornL ps).map .int))).put g (.lst []) ∧ ρ' = [some x, some (.lst (ns.map .int)), w2, w3, w4, some (.ref g), some (.int 0)]) (fun K hK => ?_) ?_
  · simp only [wPar3, wCons, wNil, wSS, wVar, eget]
    simp only [listD, Mem.put_same, oL, intsD_map, oIs]
    refine ⟨by omega, fun ns n1 n2 => .inl ⟨by simp, .inr fun g hg => ?_⟩⟩
    simp only [wC, eset]
    exact hK _ _ ⟨ns, g, n1, fun k => (n2 k).trans mem_cornL, hg, rfl, rfl⟩
  rintro ρ3 M3 ⟨ns, g, n1, n2, hg, rfl, rfl⟩
  have hgf : g ≠ f := fun e => by rw [e, Mem.put_same] at hg; cases hg
  generalize hMf : M.put f (.lst ((cornL ps).map .int)) = Mf at *
  have hle : Mem.Le M ((Mf.put g (.lst [])).del g) := by rw [← hMf] at hg ⊢; exact two_le hf hg
  have pos : ∀ d ∈ ns, 0 ≤ d ∧ Bt (a + 4) d := fun d hd => by
    obtain ⟨p, hp, e⟩ := (n2 d).mp hd
    obtain ⟨i, hi⟩ := List.getElem?_of_mem hp
    have h0 : 0 ≤ p.1 := by
      cases i with
      | zero => rw [k3] at hi; cases hi; omega
      | succ i => have := k1.get k3 hi (by omega); omega
    have hb := (k2 p hp).1
    unfold Bt at hb ⊢
    have e4 : 2 ^ (a + 4) = 2 ^ a * 16 := Nat.pow_add 2 a 4
    have e5 : 0 < 2 ^ a := Nat.pow_pos (by decide)
    omega
  refine seq_cut (fun ρ' M1 => ∃ ts u2 u3 u4 u6, Canon (vAt ps) ts ∧ M1 = Mf.put g (.lst (pcsD ts)) ∧ ρ' = [some x, some (.lst (ns.map .int)), u2, u3, u4, some (.ref g), u6]) (fun K hK => ?_) ?_
  · refine wh_inv (fun m ρ M' => ∃ (acc : List Pc) (begin : Option Int) (u2 u3 u4 : Option Dt), M' = Mf.put g (.lst (pcsD acc)) ∧ ρ = [some x, some (.lst (ns.map .int)), u2, u3, u4, some (.ref g), some (eoD begin)] ∧
      match begin with
      | none => Canon (vAt ps) acc
      | some b => (∀ us, CanonFrom (vAt ps) b us → Canon (vAt ps) (acc ++ us)) ∧ Bt (a + 2) b ∧ 0 ≤ b ∧ ∃ j p, ps[j]? = some p ∧ p.1 ≤ b ∧ (∀ q, ps[j + 1]? = some q → b < q.1) ∧ acc.length ≤ j ∧ m + j = ps.length) ps.length ?_ ?_
    · obtain ⟨j, p, _, ej, j1, j2⟩ := ix_of (d := 0) ps.length 0 k3 (by omega) (by omega)
      have : j = 0 := by
        cases j with
        | zero => rfl
        | succ j => have := k1.get k3 ej (by omega); omega
      subst this
      exact ⟨[], some 0, w2, w3, w4, rfl, rfl, fun us hu => hu, by unfold Bt; exact Nat.pow_pos (by decide), Int.le_refl _, 0, p, ej, j1, j2, Nat.le_refl _, by omega⟩
    rintro m ρ M' K' ⟨acc, begin, u2, u3, u4, rfl, rfl, hI⟩ hK'
    cases begin with
    | none =>
      simp [wSeq, wRet, wRetN, wSet, wDrop, wIf, wNext, wBrk, wCnt, wOr, wAnd, wOrT, wAndT, wNot, wNotT, wTru, wIfE, wOpX, wUnX, wVar, wC, eget, eset, wCons, wNil, wTup, wLst, wB, one, wCall, oS, wPar, wPar3, wAsg, wLM, oA, refD, dgN, dgCons, dgNil, dgTup, binO, addO, subO, mulO, fdivO, modO, powO, cmpO, relO, isO, eqO, neO, oII, truD, Br, negO, isNon, oD, oL, sFalse, eFalse, wStar, notK, eoD]
      exact hK _ _ ⟨acc, _, _, _, _, hI, rfl, rfl⟩
    | some b =>
      obtain ⟨hc, hbB, hb0, j, p, ej, j1, j2, hacc, hm⟩ := hI
      have hb4 : Bt (a + 4) b := hbB.mono (by omega)
      have hb1 : Bt (a + 4) (b + 1) := hbB.add (show Bt 1 1 from by unfold Bt; decide) (by omega) (by omega)
      have jl := (List.getElem?_eq_some_iff.mp ej).1
      simp [wSeq, wRet, wRetN, wSet, wDrop, wIf, wNext, wBrk, wCnt, wOr, wAnd, wOrT, wAndT, wNot, wNotT, wTru, wIfE, wOpX, wUnX, wVar, wC, eget, eset, wCons, wNil, wTup, wLst, wB, one, wCall, oS, wPar, wPar3, wAsg, wLM, oA, refD, dgN, dgCons, dgNil, dgTup, binO, addO, subO, mulO, fdivO, modO, powO, cmpO, relO, isO, eqO, neO, oII, truD, Br, negO, isNon, oD, oL, sFalse, eFalse, wStar, notK, eoD, h1, h2]
      refine ⟨x, ps, a + 4, c, b, p0, rfl, hx' _, k1, k2', hb4, by omega, by omega, k3, by omega, ?_⟩
      simp
      refine ⟨x, ps, a + 4, c, b + 1, p0, rfl, hx' _, k1, k2', hb1, by omega, by omega, k3, by omega, ?_⟩
      simp [lstM, Mem.put_same, lmAppend, Mem.put_put]
      refine ⟨by omega, by rw [pcsD_len]; omega, ?_⟩
      have ea : pcsD acc ++ [.tup [.int b, .int (vAt ps b), .int (vAt ps (b + 1) - vAt ps b)]] = pcsD (acc ++ [(b, vAt ps b, vAt ps (b + 1) - vAt ps b)]) := by unfold pcsD; rw [List.map_append]; rfl
      rw [ea]
      have v1 := (vAt_bt k1 k2' k3 k4 hb0 hb4).1
      have v2 := (vAt_bt k1 k2' k3 k4 (by omega) hb1).1
      refine ⟨x, ps, a + 4, c, a + c + 10, n, ns, b, vAt ps b, vAt ps (b + 1) - vAt ps b, rfl, hx' _, ⟨k1, k2', ⟨p0, k3, k4⟩, k5⟩, by omega, pos, hb4, v2.sub v1 (by omega) (by omega), by omega, ?_⟩
      have hr := find_leaving (f := vAt ps) (b := b) (v := vAt ps b) (k := vAt ps (b + 1) - vAt ps b) n1 fun r hr e he => (n2 e).mpr (leaving_corner k1 k3 (by omega) hr e he)
      generalize (ns.find? fun d => decide (b + 1 < d) && decide (vAt ps d ≠ vAt ps b + (vAt ps (b + 1) - vAt ps b) * (d - b))) = r at hr
      cases r with
      | none =>
        exact hK' 0 _ _ (by omega) ⟨_, none, _, _, _, rfl, rfl, hc _ (.last hr)⟩
      | some e =>
        obtain ⟨j', q, y1, y2, y3, y4, y5⟩ := leaving_next k1 ej j1 j2 hr
        have yl := (List.getElem?_eq_some_iff.mp y2).1
        have e0 := hr.1
        refine hK' (ps.length - j') _ _ (by omega) ⟨_, some e, _, _, _, rfl, rfl, fun us hu => ?_, ?_, by omega, j', q, y2, y3, y4, ?_, by omega⟩
        · have := hc _ (.step hr hu)
          simpa using this
        · have q1 := (k2.get y2).1
          unfold Bt at q1 ⊢
          have p1 : 2 ^ (a + 2) = 2 ^ a * 4 := Nat.pow_add 2 a 2
          have p2 : 0 < 2 ^ a := Nat.pow_pos (by decide)
          omega
        · rw [List.length_append]; simp; omega
  rintro ρ4 M4 ⟨ts, u2, u3, u4, u6, t1, rfl, rfl⟩
  simp [wSeq, wRet, wRetN, wSet, wDrop, wIf, wNext, wBrk, wCnt, wOr, wAnd, wOrT, wAndT, wNot, wNotT, wTru, wIfE, wOpX, wUnX, wVar, wC, eget, eset, wCons, wNil, wTup, wLst, wB, one, wCall, oS, wPar, wPar3, wAsg, wLM, oA, refD, dgN, dgCons, dgNil, dgTup, binO, addO, subO, mulO, fdivO, modO, powO, cmpO, relO, isO, eqO, neO, oII, truD, Br, negO, isNon, oD, oL, sFalse, eFalse, wStar, notK]
  refine ⟨_, M, .frz Mem.put_same (.drop ?_ .refl), h ts t1⟩
  have : (Mf.put g (.lst (pcsD ts))).del g = (Mf.put g (.lst [])).del g := by
    funext b
    by_cases e : b = g
    · subst e; rw [Mem.del_same, Mem.del_same]
    · rw [Mem.del_ne e, Mem.del_ne e, Mem.put_ne e, Mem.put_ne e]
  rw [this]
  exact hle
end Fs
set_option maxHeartbeats 4000000
/-! Fd8: what the laws look at: pieces, numbers, stairs as told. -/
namespace Fs
open PySem PySem.Spec PyProof.Rows L2

theorem eqvAll_ints : ∀ (ns ms : List Int), PyData.eqvAll (ns.map .int) (ms.map .int) = decide (ns = ms)
  | [], [] => by simp [PyData.eqvAll]
  | [], q :: qs => by simp [PyData.eqvAll]
  | p :: ps, [] => by simp [PyData.eqvAll]
  | a :: ns, b :: ms => by
    have ih := eqvAll_ints ns ms
    simp only [List.map_cons, PyData.eqvAll, ih, PyData.eqv]
    rw [Bool.eq_iff_iff]
    simp
theorem eqD_ints {M : Mem} {ns ms : List Int} {f : Bool → Prop} (h : f (decide (ns = ms))) : eqD M (.lst (ns.map .int)) (.lst (ms.map .int)) f := by
  have sh : ∀ rs : List Int, SeqAt.shaped (.list (rs.map .int)) = true := fun rs => by
    show (PyData.canLay0 (.list (rs.map .int)) && decide (PyData.depth (.list (rs.map .int)) ≤ 64)) = true
    simp only [PyData.canLay0, PyData.depth, (shaped_ints rs).1]
    have := (shaped_ints rs).2
    simp; omega
  refine ⟨.list (ns.map .int), .list (ms.map .int), ?_, ?_, sh ns, sh ms, ?_⟩
  · show (toPys _).map PyData.list = _; rw [toPys_ints]; rfl
  · show (toPys _).map PyData.list = _; rw [toPys_ints]; rfl
  · show f (PyData.eqvAll _ _); rw [eqvAll_ints]; exact h
theorem cut_upto {α : Type} (xs : List α) (k : Nat) : cutD xs none (some (k : Int)) = xs.take k := by
  unfold cutD
  rw [HT.sIx_nat, HT.sIx_none, List.drop_zero, Nat.sub_zero]
  by_cases h : k ≤ xs.length
  · rw [Nat.min_eq_left h]
  · rw [Nat.min_eq_right (by omega), List.take_of_length_le (Nat.le_refl _), List.take_of_length_le (by omega)]
def spLawArePieces : DSp := fun ds M P ex => ∃ ps : List Pc, ds = [.tup (pcsD ps)] ∧ ps ≠ [] ∧ ps.length ≤ 5000000 ∧ Asc ps ∧ (∀ p, ps[0]? = some p → p.1 = 0) ∧ P (.bl true) M
theorem blsD_rep {α : Type} (l : List α) : blsD (l.map fun _ => Dt.bl true) = some (l.map fun _ => true) := by
  induction l with
  | nil => rfl
  | cons a r ih => simp only [List.map_cons, blsD, ih, Option.map_some]
theorem allT {α : Type} (l : List α) : (l.all fun _ => true) = true := by induction l with
  | nil => rfl
  | cons a r ih => simp [List.all_cons, ih]
theorem c_law_are_pieces (S : Sps) (ds M P ex) (h : spLawArePieces ds M P ex) : wBody n__law_are_pieces (r__law_are_pieces S) ds M P ex := by
  obtain ⟨ps, rfl, hn, hz, ha, h0, h⟩ := h
  have z := exitP_refl h
  have sl := sizeLine_eq
  have et : ∀ xs : List Dt, tyN M (.tup xs) = some "tuple" := fun _ => rfl
  have t1 : tyT "tuple" "tuple" = true := by decide
  have t2 : tyT "int" "int" = true := by decide
  have t3 : tyT "int" "bool" = false := by decide
  have ei : ∀ i : Int, tyN M (.int i) = some "int" := fun _ => rfl
  have hp : 0 < ps.length := List.length_pos_iff.mpr hn
  obtain ⟨p0, e0⟩ : ∃ p, ps[0]? = some p := ⟨_, List.getElem?_eq_getElem hp⟩
  unfold wBody r__law_are_pieces
  refine seq_cut (fun ρ' M1 => M1 = M ∧ ρ' = [some (.tup (pcsD ps)), none, none, none, none, none]) (fun K hK => ?_) ?_
  · simp [wSeq, wRet, wRetN, wSet, wDrop, wIf, wNext, wBrk, wCnt, wOr, wAnd, wOrT, wAndT, wNot, wNotT, wTru, wIfE, wOpX, wUnX, wVar, wC, eget, eset, wCons, wNil, wTup, wLst, wB, one, wCall, oS, wPar, wPar3, wAsg, wLM, oA, refD, dgN, dgCons, dgNil, dgTup, binO, addO, subO, mulO, fdivO, modO, powO, cmpO, relO, isO, eqO, neO, oII, truD, Br, negO, isNon, oD, oL, sFalse, eFalse, wStar, notK, n__law_are_pieces, startD, isi_prim S (et _) "tuple" (by decide), t1, wLc]
    rw [wIt_var rfl rfl]
    refine lc_mapA pcD (fun _ => .bl true) (show gd none M True from trivial) ps [] (fun p hp Q q => ?_) (by simp; omega) (.inl ?_)
    · have s0 : seqD M (pcD p) = some [.int p.1, .int p.2.1, .int p.2.2] := rfl
      simp [wSeq, wRet, wRetN, wSet, wDrop, wIf, wNext, wBrk, wCnt, wOr, wAnd, wOrT, wAndT, wNot, wNotT, wTru, wIfE, wOpX, wUnX, wVar, wC, eget, eset, wCons, wNil, wTup, wLst, wB, one, wCall, oS, wPar, wPar3, wAsg, wLM, oA, refD, dgN, dgCons, dgNil, dgTup, binO, addO, subO, mulO, fdivO, modO, powO, cmpO, relO, isO, eqO, neO, oII, truD, Br, negO, isNon, oD, oL, sFalse, eFalse, wStar, notK, dwipe, isi_prim S (show tyN M (pcD p) = some "tuple" from rfl) "tuple" (by decide), t1, dLen_seq s0, eqD_ii]
      exact q
    · simp [dAll, listD, oL, oBs, blsD_rep, all_true]
      exact hK _ _ ⟨rfl, rfl⟩
  rintro ρ1 M1 ⟨rfl, rfl⟩
  refine seq_cut (fun ρ' M2 => M2 = M1 ∧ ∃ w1 w3, ρ' = [some (.tup (pcsD ps)), w1, none, w3, none, none]) (fun K hK => ?_) ?_
  · simp only [wFor]
    rw [wIt_var rfl rfl]
    refine for_inv (fun i ρ M' => M' = M1 ∧ ∃ w1 w3, ρ = [some (.tup (pcsD ps)), w1, none, w3, none, none]) (fun _ _ _ _ => trivial) ⟨rfl, _, _, rfl⟩ ?_ ?_
    · rintro ρ M' ⟨rfl, w1, w3, rfl⟩
      exact hK _ _ ⟨rfl, _, _, rfl⟩
    · rintro i d ρ M' K' hd ⟨rfl, w1, w3, rfl⟩ hK'
      obtain ⟨p, ep, rfl⟩ := pcs_get hd
      simp [wSeq, wRet, wRetN, wSet, wDrop, wIf, wNext, wBrk, wCnt, wOr, wAnd, wOrT, wAndT, wNot, wNotT, wTru, wIfE, wOpX, wUnX, wVar, wC, eget, eset, wCons, wNil, wTup, wLst, wB, one, wCall, oS, wPar, wPar3, wAsg, wLM, oA, refD, dgN, dgCons, dgNil, dgTup, binO, addO, subO, mulO, fdivO, modO, powO, cmpO, relO, isO, eqO, neO, oII, truD, Br, negO, isNon, oD, oL, sFalse, eFalse, wStar, notK, wLc]
      rw [wIt_var (ds := [.int p.1, .int p.2.1, .int p.2.2]) rfl rfl]
      refine lc_mapA (α := Int) Dt.int (fun _ => .bl true) (show gd none M' True from trivial) [p.1, p.2.1, p.2.2] [] (fun v hv Q q => ?_) (by simp; omega) (.inl ?_)
      · simp [wSeq, wRet, wRetN, wSet, wDrop, wIf, wNext, wBrk, wCnt, wOr, wAnd, wOrT, wAndT, wNot, wNotT, wTru, wIfE, wOpX, wUnX, wVar, wC, eget, eset, wCons, wNil, wTup, wLst, wB, one, wCall, oS, wPar, wPar3, wAsg, wLM, oA, refD, dgN, dgCons, dgNil, dgTup, binO, addO, subO, mulO, fdivO, modO, powO, cmpO, relO, isO, eqO, neO, oII, truD, Br, negO, isNon, oD, oL, sFalse, eFalse, wStar, notK, dwipe, isi_prim S (ei v) "int" (by decide), isi_prim S (ei v) "bool" (by decide), t2, t3]
        exact q
      · simp [dAll, listD, oL, oBs, blsD]
        exact hK' _ _ ⟨rfl, _, _, rfl⟩
  rintro ρ2 M2 ⟨rfl, w1, w3, rfl⟩
  have el : (ps.map fun p => Dt.int p.1) = (ps.map (·.1)).map .int := by rw [List.map_map]; rfl
  refine seq_cut (fun ρ' M3 => M3 = M2 ∧ ρ' = [some (.tup (pcsD ps)), w1, some (.lst ((ps.map (·.1)).map .int)), w3, none, none]) (fun K hK => ?_) ?_
  · simp only [wSet, wLc]
    rw [wIt_var rfl rfl]
    refine lc_mapA pcD (fun p => .int p.1) (show gd none M2 True from trivial) ps [] (fun p hp Q q => ?_) (by simp; omega) (.inl ?_)
    · simp [wSeq, wRet, wRetN, wSet, wDrop, wIf, wNext, wBrk, wCnt, wOr, wAnd, wOrT, wAndT, wNot, wNotT, wTru, wIfE, wOpX, wUnX, wVar, wC, eget, eset, wCons, wNil, wTup, wLst, wB, one, wCall, oS, wPar, wPar3, wAsg, wLM, oA, refD, dgN, dgCons, dgNil, dgTup, binO, addO, subO, mulO, fdivO, modO, powO, cmpO, relO, isO, eqO, neO, oII, truD, Br, negO, isNon, oD, oL, sFalse, eFalse, wStar, notK, dwipe, ix_pc0]
      exact q
    · rw [List.nil_append, el]
      exact hK _ _ ⟨rfl, rfl⟩
  rintro ρ3 M3 ⟨rfl, rfl⟩
  have e1 : cutD ((ps.map (·.1)).map Dt.int) none (some 1) = [(0 : Int)].map .int := by
    rw [show cutD ((ps.map (·.1)).map Dt.int) none (some 1) = _ from cut_upto _ 1]
    cases ps with
    | nil => cases e0
    | cons p r => cases e0; have := h0 p0 rfl; simp [this]
  simp [wSeq, wRet, wRetN, wSet, wDrop, wIf, wNext, wBrk, wCnt, wOr, wAnd, wOrT, wAndT, wNot, wNotT, wTru, wIfE, wOpX, wUnX, wVar, wC, eget, eset, wCons, wNil, wTup, wLst, wB, one, wCall, oS, wPar, wPar3, wAsg, wLM, oA, refD, dgN, dgCons, dgNil, dgTup, binO, addO, subO, mulO, fdivO, modO, powO, cmpO, relO, isO, eqO, neO, oII, truD, Br, negO, isNon, oD, oL, sFalse, eFalse, wStar, notK, wSl, wP0, wP1, oCut, wLc, -List.map_map]
  rw [e1]
  refine .inl ⟨by omega, ?_⟩
  dsimp only [List.map_cons, List.map_nil]
  refine .inl (eqD_ints (ns := [0]) (ms := [0]) ?_)
  simp [wZip2, wSeq, wRet, wRetN, wSet, wDrop, wIf, wNext, wBrk, wCnt, wOr, wAnd, wOrT, wAndT, wNot, wNotT, wTru, wIfE, wOpX, wUnX, wVar, wC, eget, eset, wCons, wNil, wTup, wLst, wB, one, wCall, oS, wPar, wPar3, wAsg, wLM, oA, refD, dgN, dgCons, dgNil, dgTup, binO, addO, subO, mulO, fdivO, modO, powO, cmpO, relO, isO, eqO, neO, oII, truD, Br, negO, isNon, oD, oL, sFalse, eFalse, wStar, notK, wSl, wP0, wP1, oCut, seqF, -List.map_map]
  refine .inl ?_
  rw [show cutD ((ps.map (·.1)).map Dt.int) (some 1) none = _ from cut_from _ 1]
  refine lc_map (fun _ => .bl true) (show gd none M3 True from trivial) _ [] (fun d hd Q q => ?_) (by have := (zip2_len (as := (ps.map (·.1)).map Dt.int) (bs := ((ps.map (·.1)).map Dt.int).drop 1)).1; simp only [List.length_nil, List.length_map] at this ⊢; omega) (.inl ?_)
  · obtain ⟨i, hi⟩ := List.getElem?_of_mem hd
    obtain ⟨x, y, ex, ey, rfl⟩ := zip2_get hi
    rw [List.getElem?_drop, List.getElem?_map, List.getElem?_map] at ey
    rw [List.getElem?_map, List.getElem?_map] at ex
    cases u1 : ps[i]? with
    | none => rw [u1] at ex; cases ex
    | some p =>
      cases u2 : ps[1 + i]? with
      | none => rw [u2] at ey; cases ey
      | some q' =>
        rw [u1] at ex; rw [u2] at ey
        cases ex; cases ey
        have := ha.get u1 u2 (by omega)
        simp [wSeq, wRet, wRetN, wSet, wDrop, wIf, wNext, wBrk, wCnt, wOr, wAnd, wOrT, wAndT, wNot, wNotT, wTru, wIfE, wOpX, wUnX, wVar, wC, eget, eset, wCons, wNil, wTup, wLst, wB, one, wCall, oS, wPar, wPar3, wAsg, wLM, oA, refD, dgN, dgCons, dgNil, dgTup, binO, addO, subO, mulO, fdivO, modO, powO, cmpO, relO, isO, eqO, neO, oII, truD, Br, negO, isNon, oD, oL, sFalse, eFalse, wStar, notK, dwipe, this]
        exact q
  · simp [dAll, listD, oL, oBs, blsD_rep]
    rw [allT]
    exact z

/-! ### numbers -/
theorem wIt_le {i : Nat} {ex : EX} {ρ : DEnv} {M0 M : Mem} {P : List Dt → Gd → Mem → Prop} {x : Dt} {ds : List Dt} (h : eget ρ i = some x) (le : Mem.Le M0 M) (f : seqD M0 x = some ds) (k : ∀ g, (∀ M', Mem.Le M0 M' → gd g M' True) → P ds g M) : wIt (wVar i) ex ρ M P := by
  unfold wIt wVar
  rw [h]
  cases x with
  | tup es => cases f; exact k none fun _ _ => trivial
  | lst es => cases f; exact k none fun _ _ => trivial
  | scr es => cases f; exact k none fun _ _ => trivial
  | ref a =>
    have hm : M0 a = some (.lst ds) := by
      unfold seqD listD at f
      dsimp only at f
      cases q : M0 a with
      | none => rw [q] at f; cases f
      | some o =>
        rw [q] at f
        cases o with
        | lst es => cases f; rfl
        | _ => cases f
    dsimp only
    rw [le _ _ hm]
    exact k _ fun M' le => ⟨le _ _ hm, trivial⟩
  | _ => cases f
theorem ints_get {ns : List Int} {i : Nat} {d : Dt} (h : (ns.map Dt.int)[i]? = some d) : ∃ v, ns[i]? = some v ∧ d = .int v := by
  rw [List.getElem?_map] at h
  cases z : ns[i]? with
  | none => rw [z] at h; cases h
  | some n => rw [z] at h; cases h; exact ⟨n, rfl, rfl⟩
def spNumbers : DSp := fun ds M P ex => ∃ (x y : Dt) (ps : List Pc) (a c e n : Nat) (ns : List Int), ds = [x, y] ∧ seqD M x = some (pcsD ps) ∧ PsOk a c n ps ∧ n ≤ 5000000 ∧ seqD M y = some (ns.map .int) ∧ (∀ d ∈ ns, 0 ≤ d ∧ Bt e d) ∧ ns.length < sizeLine ∧ a + c + e + 10 < 1000000 ∧ P (.lst ((ns.map (vAt ps)).map .int)) M
theorem c_numbers (S : Sps) (ds M P ex) (h : spNumbers ds M P ex) : wBody n__law_numbers (r__law_numbers S) ds M P ex := by
  obtain ⟨x, y, ps, a, c, e, n, ns, rfl, hx, ⟨k1, k2, ⟨p0, k3, k4⟩, k5⟩, hn, hy, hns, hl, hz, h⟩ := h
  have sl := sizeLine_eq
  have pl := (List.getElem?_eq_some_iff.mp k3).1
  unfold wBody r__law_numbers
  refine seq_cut (fun ρ' M1 => ∃ f, M f = none ∧ M1 = M.put f (.lst []) ∧ ρ' = [some x, some y, some (.ref f), some (.int 0), none, none, none, none]) (fun K hK => ?_) ?_
  · simp [wSeq, wRet, wRetN, wSet, wDrop, wIf, wNext, wBrk, wCnt, wOr, wAnd, wOrT, wAndT, wNot, wNotT, wTru, wIfE, wOpX, wUnX, wVar, wC, eget, eset, wCons, wNil, wTup, wLst, wB, one, wCall, oS, wPar, wPar3, wAsg, wLM, oA, refD, dgN, dgCons, dgNil, dgTup, binO, addO, subO, mulO, fdivO, modO, powO, cmpO, relO, isO, eqO, neO, oII, truD, Br, negO, isNon, oD, oL, sFalse, eFalse, wStar, notK, n__law_numbers, startD]
    exact .inr fun f hf => hK _ _ ⟨f, hf, rfl, rfl⟩
  rintro ρ1 M1 ⟨f, hf, rfl, rfl⟩
  have st : ∀ us, seqD (M.put f (.lst us)) x = some (pcsD ps) := fun us => seqD_put hx hf
  have le0 : ∀ us, Mem.Le M (M.put f (.lst us)) := fun us => put_le hf
  have atv : ∀ (d : Int), 0 ≤ d → ∃ t p, ps[t]? = some p ∧ (t = 0 ∨ p.1 ≤ d) ∧ True := fun d hd => ⟨0, p0, k3, .inl rfl, trivial⟩
  refine seq_cut (fun ρ' M1 => ∃ w3 w4 w5 w6 w7, M1 = M.put f (.lst ((ns.map (vAt ps)).map .int)) ∧ ρ' = [some x, some y, some (.ref f), w3, w4, w5, w6, w7]) (fun K hK => ?_) ?_
  · simp only [wFor]
    refine wIt_le rfl (le0 _) hy fun g hg => ?_
    refine for_inv (fun i ρ M' => ∃ (at_ : Nat) (w4 w5 w6 w7 : Option Dt), at_ < ps.length ∧ M' = M.put f (.lst (((ns.take i).map (vAt ps)).map .int)) ∧ ρ = [some x, some y, some (.ref f), some (.int at_), w4, w5, w6, w7]) ?_ ⟨0, _, _, _, _, pl, rfl, rfl⟩ ?_ ?_
    · rintro i ρ M' ⟨_, _, _, _, _, _, rfl, _⟩
      exact hg _ (le0 _)
    · rintro ρ M' ⟨_, _, _, _, _, _, rfl, rfl⟩
      rw [List.length_map, List.take_length]
      exact hK _ _ ⟨_, _, _, _, _, rfl, rfl⟩
    · rintro i d ρ M' K' hd ⟨t0, w4, w5, w6, w7, ht, rfl, rfl⟩ hK'
      obtain ⟨v, ev, rfl⟩ := ints_get hd
      obtain ⟨hv0, hvB⟩ := hns v (List.mem_of_getElem? ev)
      obtain ⟨q0, eq0⟩ : ∃ q, ps[t0]? = some q := ⟨_, List.getElem?_eq_getElem ht⟩
      generalize hMM : M.put f (.lst (((ns.take i).map (vAt ps)).map .int)) = MM
      have hxx : seqD MM x = some (pcsD ps) := by rw [← hMM]; exact st _
      simp only [dgN, eset]
      refine seq_cut (fun ρ' M2 => M2 = MM ∧ ∃ (t : Nat) (p : Pc), ps[t]? = some p ∧ p.1 ≤ v ∧ ρ' = [some x, some y, some (.ref f), some (.int t), some (.int v), w5, w6, w7]) (fun K2 hK2 => ?_) ?_
      · simp [wSeq, wRet, wRetN, wSet, wDrop, wIf, wNext, wBrk, wCnt, wOr, wAnd, wOrT, wAndT, wNot, wNotT, wTru, wIfE, wOpX, wUnX, wVar, wC, eget, eset, wCons, wNil, wTup, wLst, wB, one, wCall, oS, wPar, wPar3, wAsg, wLM, oA, refD, dgN, dgCons, dgNil, dgTup, binO, addO, subO, mulO, fdivO, modO, powO, cmpO, relO, isO, eqO, neO, oII, truD, Br, negO, isNon, oD, oL, sFalse, eFalse, wStar, notK, ixO_seq S hxx, atI_pcs eq0, oD, ix_pc0]
        refine ⟨fun hle => hK2 _ _ ⟨rfl, t0, q0, eq0, hle, rfl⟩, fun _ => hK2 _ _ ⟨rfl, 0, p0, k3, by omega, rfl⟩⟩
      rintro ρ3 M3 ⟨rfl, t, p, ep, hpv, rfl⟩
      refine seq_cut (fun ρ' M2 => M2 = M3 ∧ ∃ (t : Nat) (p : Pc), ps[t]? = some p ∧ p.1 ≤ v ∧ (∀ q, ps[t + 1]? = some q → v < q.1) ∧ ρ' = [some x, some y, some (.ref f), some (.int t), some (.int v), w5, w6, w7]) (fun K2 hK2 => ?_) ?_
      · refine wh_inv (fun m ρ M2 => M2 = M3 ∧ ∃ (t : Nat) (p : Pc), ps[t]? = some p ∧ p.1 ≤ v ∧ m = ps.length - t ∧ ρ = [some x, some y, some (.ref f), some (.int t), some (.int v), w5, w6, w7]) _ ⟨rfl, t, p, ep, hpv, rfl, rfl⟩ ?_
        rintro m ρ M2 K3 ⟨rfl, t, p, ep, hpv, rfl, rfl⟩ hK3
        have tl := (List.getElem?_eq_some_iff.mp ep).1
        simp [wSeq, wRet, wRetN, wSet, wDrop, wIf, wNext, wBrk, wCnt, wOr, wAnd, wOrT, wAndT, wNot, wNotT, wTru, wIfE, wOpX, wUnX, wVar, wC, eget, eset, wCons, wNil, wTup, wLst, wB, one, wCall, oS, wPar, wPar3, wAsg, wLM, oA, refD, dgN, dgCons, dgNil, dgTup, binO, addO, subO, mulO, fdivO, modO, powO, cmpO, relO, isO, eqO, neO, oII, truD, Br, negO, isNon, oD, oL, sFalse, eFalse, wStar, notK, dLen_seq hxx, pcsD_len]
        refine ⟨fun hlt => ?_, fun hge => ?_⟩
        · have hlt' : t + 1 < ps.length := by omega
          obtain ⟨q, eq⟩ : ∃ q, ps[t + 1]? = some q := ⟨_, List.getElem?_eq_getElem hlt'⟩
          have ec : ((t : Int) + 1) = ((t + 1 : Nat) : Int) := by omega
          rw [ec]
          simp only [ixO_seq S hxx, atI_pcs eq, oD]
          simp [wSeq, wRet, wRetN, wSet, wDrop, wIf, wNext, wBrk, wCnt, wOr, wAnd, wOrT, wAndT, wNot, wNotT, wTru, wIfE, wOpX, wUnX, wVar, wC, eget, eset, wCons, wNil, wTup, wLst, wB, one, wCall, oS, wPar, wPar3, wAsg, wLM, oA, refD, dgN, dgCons, dgNil, dgTup, binO, addO, subO, mulO, fdivO, modO, powO, cmpO, relO, isO, eqO, neO, oII, truD, Br, negO, isNon, oD, oL, sFalse, eFalse, wStar, notK, ix_pc0]
          refine ⟨fun hle => hK3 _ _ _ (by omega) ⟨rfl, t + 1, q, eq, hle, rfl, rfl⟩, fun hgt => hK2 _ _ ⟨rfl, t, p, ep, hpv, fun q' e' => ?_, rfl⟩⟩
          rw [eq] at e'; cases e'; omega
        · refine hK2 _ _ ⟨rfl, t, p, ep, hpv, fun q' e' => ?_, rfl⟩
          have := (List.getElem?_eq_some_iff.mp e').1
          omega
      rintro ρ4 M4 ⟨rfl, t, p, ep, hpv, hnx, rfl⟩
      have hvA := (vAt_ix k1 ep (.inr hpv) hnx).1
      obtain ⟨B1, B2, B3⟩ := k2.get ep
      have m1 : MulOk p.2.2 (v - p.1) := mulOk_of B3 (hvB.sub B1 (k := a + e + 1) (by omega) (by omega)) (by omega)
      have il := (List.getElem?_eq_some_iff.mp ev).1
      subst hMM
      simp [wSeq, wRet, wRetN, wSet, wDrop, wIf, wNext, wBrk, wCnt, wOr, wAnd, wOrT, wAndT, wNot, wNotT, wTru, wIfE, wOpX, wUnX, wVar, wC, eget, eset, wCons, wNil, wTup, wLst, wB, one, wCall, oS, wPar, wPar3, wAsg, wLM, oA, refD, dgN, dgCons, dgNil, dgTup, binO, addO, subO, mulO, fdivO, modO, powO, cmpO, relO, isO, eqO, neO, oII, truD, Br, negO, isNon, oD, oL, sFalse, eFalse, wStar, notK, ixO_seq S hxx, atI_pcs ep, oD, pcD, m1, lstM, Mem.put_same, lmAppend, Mem.put_put, -List.map_take, -List.map_map]
      refine ⟨by omega, hK' _ _ ⟨t, _, _, _, _, (List.getElem?_eq_some_iff.mp ep).1, ?_, rfl⟩⟩
      rw [take_snoc ev, List.map_append, List.map_append]
      have : p.2.1 + p.2.2 * (v - p.1) = vAt ps v := hvA.symm
      rw [this]; rfl
  rintro ρ2 M2 ⟨w3, w4, w5, w6, w7, rfl, rfl⟩
  simp [wSeq, wRet, wRetN, wSet, wDrop, wIf, wNext, wBrk, wCnt, wOr, wAnd, wOrT, wAndT, wNot, wNotT, wTru, wIfE, wOpX, wUnX, wVar, wC, eget, eset, wCons, wNil, wTup, wLst, wB, one, wCall, oS, wPar, wPar3, wAsg, wLM, oA, refD, dgN, dgCons, dgNil, dgTup, binO, addO, subO, mulO, fdivO, modO, powO, cmpO, relO, isO, eqO, neO, oII, truD, Br, negO, isNon, oD, oL, sFalse, eFalse, wStar, notK]
  exact ⟨_, M, .frz Mem.put_same (.drop (by rw [Mem.del_put hf]; exact Mem.Le.refl M) .refl), by simpa using h⟩
/-! ### stairs are as told -/
def spIsAs : DSp := fun ds M P ex => ∃ (ts : List Pc) (f : Int → Int) (y z : Dt) (a c e n m r : Nat) (ns : List Int), ds = [stD ts, y, z] ∧ Canon f ts ∧ PsOk a c n ts ∧ 3 * n + 1 < scanBound ∧ 4 * (a + c + e) + 80 < 1000000 ∧
  seqF y = some (ns.map .int) ∧ (∀ d ∈ ns, 0 ≤ d ∧ Bt e d) ∧ ns.length < sizeLine ∧ listD M z = some ((ns.map f).map .int) ∧ (∀ us, z ≠ .scr us) ∧ (∀ d ∈ ns, Bt m (f d)) ∧ m < 1900 ∧ (m + 12) * (ns.length + 1) ≤ sizeLine ∧
  Bd r r ts ∧ r < 1900 ∧ (r + 12) * (4 * ts.length + 1) ≤ sizeLine ∧ P (.bl true) M
theorem c_is_as (S : Sps) (h0 : (S (.c "Stairs")).isSome) (h1 : S (.p "Stairs" "pieces") = some spPieces) (h2 : S (.m "Stairs" "__getitem__") = some spGetItem) (h3 : S (.f "_law_are_pieces") = some spLawArePieces) (h4 : S (.f "_law_numbers") = some spNumbers) (h5 : S (.f "_law_canon") = some spLawCanon)
    (ds M P ex) (h : spIsAs ds M P ex) : wBody n__law_is_as (r__law_is_as S) ds M P ex := by
  obtain ⟨ts, f, y, z, a, c, e, n, m, r, ns, rfl, hC, hk, hn, hz, hy, hns, hl, hzz, hzs, hm, hm9, hml, hr, hr9, hrl, h⟩ := h
  have sl := sizeLine_eq
  have sb : scanBound = 4096 := rfl
  have ef : ns.map (vAt ts) = ns.map f := List.map_congr_left fun d hd => hC.at d (hns d hd).1
  have hmv : ∀ v ∈ ns.map f, Bt m v := fun v hv => by
    obtain ⟨d, hd, rfl⟩ := List.mem_map.mp hv
    exact hm d hd
  have tlen := hk.len
  obtain ⟨p0, e0, e00⟩ := hk.hd
  unfold wBody r__law_is_as
  refine seq_cut (fun ρ' M1 => M1 = M ∧ ρ' = [some (stD ts), some y, some z, some (.tup (pcsD ts)), none]) (fun K hK => ?_) ?_
  · simp [wSeq, wRet, wRetN, wSet, wDrop, wIf, wNext, wBrk, wCnt, wOr, wAnd, wOrT, wAndT, wNot, wNotT, wTru, wIfE, wOpX, wUnX, wVar, wC, eget, eset, wCons, wNil, wTup, wLst, wB, one, wCall, oS, wPar, wPar3, wAsg, wLM, oA, refD, dgN, dgCons, dgNil, dgTup, binO, addO, subO, mulO, fdivO, modO, powO, cmpO, relO, isO, eqO, neO, oII, truD, Br, negO, isNon, oD, oL, sFalse, eFalse, wStar, notK, n__law_is_as, startD, wAttr]
    exact prop_pieces S h1 ts M _ _ (hK _ _ ⟨rfl, rfl⟩)
  rintro ρ1 M1 ⟨rfl, rfl⟩
  have rz : ∀ Q : DK, Q (.str (shI (ns.map f))) M1 → dRepr z M1 Q := fun Q q => repr_ints hzz hzs hmv hm9 (by rw [List.length_map]; exact hml) q
  have rv : ∀ Q : DK, Q (.str (shI (ns.map f))) M1 → dRepr (.lst ((ns.map f).map .int)) M1 Q := fun Q q => repr_ints (M := M1) (x := .lst ((ns.map f).map .int)) rfl (fun _ h => by cases h) hmv hm9 (by rw [List.length_map]; exact hml) q
  refine seq_cut (fun ρ' M2 => M2 = M1 ∧ ρ' = [some (stD ts), some y, some z, some (.tup (pcsD ts)), none]) (fun K hK => ?_) ?_
  · simp [wSeq, wRet, wRetN, wSet, wDrop, wIf, wNext, wBrk, wCnt, wOr, wAnd, wOrT, wAndT, wNot, wNotT, wTru, wIfE, wOpX, wUnX, wVar, wC, eget, eset, wCons, wNil, wTup, wLst, wB, one, wCall, oS, wPar, wPar3, wAsg, wLM, oA, refD, dgN, dgCons, dgNil, dgTup, binO, addO, subO, mulO, fdivO, modO, powO, cmpO, relO, isO, eqO, neO, oII, truD, Br, negO, isNon, oD, oL, sFalse, eFalse, wStar, notK, wLc, h3]
    rw [wIt_var rfl hy]
    refine lc_mapA Dt.int (fun d => .int (f d)) (show gd none M1 True from trivial) ns [] (fun d hd Q q => ?_) (by simp; omega) (.inl ?_)
    · obtain ⟨d0, dB⟩ := hns d hd
      simp [wSeq, wRet, wRetN, wSet, wDrop, wIf, wNext, wBrk, wCnt, wOr, wAnd, wOrT, wAndT, wNot, wNotT, wTru, wIfE, wOpX, wUnX, wVar, wC, eget, eset, wCons, wNil, wTup, wLst, wB, one, wCall, oS, wPar, wPar3, wAsg, wLM, oA, refD, dgN, dgCons, dgNil, dgTup, binO, addO, subO, mulO, fdivO, modO, powO, cmpO, relO, isO, eqO, neO, oII, truD, Br, negO, isNon, oD, oL, sFalse, eFalse, wStar, notK, dwipe]
      have hgi : spGetItem [stD ts, .int d] M1 Q noX := ⟨ts, a, c, n, e, d, rfl, hk, dB, d0, by omega, by rw [hC.at d d0]; exact q⟩
      simp only [ixO, stD]
      rw [h2]
      exact hgi
    have em : ns.map (fun d => Dt.int (f d)) = (ns.map f).map .int := by rw [List.map_map]; rfl
    rw [List.nil_append, em]
    refine rv _ (rz _ ?_)
    simp [wSeq, wRet, wRetN, wSet, wDrop, wIf, wNext, wBrk, wCnt, wOr, wAnd, wOrT, wAndT, wNot, wNotT, wTru, wIfE, wOpX, wUnX, wVar, wC, eget, eset, wCons, wNil, wTup, wLst, wB, one, wCall, oS, wPar, wPar3, wAsg, wLM, oA, refD, dgN, dgCons, dgNil, dgTup, binO, addO, subO, mulO, fdivO, modO, powO, cmpO, relO, isO, eqO, neO, oII, truD, Br, negO, isNon, oD, oL, sFalse, eFalse, wStar, notK, eqD_ii]
    refine ⟨ts, rfl, hk.ne, by omega, hk.asc, fun p hp => (by rw [e0] at hp; cases hp; exact e00), ?_⟩
    simp
    exact hK _ _ ⟨rfl, rfl⟩
  rintro ρ2 M2 ⟨rfl, rfl⟩
  refine seq_cut (fun ρ' M3 => M3 = M2 ∧ ρ' = [some (stD ts), some y, some z, some (.tup (pcsD ts)), none]) (fun K hK => ?_) ?_
  · simp [wSeq, wRet, wRetN, wSet, wDrop, wIf, wNext, wBrk, wCnt, wOr, wAnd, wOrT, wAndT, wNot, wNotT, wTru, wIfE, wOpX, wUnX, wVar, wC, eget, eset, wCons, wNil, wTup, wLst, wB, one, wCall, oS, wPar, wPar3, wAsg, wLM, oA, refD, dgN, dgCons, dgNil, dgTup, binO, addO, subO, mulO, fdivO, modO, powO, cmpO, relO, isO, eqO, neO, oII, truD, Br, negO, isNon, oD, oL, sFalse, eFalse, wStar, notK, h4]
    refine ⟨.tup (pcsD ts), y, ts, a, c, e, n, ns, rfl, rfl, hk, by omega, seqF_seqD hy, hns, hl, by omega, ?_⟩
    rw [ef]
    refine rv _ (rz _ ?_)
    simp [wSeq, wRet, wRetN, wSet, wDrop, wIf, wNext, wBrk, wCnt, wOr, wAnd, wOrT, wAndT, wNot, wNotT, wTru, wIfE, wOpX, wUnX, wVar, wC, eget, eset, wCons, wNil, wTup, wLst, wB, one, wCall, oS, wPar, wPar3, wAsg, wLM, oA, refD, dgN, dgCons, dgNil, dgTup, binO, addO, subO, mulO, fdivO, modO, powO, cmpO, relO, isO, eqO, neO, oII, truD, Br, negO, isNon, oD, oL, sFalse, eFalse, wStar, notK]
    exact hK _ _ ⟨rfl, rfl⟩
  rintro ρ3 M3 ⟨rfl, rfl⟩
  simp [wSeq, wRet, wRetN, wSet, wDrop, wIf, wNext, wBrk, wCnt, wOr, wAnd, wOrT, wAndT, wNot, wNotT, wTru, wIfE, wOpX, wUnX, wVar, wC, eget, eset, wCons, wNil, wTup, wLst, wB, one, wCall, oS, wPar, wPar3, wAsg, wLM, oA, refD, dgN, dgCons, dgNil, dgTup, binO, addO, subO, mulO, fdivO, modO, powO, cmpO, relO, isO, eqO, neO, oII, truD, Br, negO, isNon, oD, oL, sFalse, eFalse, wStar, notK, h5]
  refine repr_pcs hr hr9 hrl ?_
  simp [dList, seqD, listD, oL]
  refine .inl ⟨.lst (pcsD ts), ts, a, c, n, rfl, rfl, hk, hn, by omega, fun us hu => ?_⟩
  have : us = ts := hu.eq hC fun d hd => hC.at d hd
  subst this
  simp [dTuple, listD, oL]
  refine repr_pcs hr hr9 hrl ?_
  simp
  exact exitP_refl h
/-! ### corners -/
def totL (Ls : List (List Pc)) : Nat := (Ls.map List.length).sum
theorem totL_snoc {Ls : List (List Pc)} {i : Nat} {ps : List Pc} (h : Ls[i]? = some ps) : totL (Ls.take (i + 1)) = totL (Ls.take i) + ps.length := by
  unfold totL
  rw [take_snoc h, List.map_append, List.sum_append]
  simp
theorem totL_le {Ls : List (List Pc)} (i : Nat) : totL (Ls.take i) ≤ totL Ls := by
  have h : totL Ls = totL (Ls.take i) + totL (Ls.drop i) := by
    unfold totL
    rw [← List.sum_append, ← List.map_append, List.take_append_drop]
  omega
theorem nodup_le : ∀ {xs ys : List Int}, xs.Pairwise (· < ·) → (∀ x ∈ xs, x ∈ ys) → xs.length ≤ ys.length
  | [], _, _, _ => Nat.zero_le _
  | x :: xs, ys, h, hs => by
    have h' := List.pairwise_cons.mp h
    have ih := nodup_le (ys := ys.erase x) h'.2 fun z hz => by
      have hne : z ≠ x := by have := h'.1 z hz; omega
      exact (List.mem_erase_of_ne hne).mpr (hs z (List.mem_cons_of_mem _ hz))
    have hx := hs x (List.mem_cons_self ..)
    have := List.length_erase_of_mem hx
    have := List.length_pos_of_mem hx
    simp only [List.length_cons]
    omega
def spCorners : DSp := fun ds M P ex => ∃ (Ls : List (List Pc)) (a : Nat), ds = [.lst (Ls.map lstPc)] ∧ (∀ ps ∈ Ls, ∀ p ∈ ps, 0 ≤ p.1 ∧ Bt a p.1) ∧ 0 < totL Ls ∧ 4 * totL Ls + 3 < scanBound ∧ a < 100000 ∧
  ∀ ns : List Int, (∀ d ∈ ns, 0 ≤ d ∧ Bt (a + 124) d) → ns.length ≤ 4 * totL Ls + 2 → P (.lst (ns.map .int)) M
theorem c_corners (S : Sps) (ds M P ex) (h : spCorners ds M P ex) : wBody n__law_corners (r__law_corners S) ds M P ex := by
  obtain ⟨Ls, a, rfl, hLs, hp0, hbnd, ha, h⟩ := h
  have sl := sizeLine_eq
  have sb : scanBound = 4096 := rfl
  unfold wBody r__law_corners
  refine seq_cut (fun ρ' M1 => ∃ f, M f = none ∧ M1 = M.put f (.lst []) ∧ ρ' = [some (.lst (Ls.map lstPc)), some (.ref f), none, none, none, none]) (fun K hK => ?_) ?_
  · simp [wSeq, wRet, wRetN, wSet, wDrop, wIf, wNext, wBrk, wCnt, wOr, wAnd, wOrT, wAndT, wNot, wNotT, wTru, wIfE, wOpX, wUnX, wVar, wC, eget, eset, wCons, wNil, wTup, wLst, wB, one, wCall, oS, wPar, wPar3, wAsg, wLM, oA, refD, dgN, dgCons, dgNil, dgTup, binO, addO, subO, mulO, fdivO, modO, powO, cmpO, relO, isO, eqO, neO, oII, truD, Br, negO, isNon, oD, oL, sFalse, eFalse, wStar, notK, n__law_corners, startD]
    exact .inr fun f hf => hK _ _ ⟨f, hf, rfl, rfl⟩
  rintro ρ1 M1 ⟨f, hf, rfl, rfl⟩
  refine seq_cut (fun ρ' M1 => ∃ (acc : List Int) (w2 w3 w4 w5 : Option Dt), acc.length = 4 * totL Ls ∧ (∀ d ∈ acc, 0 ≤ d ∧ Bt (a + 2) d) ∧ M1 = M.put f (.lst (acc.map .int)) ∧ ρ' = [some (.lst (Ls.map lstPc)), some (.ref f), w2, w3, w4, w5]) (fun K hK => ?_) ?_
  · simp only [wFor]
    rw [wIt_var rfl rfl]
    refine for_inv (fun i ρ M1 => ∃ (acc : List Int) (w2 w3 w4 w5 : Option Dt), acc.length = 4 * totL (Ls.take i) ∧ (∀ d ∈ acc, 0 ≤ d ∧ Bt (a + 2) d) ∧ M1 = M.put f (.lst (acc.map .int)) ∧ ρ = [some (.lst (Ls.map lstPc)), some (.ref f), w2, w3, w4, w5]) (fun _ _ _ _ => trivial) ⟨[], _, _, _, _, rfl, fun d hd => (by cases hd), rfl, rfl⟩ ?_ ?_
    · rintro ρ M' ⟨acc, w2, w3, w4, w5, k1, k2, rfl, rfl⟩
      rw [List.length_map, List.take_length] at k1
      exact hK _ _ ⟨acc, _, _, _, _, k1, k2, rfl, rfl⟩
    · rintro i d ρ M' K' hd ⟨acc, w2, w3, w4, w5, k1, k2, rfl, rfl⟩ hK'
      obtain ⟨ps, ep, rfl⟩ : ∃ ps, Ls[i]? = some ps ∧ d = lstPc ps := by
        rw [List.getElem?_map] at hd
        cases z : Ls[i]? with
        | none => rw [z] at hd; cases hd
        | some n => rw [z] at hd; cases hd; exact ⟨n, rfl, rfl⟩
      have hps := hLs ps (List.mem_of_getElem? ep)
      have hs1 := totL_snoc ep
      have hs2 := totL_le (Ls := Ls) (i + 1)
      simp only [wFor, dgN, eset, lstPc]
      rw [wIt_var (ds := pcsD ps) rfl rfl]
      refine for_inv (fun j ρ M1 => ∃ (acc : List Int) (w3 w4 w5 : Option Dt), acc.length = 4 * totL (Ls.take i) + 4 * j ∧ (∀ d ∈ acc, 0 ≤ d ∧ Bt (a + 2) d) ∧ M1 = M.put f (.lst (acc.map .int)) ∧ ρ = [some (.lst (Ls.map lstPc)), some (.ref f), some (.lst (pcsD ps)), w3, w4, w5]) (fun _ _ _ _ => trivial) ⟨acc, _, _, _, k1, k2, rfl, rfl⟩ ?_ ?_
      · rintro ρ M' ⟨acc, w3, w4, w5, k1, k2, rfl, rfl⟩
        rw [pcsD_len] at k1
        exact hK' _ _ ⟨acc, _, _, _, _, by omega, k2, rfl, rfl⟩
      · rintro j d ρ M' K2 hd ⟨acc, w3, w4, w5, k1, k2, rfl, rfl⟩ hK2
        obtain ⟨p, ej, rfl⟩ := pcs_get hd
        have jl := (List.getElem?_eq_some_iff.mp ej).1
        obtain ⟨p0, pB⟩ := hps p (List.mem_of_getElem? ej)
        simp [wSeq, wRet, wRetN, wSet, wDrop, wIf, wNext, wBrk, wCnt, wOr, wAnd, wOrT, wAndT, wNot, wNotT, wTru, wIfE, wOpX, wUnX, wVar, wC, eget, eset, wCons, wNil, wTup, wLst, wB, one, wCall, oS, wPar, wPar3, wAsg, wLM, oA, refD, dgN, dgCons, dgNil, dgTup, binO, addO, subO, mulO, fdivO, modO, powO, cmpO, relO, isO, eqO, neO, oII, truD, Br, negO, isNon, oD, oL, sFalse, eFalse, wStar, notK, pcD, lstM, Mem.put_same, lmExtend, Mem.put_put, dMax, oII]
        refine ⟨by omega, .inl ?_⟩
        simp only [lstOf, oL, Mem.put_same, Mem.put_put]
        refine ⟨?_, hK2 _ _ ⟨acc ++ [maxI 0 (p.1 - 1), p.1, p.1 + 1, p.1 + 2], _, _, _, ?_, fun d hd => ?_, ?_, rfl⟩⟩
        · simp only [List.length_map, List.length_cons, List.length_nil]; omega
        · simp only [List.length_append, List.length_cons, List.length_nil]; omega
        · rcases List.mem_append.mp hd with hd | hd
          · exact k2 d hd
          · have pB' : p.1.natAbs < 2 ^ a := pB
            have q1 : 2 ^ (a + 2) = 2 ^ a * 4 := Nat.pow_add 2 a 2
            have q2 : 0 < 2 ^ a := Nat.pow_pos (by decide)
            unfold Bt
            rw [q1]
            simp only [List.mem_cons, List.not_mem_nil, or_false] at hd
            rcases hd with rfl | rfl | rfl | rfl
            · unfold maxI; split <;> omega
            · omega
            · omega
            · omega
        · rw [List.map_append]; rfl
  rintro ρ2 M2 ⟨acc, w2, w3, w4, w5, k1, k2, rfl, rfl⟩
  have hle : Mem.Le M (M.put f (.lst (acc.map .int))) := put_le hf
  have hne : acc ≠ [] := fun e => by rw [e] at k1; simp at k1; omega
  have pw9 : PowOk 10 9 := by unfold PowOk; decide
  have pw36 : PowOk 10 36 := by unfold PowOk; decide
  simp [wSeq, wRet, wRetN, wSet, wDrop, wIf, wNext, wBrk, wCnt, wOr, wAnd, wOrT, wAndT, wNot, wNotT, wTru, wIfE, wOpX, wUnX, wVar, wC, eget, eset, wCons, wNil, wTup, wLst, wB, one, wCall, oS, wPar, wPar3, wAsg, wLM, oA, refD, dgN, dgCons, dgNil, dgTup, binO, addO, subO, mulO, fdivO, modO, powO, cmpO, relO, isO, eqO, neO, oII, truD, Br, negO, isNon, oD, oL, sFalse, eFalse, wStar, notK, wSS, dMax, listD, Mem.put_same, oL, intsD_map, oIs, pw9, pw36, hne]
  intro m hm _ m' hm' _
  refine ⟨by omega, .inl ?_⟩
  simp only [lstOf, Mem.put_same]
  refine ⟨by simp only [List.length_map, List.length_cons, List.length_nil]; omega, .inl ?_⟩
  have e : acc.map Dt.int ++ [.int (m + 1000000000), .int (m' + 1000000000000000000000000000000000000)] = (acc ++ [m + 1000000000, m' + 1000000000000000000000000000000000000]).map .int := by rw [List.map_append]; rfl
  rw [e]
  simp only [intsD_map]
  refine ⟨by rw [List.length_append]; simp only [List.length_cons, List.length_nil]; omega, fun ns n1 n2 => .inl ⟨_, M, .drop hle .refl, h ns (fun d hd => ?_) ?_⟩⟩
  · have hd := (n2 d).mp hd
    have far : ∀ d, d ∈ acc → 0 ≤ d ∧ Bt (a + 2) d := k2
    have key : ∀ x y : Int, x ∈ acc → 0 ≤ y → y ≤ 1000000000000000000000000000000000000 → 0 ≤ x + y ∧ Bt (a + 124) (x + y) := fun x y hx h1 h2 => by
      obtain ⟨x0, xB⟩ := k2 x hx
      have lt : (1000000000000000000000000000000000000 : Int) < (2 ^ 122 : Nat) := by decide
      exact ⟨by omega, xB.add (Bt.of (n := 122) h1 (Int.lt_of_le_of_lt h2 lt)) (by omega) (by omega)⟩
    rcases List.mem_append.mp hd with hd | hd
    · have := key d 0 hd (by decide) (by decide)
      simpa using this
    · simp only [List.mem_cons, List.not_mem_nil, or_false] at hd
      rcases hd with rfl | rfl
      · exact key m _ hm (by decide) (by decide)
      · exact key m' _ hm' (by decide) (by decide)
  · have := nodup_le n1 fun x hx => (n2 x).mp hx
    rw [List.length_append] at this
    simp only [List.length_cons, List.length_nil] at this
    omega
end Fs
set_option maxHeartbeats 4000000
/-! Fd9: law k06. -/
namespace Fs
open PySem PySem.Spec PyProof.Rows L2

def spTen : DSp := fun ds M P ex => ∃ n : Nat, ds = [.int n] ∧ n ≤ 1000 ∧ P (.int (10 ^ n)) M
theorem bt_ten (n : Nat) : Bt (4 * n + 1) (10 ^ n) := by
  unfold Bt
  have h : (10 : Int) ^ n = ((10 ^ n : Nat) : Int) := by simp
  have h2 : (10 : Nat) ^ n ≤ 16 ^ n := Nat.pow_le_pow_left (by decide) n
  have h3 : (2 : Nat) ^ (4 * n) = 16 ^ n := by rw [Nat.pow_mul]
  have h4 : 0 < (16 : Nat) ^ n := Nat.pow_pos (by decide)
  rw [h, Int.natAbs_natCast, Nat.pow_succ, h3]
  omega
theorem c_ten (S : Sps) (ds M P ex) (h : spTen ds M P ex) : wBody n_6_law_ten (r_6_law_ten S) ds M P ex := by
  obtain ⟨n, rfl, hn, h⟩ := h
  simp [wSeq, wRet, wRetN, wSet, wDrop, wIf, wNext, wBrk, wCnt, wOr, wAnd, wOrT, wAndT, wNot, wNotT, wTru, wIfE, wOpX, wUnX, wVar, wC, eget, eset, wCons, wNil, wTup, wLst, wB, one, wCall, oS, wPar, wPar3, wAsg, wLM, oA, refD, dgN, dgCons, dgNil, dgTup, binO, addO, subO, mulO, fdivO, modO, powO, cmpO, relO, isO, eqO, neO, oII, truD, Br, negO, isNon, oD, oL, sFalse, eFalse, wStar, notK, wBody, r_6_law_ten, n_6_law_ten, startD, wFor, wRng1]
  refine ⟨⟨by omega, by omega⟩, ?_⟩
  have hlen : (rangeD 0 n).length = n := by simp [rangeD]
  refine for_inv (fun i ρ M' => M' = M ∧ i ≤ n ∧ ∃ w2, ρ = [some (.int n), some (.int (10 ^ i)), w2]) (fun _ _ _ _ => trivial) ⟨rfl, by omega, _, rfl⟩ ?_ ?_
  · rintro ρ M' ⟨rfl, _, w2, rfl⟩
    rw [hlen]
    exact exitP_refl h
  · rintro i d ρ M' K hd ⟨rfl, hi, w2, rfl⟩ hK
    have il := (List.getElem?_eq_some_iff.mp hd).1
    have m1 : MulOk 10 (10 ^ i) := mulOk_of (n := 4) (m := 4 * i + 1) (by unfold Bt; decide) ((bt_ten i).mono (by omega)) (by omega)
    simp [wSeq, wRet, wRetN, wSet, wDrop, wIf, wNext, wBrk, wCnt, wOr, wAnd, wOrT, wAndT, wNot, wNotT, wTru, wIfE, wOpX, wUnX, wVar, wC, eget, eset, wCons, wNil, wTup, wLst, wB, one, wCall, oS, wPar, wPar3, wAsg, wLM, oA, refD, dgN, dgCons, dgNil, dgTup, binO, addO, subO, mulO, fdivO, modO, powO, cmpO, relO, isO, eqO, neO, oII, truD, Br, negO, isNon, oD, oL, sFalse, eFalse, wStar, notK, m1]
    refine hK _ _ ⟨rfl, by omega, some d, ?_⟩
    rw [Int.pow_succ, Int.mul_comm]
theorem cls_st (M : Mem) (ps : List Pc) : clsD M (stD ps) = some ("Stairs" : Str) := rfl
theorem neO_st {S : Sps} (h7 : S (.m "Stairs" "__eq__") = some spEq) {ps qs : List Pc} {M : Mem} {P : DK} {ex : EX} (h : P (.bl (!decide (ps = qs))) M) : neO S (stD ps) (stD qs) M P ex := by
  simp only [neO, stD, insO, h7, oS]
  exact ⟨trivial, ps, qs, rfl, h⟩
theorem eqO_st {S : Sps} (h7 : S (.m "Stairs" "__eq__") = some spEq) {ps qs : List Pc} {M : Mem} {P : DK} {ex : EX} (h : P (.bl (decide (ps = qs))) M) : eqO S (stD ps) (stD qs) M P ex := by
  simp only [eqO, stD, insO, h7, oS]
  exact ⟨trivial, ps, qs, rfl, h⟩
/-- so told stairs -/
theorem call_is_as {ts : List Pc} {f : Int → Int} {ns : List Int} {M : Mem} {P : DK} {ex : EX} {z : Dt} (hC : Canon f ts) (hb : Bd 1000 1000 ts) (hl : ts.length ≤ 600) (hns : ∀ d ∈ ns, 0 ≤ d ∧ Bt 400 d) (nl : ns.length ≤ 10000) (hm : ∀ d ∈ ns, Bt 1000 (f d)) (ez : z = .lst ((ns.map f).map .int)) (h : P (.bl true) M) : spIsAs [stD ts, .lst (ns.map .int), z] M P ex := by
  have sl := sizeLine_eq
  have sb : scanBound = 4096 := rfl
  subst ez
  exact ⟨ts, f, _, _, 1000, 1000, 400, 600, 1000, 1000, ns, rfl, hC, hC.ps hb hl, by omega, by omega, rfl, hns, by omega, rfl, fun _ h => (by cases h), hm, by omega, by omega, hb, by omega, by omega, h⟩
theorem Sml.vb {ps : List Pc} (h : Sml ps) {d : Int} (h0 : 0 ≤ d) (hd : Bt 300 d) : Bt 400 (vAt ps d) := by
  obtain ⟨p0, e0, e1⟩ := h.hd
  exact (vAt_bt h.asc (h.ok.bd.mono (a' := 300) (by omega) (Nat.le_refl _)) e0 e1 h0 hd).1.mono (by omega)
theorem Sml.at_ {ps : List Pc} (h : Sml ps) {x : Dt} {M : Mem} {P : DK} {ex : EX} {d : Int} (hx : seqD M x = some (pcsD ps)) (h0 : 0 ≤ d) (hd : Bt 300 d) (q : P (.int (vAt ps d)) M) : spAt [x, .int d] M P ex := by
  obtain ⟨p0, e0, e1⟩ := h.hd
  have := h.len
  have sl := sizeLine_eq
  exact ⟨x, ps, 300, 40, d, p0, rfl, hx, h.asc, h.ok.bd.mono (by omega) (Nat.le_refl _), hd, by omega, by omega, e0, by omega, q⟩

def e6 (a : Addr) (ps ts : List Pc) (sh : List Int) (k : Int) (r : DEnv) : DEnv := some (.ref a) :: some (.lst (pcsD ps)) :: some (stD ts) :: some (.lst (sh.map .int)) :: some (.int k) :: r
/-- the loop's body -/
def lap6 (S : Sps) : WS := (wSeq (wSet 5 (wOpX (binO S .Add) (wOpX (binO S .Add) (wCall S "_law_corners" (wCons (wLst (wCons (wVar 1) wNil)) wNil)) (wLRg1 (wC (.int 70)))) (wLst (wCons (wC (.int 360)) (wCons (wC (.int 359)) (wCons (wOpX (binO S .Add) (wC (.int 100)) (wCall S "_law_take" (wCons (wVar 0) (wCons (wC (.int 260)) wNil)))) wNil))))))
 (wSeq (wPar 6 7 (wCons (wMeth S "moved" (wVar 2) (wCons (wVar 4) wNil)) (wCons (wMeth S "held" (wVar 2) (wCons (wVar 4) wNil)) wNil)))
 (wSeq (wIf (wNotT (wTru (wCall S "_law_is_as" (wCons (wVar 6) (wCons (wVar 5) (wCons (wLc (wIt (wVar 5)) (dgN 10) wYes (wCall S "_law_at" (wCons (wVar 1) (wCons (wOpX (binO S .Add) (wVar 10) (wVar 4)) wNil))) [10]) wNil)))))) (wRet (wC (.bl false))) wNext)
 (wSeq (wSet 8 (wSS (wOpX (binO S .Add) (wVar 5) (wLc (wIt (wVar 5)) (dgN 10) wYes (wOpX (binO S .Add) (wVar 10) (wVar 4)) [10]))))
 (wSeq (wIf (wNotT (wTru (wCall S "_law_is_as" (wCons (wVar 7) (wCons (wVar 8) (wCons (wLc (wIt (wVar 8)) (dgN 10) wYes (wCall S "_law_at" (wCons (wVar 1) (wCons (wB (dMax) (wCons (wC (.int 0)) (wCons (wOpX (binO S .Sub) (wVar 10) (wVar 4)) wNil))) wNil))) [10]) wNil)))))) (wRet (wC (.bl false))) wNext)
 (wSeq (wIf (wOrT (wTru (wOpX (cmpO S .NotEq) (wMeth S "moved" (wVar 7) (wCons (wVar 4) wNil)) (wVar 2))) (wTru (wOpX (cmpO S .NotEq) (wMeth S "moved" (wMeth S "moved" (wVar 2) (wCons (wVar 4) wNil)) (wCons (wC (.int 2)) wNil)) (wMeth S "moved" (wVar 2) (wCons (wOpX (binO S .Add) (wVar 4) (wC (.int 2))) wNil))))) (wRet (wC (.bl false))) wNext)
 (wSeq (wSet 9 (wLst (wCons (wTup (wCons (wMeth S "moved" (wVar 7) (wCons (wVar 4) wNil)) (wCons (wC (.int 0)) wNil))) (wCons (wTup (wCons (wMeth S "moved" (wVar 6) (wCons (wC (.int 2)) wNil)) (wCons (wOpX (binO S .Add) (wVar 4) (wC (.int 2))) wNil))) wNil))))
 (wIf (wNotT (wTru (wB (one dAll) (wCons (wLc (wIt (wVar 9)) (dgTup 2 (dgCons (dgN 11) (dgCons (dgN 12) dgNil))) wYes (wCall S "_law_is_as" (wCons (wVar 11) (wCons (wVar 5) (wCons (wLc (wIt (wVar 5)) (dgN 10) wYes (wCall S "_law_at" (wCons (wVar 1) (wCons (wOpX (binO S .Add) (wVar 10) (wVar 12)) wNil))) [10]) wNil)))) [11, 12]) wNil)))) (wRet (wC (.bl false))) wNext))))))))
theorem c_lap6 (S : Sps) (h0 : (S (.c "Stairs")).isSome) (h1 : S (.f "_law_corners") = some spCorners) (h2 : S (.f "_law_take") = some spTake) (h3 : S (.m "Stairs" "moved") = some spStMoved) (h4 : S (.m "Stairs" "held") = some spStHeld) (h5 : S (.f "_law_is_as") = some spIsAs)
    (h6 : S (.f "_law_at") = some spAt) (h7 : S (.m "Stairs" "__eq__") = some spEq) {ps ts : List Pc} (hA : Sml ps) (hC : Canon (vAt ps) ts) (hT : PsOk 42 86 58 ts) {a : Addr} {z : Nat} {k : Int} {sh : List Int} (hk : 0 ≤ k) (kB : Bt 60 k) (w5 w6 w7 w8 w9 w10 w11 w12 : Option Dt) (M : Mem) (hp : Pot a z M) (hz : z < 2 ^ 50) (ex : EXS) (D : DEnds)
    (hK : ∀ ρ' M', (∃ w5 w6 w7 w8 w9 w10 w11 w12, ρ' = e6 a ps ts sh k [w5, w6, w7, w8, w9, w10, w11, w12]) → Pot a (z + 1) M' → Only a M M' → D.nx ρ' M') : lap6 S ex D (e6 a ps ts sh k [w5, w6, w7, w8, w9, w10, w11, w12]) M := by
  have sl := sizeLine_eq
  have sb : scanBound = 4096 := rfl
  have plen := hA.len
  have sc : ∀ (M' : Mem) (ds : List Dt), clsD M' (.ins ("Stairs" : Str) ds) = some ("Stairs" : Str) := fun _ _ => rfl
  unfold lap6 e6
  refine seq_cut (fun ρ' M1 => ∃ ns : List Int, (∀ d ∈ ns, 0 ≤ d ∧ Bt 170 d) ∧ ns.length ≤ 320 ∧ ρ' = e6 a ps ts sh k [some (.lst (ns.map .int)), w6, w7, w8, w9, w10, w11, w12] ∧ Pot a (z + 1) M1 ∧ Only a M M1) (fun K hK2 => ?_) ?_
  · simp [wSeq, wRet, wRetN, wSet, wDrop, wIf, wNext, wBrk, wCnt, wOr, wAnd, wOrT, wAndT, wNot, wNotT, wTru, wIfE, wOpX, wUnX, wVar, wC, eget, eset, wCons, wNil, wTup, wLst, wB, one, wCall, oS, wPar, wPar3, wAsg, wLM, oA, refD, dgN, dgCons, dgNil, dgTup, binO, addO, subO, mulO, fdivO, modO, powO, cmpO, relO, isO, eqO, neO, oII, truD, Br, negO, isNon, oD, oL, sFalse, eFalse, wStar, notK, h1, h2]
    refine ⟨by omega, .inl ⟨[ps], 40, rfl, fun qs hq p hp' => ?_, ?_, ?_, by decide, fun ns n1 n2 => ?_⟩⟩
    · simp at hq; subst hq
      exact ⟨(hA.bd p hp').1, (hA.ok.bd p hp').1⟩
    · have := hA.ok.ne
      have := List.length_pos_iff.mpr this
      simp [totL]; omega
    · simp [totL]; omega
    · have : totL [ps] = ps.length := by simp [totL]
      simp [wSeq, wRet, wRetN, wSet, wDrop, wIf, wNext, wBrk, wCnt, wOr, wAnd, wOrT, wAndT, wNot, wNotT, wTru, wIfE, wOpX, wUnX, wVar, wC, eget, eset, wCons, wNil, wTup, wLst, wB, one, wCall, oS, wPar, wPar3, wAsg, wLM, oA, refD, dgN, dgCons, dgNil, dgTup, binO, addO, subO, mulO, fdivO, modO, powO, cmpO, relO, isO, eqO, neO, oII, truD, Br, negO, isNon, oD, oL, sFalse, eFalse, wStar, notK, wLRg1]
      refine ⟨by unfold RgOk; decide, .inl ?_⟩
      simp [lstOf]
      refine ⟨by simp [rgD]; omega, .inl ⟨a, z, 260, rfl, hp, hz, by decide, by unfold Bt; decide, fun t M1 t0 t1 p1 o1 => ⟨by omega, .inl ?_⟩⟩⟩
      simp
      refine ⟨by simp [rgD]; omega, .inl (hK2 _ _ ⟨ns ++ ((List.range 70).map (fun i => ((i : Nat) : Int)) ++ [360, 359, 100 + t]), fun d hd => ?_, ?_, ?_, p1, o1⟩)⟩
      · have sm : ∀ d : Int, 0 ≤ d → d < 1000 → 0 ≤ d ∧ Bt 170 d := fun d d0 d1 => ⟨d0, (Bt.of (n := 10) d0 (by omega)).mono (by omega)⟩
        rcases List.mem_append.mp hd with hd | hd
        · exact ⟨(n1 d hd).1, (n1 d hd).2.mono (by omega)⟩
        · rcases List.mem_append.mp hd with hd | hd
          · obtain ⟨i, hi, rfl⟩ := List.mem_map.mp hd
            have := List.mem_range.mp hi
            exact sm _ (by omega) (by omega)
          · simp only [List.mem_cons, List.not_mem_nil, or_false] at hd
            rcases hd with rfl | rfl | rfl <;> exact sm _ (by omega) (by omega)
      · simp; omega
      · unfold e6 rgD
        simp
  rintro ρ1 M1 ⟨ns, hns, nl, rfl, p1, o1⟩
  have hns4 : ∀ d ∈ ns, 0 ≤ d ∧ Bt 400 d := fun d hd => ⟨(hns d hd).1, (hns d hd).2.mono (by omega)⟩
  have kB2 : Bt 62 (k + 2) := kB.add (show Bt 2 2 from by unfold Bt; decide) (by omega) (by omega)
  have dk : ∀ j : Int, 0 ≤ j → Bt 63 j → ∀ d ∈ ns, 0 ≤ d + j ∧ Bt 300 (d + j) := fun j j0 jB d hd => ⟨by have := (hns d hd).1; omega, (hns d hd).2.add jB (by omega) (by omega)⟩
  refine seq_cut (fun ρ' M2 => M2 = M1 ∧ ∃ ls hs : List Pc, Canon (fun d => vAt ps (d + k)) ls ∧ PsOk 44 240 58 ls ∧ Canon (hold (vAt ps) k) hs ∧ PsOk 105 300 59 hs ∧ ρ' = e6 a ps ts sh k [some (.lst (ns.map .int)), some (stD ls), some (stD hs), w8, w9, w10, w11, w12]) (fun K hK2 => ?_) ?_
  · simp [wSeq, wRet, wRetN, wSet, wDrop, wIf, wNext, wBrk, wCnt, wOr, wAnd, wOrT, wAndT, wNot, wNotT, wTru, wIfE, wOpX, wUnX, wVar, wC, eget, eset, wCons, wNil, wTup, wLst, wB, one, wCall, oS, wPar, wPar3, wAsg, wLM, oA, refD, dgN, dgCons, dgNil, dgTup, binO, addO, subO, mulO, fdivO, modO, powO, cmpO, relO, isO, eqO, neO, oII, truD, Br, negO, isNon, oD, oL, sFalse, eFalse, wStar, notK, e6, wMeth, h3, h4, stD, sc, oC]
    refine ⟨ts, 42, 86, 60, 58, k, rfl, hT, kB, hk, by omega, by omega, fun ls l1 l2 l3 => ?_⟩
    refine ⟨ts, 42, 86, 60, 58, k, rfl, hT, kB, hk, by omega, by omega, fun hs s1 s2 s3 => ?_⟩
    refine hK2 _ _ ⟨rfl, ls, hs, l1.congr fun d hd => ?_, l1.ps l2 l3, s1.congr fun d hd => ?_, s1.ps s2 s3, rfl⟩
    · exact (hC.at _ (by omega)).symm
    · unfold hold
      exact (hC.at _ (by split <;> omega)).symm
  rintro ρ2 M2 ⟨rfl, ls, hs, l1, l2, s1, s2, rfl⟩
  refine seq_cut (fun ρ' M3 => M3 = M2 ∧ ρ' = e6 a ps ts sh k [some (.lst (ns.map .int)), some (stD ls), some (stD hs), w8, w9, w10, w11, w12]) (fun K hK2 => ?_) ?_
  · simp [wSeq, wRet, wRetN, wSet, wDrop, wIf, wNext, wBrk, wCnt, wOr, wAnd, wOrT, wAndT, wNot, wNotT, wTru, wIfE, wOpX, wUnX, wVar, wC, eget, eset, wCons, wNil, wTup, wLst, wB, one, wCall, oS, wPar, wPar3, wAsg, wLM, oA, refD, dgN, dgCons, dgNil, dgTup, binO, addO, subO, mulO, fdivO, modO, powO, cmpO, relO, isO, eqO, neO, oII, truD, Br, negO, isNon, oD, oL, sFalse, eFalse, wStar, notK, e6, h5, wLc]
    rw [wIt_var rfl rfl]
    refine lc_mapA Dt.int (fun d => .int (vAt ps (d + k))) (show gd none M2 True from trivial) ns [] (fun d hd Q q => ?_) (by simp; omega) (.inl ?_)
    · obtain ⟨d0, dB⟩ := dk k hk (kB.mono (by omega)) d hd
      simp [wSeq, wRet, wRetN, wSet, wDrop, wIf, wNext, wBrk, wCnt, wOr, wAnd, wOrT, wAndT, wNot, wNotT, wTru, wIfE, wOpX, wUnX, wVar, wC, eget, eset, wCons, wNil, wTup, wLst, wB, one, wCall, oS, wPar, wPar3, wAsg, wLM, oA, refD, dgN, dgCons, dgNil, dgTup, binO, addO, subO, mulO, fdivO, modO, powO, cmpO, relO, isO, eqO, neO, oII, truD, Br, negO, isNon, oD, oL, sFalse, eFalse, wStar, notK, dwipe, h6]
      exact hA.at_ rfl d0 dB q
    · refine call_is_as l1 (l2.bd.mono (by omega) (by omega)) (by have := l2.len; omega) hns4 (by omega) (fun d hd => (hA.vb (dk k hk (kB.mono (by omega)) d hd).1 (dk k hk (kB.mono (by omega)) d hd).2).mono (by omega)) (by rw [List.map_map]; rfl) ?_
      simp
      exact hK2 _ _ ⟨rfl, rfl⟩
  rintro ρ3 M3 ⟨rfl, rfl⟩
  refine seq_cut (fun ρ' M4 => M4 = M3 ∧ ∃ fs : List Int, (∀ d ∈ fs, 0 ≤ d ∧ Bt 280 d) ∧ fs.length ≤ 640 ∧ ρ' = e6 a ps ts sh k [some (.lst (ns.map .int)), some (stD ls), some (stD hs), some (.lst (fs.map .int)), w9, w10, w11, w12]) (fun K hK2 => ?_) ?_
  · simp [wSeq, wRet, wRetN, wSet, wDrop, wIf, wNext, wBrk, wCnt, wOr, wAnd, wOrT, wAndT, wNot, wNotT, wTru, wIfE, wOpX, wUnX, wVar, wC, eget, eset, wCons, wNil, wTup, wLst, wB, one, wCall, oS, wPar, wPar3, wAsg, wLM, oA, refD, dgN, dgCons, dgNil, dgTup, binO, addO, subO, mulO, fdivO, modO, powO, cmpO, relO, isO, eqO, neO, oII, truD, Br, negO, isNon, oD, oL, sFalse, eFalse, wStar, notK, e6, wSS, wLc]
    rw [wIt_var rfl rfl]
    refine lc_mapA Dt.int (fun d => .int (d + k)) (show gd none M3 True from trivial) ns [] (fun d hd Q q => ?_) (by simp; omega) (.inl ?_)
    · simp [wSeq, wRet, wRetN, wSet, wDrop, wIf, wNext, wBrk, wCnt, wOr, wAnd, wOrT, wAndT, wNot, wNotT, wTru, wIfE, wOpX, wUnX, wVar, wC, eget, eset, wCons, wNil, wTup, wLst, wB, one, wCall, oS, wPar, wPar3, wAsg, wLM, oA, refD, dgN, dgCons, dgNil, dgTup, binO, addO, subO, mulO, fdivO, modO, powO, cmpO, relO, isO, eqO, neO, oII, truD, Br, negO, isNon, oD, oL, sFalse, eFalse, wStar, notK, dwipe]
      exact q
    · simp only [lstOf]
      refine ⟨by simp; omega, .inl ?_⟩
      have e : ns.map Dt.int ++ ([] ++ ns.map fun d => Dt.int (d + k)) = (ns ++ ns.map (· + k)).map .int := by rw [List.map_append, List.map_map]; rfl
      rw [e]
      simp only [listD, oL, intsD_map, oIs]
      refine ⟨by simp; omega, fun fs n1 n2 => .inl (hK2 _ _ ⟨rfl, fs, fun d hd => ?_, ?_, rfl⟩)⟩
      · rcases List.mem_append.mp ((n2 d).mp hd) with hd | hd
        · exact ⟨(hns d hd).1, (hns d hd).2.mono (by omega)⟩
        · obtain ⟨x, hx, rfl⟩ := List.mem_map.mp hd
          exact ⟨by have := (hns x hx).1; show 0 ≤ x + k; omega, (hns x hx).2.add kB (by omega) (by omega)⟩
      · have := nodup_le n1 fun x hx => (n2 x).mp hx
        simp at this; omega
  rintro ρ4 M4 ⟨rfl, fs, hfs, fl, rfl⟩
  refine seq_cut (fun ρ' M3 => M3 = M4 ∧ ρ' = e6 a ps ts sh k [some (.lst (ns.map .int)), some (stD ls), some (stD hs), some (.lst (fs.map .int)), w9, w10, w11, w12]) (fun K hK2 => ?_) ?_
  · simp [wSeq, wRet, wRetN, wSet, wDrop, wIf, wNext, wBrk, wCnt, wOr, wAnd, wOrT, wAndT, wNot, wNotT, wTru, wIfE, wOpX, wUnX, wVar, wC, eget, eset, wCons, wNil, wTup, wLst, wB, one, wCall, oS, wPar, wPar3, wAsg, wLM, oA, refD, dgN, dgCons, dgNil, dgTup, binO, addO, subO, mulO, fdivO, modO, powO, cmpO, relO, isO, eqO, neO, oII, truD, Br, negO, isNon, oD, oL, sFalse, eFalse, wStar, notK, e6, h5, wLc]
    rw [wIt_var rfl rfl]
    have em : ∀ d : Int, maxI 0 (d - k) = if k ≤ d then d - k else 0 := fun d => by unfold maxI; split <;> split <;> omega
    have hf0 : ∀ d ∈ fs, 0 ≤ maxI 0 (d - k) ∧ Bt 300 (maxI 0 (d - k)) := fun d hd => by
      obtain ⟨d0, dB⟩ := hfs d hd
      unfold maxI
      split
      · exact ⟨by omega, dB.sub kB (by omega) (by omega)⟩
      · exact ⟨by omega, Bt.of (by omega) (by omega)⟩
    refine lc_mapA Dt.int (fun d => .int (hold (vAt ps) k d)) (show gd none M4 True from trivial) fs [] (fun d hd Q q => ?_) (by simp; omega) (.inl ?_)
    · obtain ⟨d0, dB⟩ := hf0 d hd
      simp [wSeq, wRet, wRetN, wSet, wDrop, wIf, wNext, wBrk, wCnt, wOr, wAnd, wOrT, wAndT, wNot, wNotT, wTru, wIfE, wOpX, wUnX, wVar, wC, eget, eset, wCons, wNil, wTup, wLst, wB, one, wCall, oS, wPar, wPar3, wAsg, wLM, oA, refD, dgN, dgCons, dgNil, dgTup, binO, addO, subO, mulO, fdivO, modO, powO, cmpO, relO, isO, eqO, neO, oII, truD, Br, negO, isNon, oD, oL, sFalse, eFalse, wStar, notK, dwipe, h6, dMax]
      refine hA.at_ rfl d0 dB ?_
      rw [em]; exact q
    · refine call_is_as s1 (s2.bd.mono (by omega) (by omega)) (by have := s2.len; omega) (fun d hd => ⟨(hfs d hd).1, (hfs d hd).2.mono (by omega)⟩) (by omega) (fun d hd => ?_) (by rw [List.map_map]; rfl) ?_
      · have := hf0 d hd
        rw [em] at this
        exact (hA.vb this.1 this.2).mono (by omega)
      · simp
        exact hK2 _ _ ⟨rfl, rfl⟩
  rintro ρ5 M5 ⟨rfl, rfl⟩
  have mh : ∀ us, Canon (fun d => vAt hs (d + k)) us → us = ts := fun us hu => hu.eq hC fun d hd => by
    rw [s1.at (d + k) (by omega)]
    unfold hold
    rw [if_pos (by omega), Int.add_sub_cancel]
  refine seq_cut (fun ρ' M3 => M3 = M5 ∧ ρ' = e6 a ps ts sh k [some (.lst (ns.map .int)), some (stD ls), some (stD hs), some (.lst (fs.map .int)), w9, w10, w11, w12]) (fun K hK2 => ?_) ?_
  · simp [wSeq, wRet, wRetN, wSet, wDrop, wIf, wNext, wBrk, wCnt, wOr, wAnd, wOrT, wAndT, wNot, wNotT, wTru, wIfE, wOpX, wUnX, wVar, wC, eget, eset, wCons, wNil, wTup, wLst, wB, one, wCall, oS, wPar, wPar3, wAsg, wLM, oA, refD, dgN, dgCons, dgNil, dgTup, binO, addO, subO, mulO, fdivO, modO, powO, cmpO, relO, isO, oII, truD, Br, negO, isNon, oD, oL, sFalse, eFalse, wStar, e6, wMeth, h3, cls_st, oC]
    refine ⟨hs, 105, 300, 60, 59, k, rfl, s2, kB, hk, by omega, by omega, fun us u1 u2 u3 => ?_⟩
    cases mh us u1
    refine neO_st h7 ?_
    simp
    refine ⟨ts, 42, 86, 60, 58, k, rfl, hT, kB, hk, by omega, by omega, fun ms m1 m2 m3 => ?_⟩
    simp [h3, cls_st, oS]
    refine ⟨ms, 44, 240, 2, 58, 2, rfl, m1.ps m2 m3, by unfold Bt; decide, by omega, by omega, by omega, fun xs x1 x2 x3 => ?_⟩
    refine ⟨ts, 42, 86, 62, 58, k + 2, rfl, hT, kB2, by omega, by omega, by omega, fun ys y1 y2 y3 => ?_⟩
    have : xs = ys := x1.eq y1 fun d hd => by rw [m1.at (d + 2) (by omega)]; congr 1; omega
    subst this
    refine neO_st h7 ?_
    simp
    exact hK2 _ _ ⟨rfl, rfl⟩
  rintro ρ6 M6 ⟨rfl, rfl⟩
  refine seq_cut (fun ρ' M3 => M3 = M6 ∧ ∃ zs, Canon (fun d => vAt ps (d + (k + 2))) zs ∧ PsOk 46 340 58 zs ∧ ρ' = e6 a ps ts sh k [some (.lst (ns.map .int)), some (stD ls), some (stD hs), some (.lst (fs.map .int)), some (.lst [.tup [stD ts, .int 0], .tup [stD zs, .int (k + 2)]]), w10, w11, w12]) (fun K hK2 => ?_) ?_
  · simp [wSeq, wRet, wRetN, wSet, wDrop, wIf, wNext, wBrk, wCnt, wOr, wAnd, wOrT, wAndT, wNot, wNotT, wTru, wIfE, wOpX, wUnX, wVar, wC, eget, eset, wCons, wNil, wTup, wLst, wB, one, wCall, oS, wPar, wPar3, wAsg, wLM, oA, refD, dgN, dgCons, dgNil, dgTup, binO, addO, subO, mulO, fdivO, modO, powO, cmpO, relO, isO, oII, truD, Br, negO, isNon, oD, oL, sFalse, eFalse, wStar, e6, wMeth, h3, cls_st, oC]
    refine ⟨hs, 105, 300, 60, 59, k, rfl, s2, kB, hk, by omega, by omega, fun us u1 u2 u3 => ?_⟩
    cases mh us u1
    refine ⟨by omega, ?_⟩
    refine ⟨ls, 44, 240, 2, 58, 2, rfl, l2, by unfold Bt; decide, by omega, by omega, by omega, fun zs z1 z2 z3 => ?_⟩
    refine ⟨by omega, .inl (hK2 _ _ ⟨rfl, zs, z1.congr fun d hd => ?_, z1.ps z2 z3, rfl⟩)⟩
    rw [l1.at (d + 2) (by omega)]; congr 1; omega
  rintro ρ7 M7 ⟨rfl, zs, z1, z2, rfl⟩
  simp [wSeq, wRet, wRetN, wSet, wDrop, wIf, wNext, wBrk, wCnt, wOr, wAnd, wOrT, wAndT, wNot, wNotT, wTru, wIfE, wOpX, wUnX, wVar, wC, eget, eset, wCons, wNil, wTup, wLst, wB, one, wCall, oS, wPar, wPar3, wAsg, wLM, oA, refD, dgN, dgCons, dgNil, dgTup, binO, addO, subO, mulO, fdivO, modO, powO, cmpO, relO, isO, eqO, neO, oII, truD, Br, negO, isNon, oD, oL, sFalse, eFalse, wStar, notK, e6, h5, wLc]
  rw [wIt_var rfl rfl]
  simp only [lcL, gd, dgTup, dgCons, dgN, dgNil, wYes, br_true, dwipe, eset, List.length_cons, List.length_nil]
  have inner : ∀ (j : Int) (us : List Pc) (w10 : Option Dt) (Q : DK), 0 ≤ j → Bt 63 j → Canon (fun d => vAt ps (d + j)) us → PsOk 1000 1000 58 us → Q (.bl true) M7 → 
      wCall S "_law_is_as" (wCons (wVar 11) (wCons (wVar 5) (wCons (wLc (wIt (wVar 5)) (dgN 10) wYes (wCall S "_law_at" (wCons (wVar 1) (wCons (wOpX (addO S) (wVar 10) (wVar 12)) wNil))) [10]) wNil))) noX (e6 a ps ts sh k [some (.lst (ns.map .int)), some (stD ls), some (stD hs), some (.lst (fs.map .int)), some (.lst [.tup [stD ts, .int 0], .tup [stD zs, .int (k + 2)]]), w10, some (stD us), some (.int j)]) M7 Q := fun j us w10 Q j0 jB hu hu2 q => by
    simp only [wCall, h5, oS, wCons, wVar, eget, wNil, e6]
    simp only [wLc, e6]
    rw [wIt_var rfl rfl]
    refine lc_mapA Dt.int (fun d => .int (vAt ps (d + j))) (show gd none M7 True from trivial) ns [] (fun d hd Q q => ?_) (by simp; omega) (.inl ?_)
    · obtain ⟨d0, dB⟩ := dk j j0 jB d hd
      simp [wSeq, wRet, wRetN, wSet, wDrop, wIf, wNext, wBrk, wCnt, wOr, wAnd, wOrT, wAndT, wNot, wNotT, wTru, wIfE, wOpX, wUnX, wVar, wC, eget, eset, wCons, wNil, wTup, wLst, wB, one, wCall, oS, wPar, wPar3, wAsg, wLM, oA, refD, dgN, dgCons, dgNil, dgTup, binO, addO, subO, mulO, fdivO, modO, powO, cmpO, relO, isO, eqO, neO, oII, truD, Br, negO, isNon, oD, oL, sFalse, eFalse, wStar, notK, dwipe, h6]
      exact hA.at_ rfl d0 dB q
    · exact call_is_as hu hu2.bd (by have := hu2.len; omega) hns4 (by omega) (fun d hd => (hA.vb (dk j j0 jB d hd).1 (dk j j0 jB d hd).2).mono (by omega)) (by rw [List.map_map]; rfl) q
  refine ⟨trivial, inner 0 ts _ _ (by omega) (by unfold Bt; decide) (hC.congr fun d _ => by rw [Int.add_zero]) (hT.mono (by omega) (by omega) (by omega)) ?_⟩
  refine ⟨by omega, trivial, inner (k + 2) zs _ _ (by omega) (kB2.mono (by omega)) z1 (z2.mono (by omega) (by omega) (by omega)) ?_⟩
  simp [dAll, listD, oL, oBs, blsD]
  refine ⟨by omega, .inl ?_⟩
  simp [blsD]
  exact hK _ _ ⟨_, _, _, _, _, _, _, _, rfl⟩ p1 o1

theorem lt_bt {d : Int} (h0 : 0 ≤ d) (h1 : d < 1152921504606846976) : Bt 60 d := Bt.of h0 (by have : (1152921504606846976 : Int) = (2 ^ 60 : Nat) := by decide
                                                                                              omega)
theorem c_right6 (S : Sps) (h0 : (S (.c "Stairs")).isSome) (h1 : S (.f "_law_corners") = some spCorners) (h2 : S (.f "_law_take") = some spTake) (h3 : S (.m "Stairs" "moved") = some spStMoved) (h4 : S (.m "Stairs" "held") = some spStHeld) (h5 : S (.f "_law_is_as") = some spIsAs)
    (h6 : S (.f "_law_at") = some spAt) (h7 : S (.m "Stairs" "__eq__") = some spEq) (h8 : S (.f "_law_pieces") = some spLawPieces) (h9 : S (.f "_law_amount") = some spAmount) (hs : S (.f "_law_stairs") = some spLawStairs) (ht : S (.f "_law_ten") = some spTen)
    (ds M P ex) (h : spRight ds M P ex) : wBody n_6_law_right (r_6_law_right S) ds M P ex := by
  obtain ⟨a, z, rfl, hp, hz, h⟩ := h
  have sl := sizeLine_eq
  unfold wBody r_6_law_right
  refine seq_cut (fun ρ' M1 => ∃ n ps, 1 ≤ n ∧ n ≤ 58 ∧ Drawn 6 4 n ps ∧ ρ' = [some (.ref a), some (.lst (pcsD ps)), none, none, none, none, none, none, none, none, none, none, none] ∧ Pot a (z + 401) M1 ∧ Only a M M1) (fun K hK => ?_) ?_
  · simp [wSeq, wRet, wRetN, wSet, wDrop, wIf, wNext, wBrk, wCnt, wOr, wAnd, wOrT, wAndT, wNot, wNotT, wTru, wIfE, wOpX, wUnX, wVar, wC, eget, eset, wCons, wNil, wTup, wLst, wB, one, wCall, oS, wPar, wPar3, wAsg, wLM, oA, refD, dgN, dgCons, dgNil, dgTup, binO, addO, subO, mulO, fdivO, modO, powO, cmpO, relO, isO, eqO, neO, oII, truD, Br, negO, isNon, oD, oL, sFalse, eFalse, wStar, notK, n_6_law_right, startD, h8, h9]
    refine ⟨a, _, rfl, hp, by omega, fun r M2 hr p2 o2 => ?_⟩
    have go : ∀ (am : Nat) (K2 : DK), r = am → 1 ≤ am → am ≤ 58 → (∀ n qs M3, 1 ≤ n → n ≤ 58 → Drawn 6 4 n qs → Pot a (z + 401) M3 → Only a M M3 → K2 (.lst (pcsD qs)) M3) → spLawPieces [.ref a, .int r, .int 6, .int 4] M2 K2 fun x d M' => ex x d M' := fun am K2 e a1 a2 hk => by
      subst e
      exact ⟨a, _, am, 6, 4, rfl, p2, by omega, a1, a2, by decide, by decide, by decide, by decide, fun n' qs M3 b1 b2 hq p3 o3 => hk n' qs M3 b1 (by omega) hq (p3.mono (by omega)) (o2.trans o3)⟩
    rcases hr with rfl | rfl
    · exact go 6 _ rfl (by decide) (by decide) fun n qs M3 b1 b2 b3 b4 b5 => hK _ _ ⟨n, qs, b1, b2, b3, rfl, b4, b5⟩
    · exact go 58 _ rfl (by decide) (by decide) fun n qs M3 b1 b2 b3 b4 b5 => hK _ _ ⟨n, qs, b1, b2, b3, rfl, b4, b5⟩
  rintro ρ1 M1 ⟨n, ps, n1, n2, hD, rfl, p1, o1⟩
  have hA := hD.sml n1 n2
  refine seq_cut (fun ρ' M2 => M2 = M1 ∧ ∃ ts, Canon (vAt ps) ts ∧ PsOk 42 86 58 ts ∧ ρ' = [some (.ref a), some (.lst (pcsD ps)), some (stD ts), none, none, none, none, none, none, none, none, none, none]) (fun K hK => ?_) ?_
  · simp [wSeq, wRet, wRetN, wSet, wDrop, wIf, wNext, wBrk, wCnt, wOr, wAnd, wOrT, wAndT, wNot, wNotT, wTru, wIfE, wOpX, wUnX, wVar, wC, eget, eset, wCons, wNil, wTup, wLst, wB, one, wCall, oS, wPar, wPar3, wAsg, wLM, oA, refD, dgN, dgCons, dgNil, dgTup, binO, addO, subO, mulO, fdivO, modO, powO, cmpO, relO, isO, eqO, neO, oII, truD, Br, negO, isNon, oD, oL, sFalse, eFalse, wStar, notK, hs]
    exact ⟨_, ps, 40, 40, rfl, rfl, hA.ok.mono (Nat.le_refl _) (Nat.le_refl _) (by omega), by decide, fun ts t1 t2 t3 => hK _ _ ⟨rfl, ts, t1, t1.ps t2 (by have := hA.len; omega), rfl⟩⟩
  rintro ρ2 M2 ⟨rfl, ts, hC, hT, rfl⟩
  refine seq_cut (fun ρ' M3 => ∃ sh : List Int, sh.length = 6 ∧ (∀ k ∈ sh, 0 ≤ k ∧ Bt 60 k) ∧ ρ' = [some (.ref a), some (.lst (pcsD ps)), some (stD ts), some (.lst (sh.map .int)), none, none, none, none, none, none, none, none, none] ∧ Pot a (z + 405) M3 ∧ Only a M M3) (fun K hK => ?_) ?_
  · have pw : PowOk 10 15 := by unfold PowOk; decide
    simp [wSeq, wRet, wRetN, wSet, wDrop, wIf, wNext, wBrk, wCnt, wOr, wAnd, wOrT, wAndT, wNot, wNotT, wTru, wIfE, wOpX, wUnX, wVar, wC, eget, eset, wCons, wNil, wTup, wLst, wB, one, wCall, oS, wPar, wPar3, wAsg, wLM, oA, refD, dgN, dgCons, dgNil, dgTup, binO, addO, subO, mulO, fdivO, modO, powO, cmpO, relO, isO, eqO, neO, oII, truD, Br, negO, isNon, oD, oL, sFalse, eFalse, wStar, notK, h2, ht]
    refine ⟨a, _, 9, rfl, p1, by omega, by decide, by unfold Bt; decide, fun x1 M3 q1 q2 q3 q4 => ?_⟩
    refine ⟨a, _, 61, rfl, q3, by omega, by decide, by unfold Bt; decide, fun x2 M4 r1 r2 r3 r4 => ?_⟩
    simp [pw]
    refine ⟨a, _, 9, rfl, r3, by omega, by decide, by unfold Bt; decide, fun x3 M5 s1 s2 s3 s4 => ?_⟩
    simp
    refine ⟨a, _, 15, rfl, s3, by omega, by decide, by unfold Bt; decide, fun x4 M6 u1 u2 u3 u4 => ?_⟩
    obtain ⟨e, rfl⟩ : ∃ e : Nat, x4 = e := ⟨x4.toNat, by omega⟩
    refine ⟨e, rfl, by omega, ⟨by omega, .inl (hK _ _ ⟨[0, 1, x1, x2, 1000000000000000 + x3, 10 ^ e], rfl, fun k hk => ?_, rfl, u3.mono (by omega), (((o1.trans q4).trans r4).trans s4).trans u4⟩)⟩⟩
    have hb := (bt_ten e).mono (m := 60) (by omega)
    have hn : (0 : Int) ≤ 10 ^ e := Int.le_of_lt (Int.pow_pos (by decide))
    simp only [List.mem_cons, List.not_mem_nil, or_false] at hk
    rcases hk with rfl | rfl | rfl | rfl | rfl | rfl
    · exact ⟨by omega, lt_bt (by omega) (by omega)⟩
    · exact ⟨by omega, lt_bt (by omega) (by omega)⟩
    · exact ⟨by omega, lt_bt (by omega) (by omega)⟩
    · exact ⟨by omega, lt_bt (by omega) (by omega)⟩
    · exact ⟨by omega, lt_bt (by omega) (by omega)⟩
    · exact ⟨hn, hb⟩
  rintro ρ3 M3 ⟨sh, sh6, hsh, rfl, p3, o3⟩
  refine seq_cut (fun ρ' M4 => Pot a (z + 411) M4 ∧ Only a M M4 ∧ ∃ k w5 w6 w7 w8 w9 w10 w11 w12, ρ' = [some (.ref a), some (.lst (pcsD ps)), some (stD ts), some (.lst (sh.map .int)), k, w5, w6, w7, w8, w9, w10, w11, w12]) (fun K hK => ?_) ?_
  · simp only [wFor]
    rw [wIt_var rfl rfl]
    refine for_inv (fun i ρ M' => Pot a (z + 405 + i) M' ∧ Only a M M' ∧ ∃ k w5 w6 w7 w8 w9 w10 w11 w12, ρ = [some (.ref a), some (.lst (pcsD ps)), some (stD ts), some (.lst (sh.map .int)), k, w5, w6, w7, w8, w9, w10, w11, w12]) (fun _ _ _ _ => trivial) ⟨p3, o3, _, _, _, _, _, _, _, _, _, rfl⟩ ?_ ?_
    · rintro ρ M' ⟨p4, o4, k, w5, w6, w7, w8, w9, w10, w11, w12, rfl⟩
      rw [List.length_map, sh6] at p4
      exact hK _ _ ⟨p4, o4, k, w5, w6, w7, w8, w9, w10, w11, w12, rfl⟩
    · rintro i d ρ M' K' hd ⟨p4, o4, k, w5, w6, w7, w8, w9, w10, w11, w12, rfl⟩ hK'
      have il := (List.getElem?_eq_some_iff.mp hd).1
      rw [List.length_map, sh6] at il
      obtain ⟨v, ev, rfl⟩ := ints_get hd
      obtain ⟨v0, vB⟩ := hsh v (List.mem_of_getElem? ev)
      simp only [dgN, eset]
      refine c_lap6 S h0 h1 h2 h3 h4 h5 h6 h7 hA hC hT v0 vB w5 w6 w7 w8 w9 w10 w11 w12 M' p4 (by omega) _ _ ?_
      rintro ρ5 M5 ⟨w5, w6, w7, w8, w9, w10, w11, w12, rfl⟩ p5 o5
      exact hK' _ _ ⟨p5, o4.trans o5, _, _, _, _, _, _, _, _, _, rfl⟩
  rintro ρ4 M4 ⟨p4, o4, k, w5, w6, w7, w8, w9, w10, w11, w12, rfl⟩
  have b0 : Bt 1 0 := by unfold Bt; decide
  simp [wSeq, wRet, wRetN, wSet, wDrop, wIf, wNext, wBrk, wCnt, wOr, wAnd, wOrT, wAndT, wNot, wNotT, wTru, wIfE, wOpX, wUnX, wVar, wC, eget, eset, wCons, wNil, wTup, wLst, wB, one, wCall, oS, wPar, wPar3, wAsg, wLM, oA, refD, dgN, dgCons, dgNil, dgTup, binO, addO, subO, mulO, fdivO, modO, powO, cmpO, relO, isO, oII, truD, Br, negO, isNon, oD, oL, sFalse, eFalse, wStar, wMeth, h3, h4, cls_st, oC]
  refine ⟨ts, 42, 86, 1, 58, 0, rfl, hT, b0, by omega, by omega, by omega, fun us u1 u2 u3 => ?_⟩
  have e1 : us = ts := u1.eq hC fun d hd => by show vAt ts (d + 0) = _; rw [Int.add_zero, hC.at d hd]
  subst e1
  refine eqO_st h7 ?_
  simp
  refine ⟨us, 42, 86, 1, 58, 0, rfl, hT, b0, by omega, by omega, by omega, fun vs v1 v2 v3 => ?_⟩
  have e2 : vs = us := v1.eq hC fun d hd => by unfold hold; rw [if_pos hd, Int.sub_zero, hC.at d hd]
  subst e2
  refine eqO_st h7 ?_
  simp
  exact exitP_refl (h M4 (p4.mono (by omega)) o4)
theorem c_law6 (S : Sps) (h1 : S (.f "_law_cells") = some spCells) (h2 : S (.f "_law_draws") = some spDraws) (h3 : S (.f "_law_right") = some spRight) (ds M P ex) (h : spLaw ds M P ex) : wBody n_6law (r_6law S) ds M P ex := c_law5 S h1 h2 h3 ds M P ex h
end Fs
set_option maxHeartbeats 0
namespace FsH
open PySem PySem.Spec PyProof.Rows L2 Fs
theorem e_is_ahead (S : Sps) : rDef mo S n_is_ahead (defScope (top 9)) (defBody (top 9)) = r_is_ahead S := by kernel_rfl
theorem l_is_ahead : ∀ ds M P ex, spIsAhead ds M P ex → ds.length = 2 := by
  rintro _ _ _ _ ⟨_, _, rfl, _⟩
  rfl
theorem d_is_ahead {P : Program} {w : World} {K : PySem.W.Frag} {mg : Str → Option Value} {base : Heap} {S : Sps} {k : Nat} (c : SaysF fn mo.ok K) (L : MoOk' mo K mg) (hS : SOk P w K mg base S k)  :
    Fs.FnR P w K mg base (L2.CX P w) (k + 3) (Pl.at K (.f "is_ahead")) (toSp K spIsAhead) := by
  obtain ⟨ok, fd, F⟩ := c.def_ 0 (d := fd0) rfl
  have O := def_ok (ps := ["day", "end"]) (sp := spIsAhead) L hS F ⟨rfl, rfl, rfl, by decide +kernel, rfl, by decide +kernel, by decide +kernel⟩ l_is_ahead fun ds M P ex h => (e_is_ahead S) ▸ c_is_ahead S  ds M P ex h
  exact fnr_all O (F.bindsN fun _ _ _ _ _ _ us hl => match us, hl with | [_, _], _ => rfl)
theorem e_number_in (S : Sps) : rDef mo S n_number_in (defScope (top 11)) (defBody (top 11)) = r_number_in S := by kernel_rfl
theorem l_number_in : ∀ ds M P ex, spNumberIn ds M P ex → ds.length = 2 := by
  rintro _ _ _ _ ⟨_, _, rfl, _⟩
  rfl
theorem d_number_in {P : Program} {w : World} {K : PySem.W.Frag} {mg : Str → Option Value} {base : Heap} {S : Sps} {k : Nat} (c : SaysF fn mo.ok K) (L : MoOk' mo K mg) (hS : SOk P w K mg base S k)  :
    Fs.FnR P w K mg base (L2.CX P w) (k + 3) (Pl.at K (.f "number_in")) (toSp K spNumberIn) := by
  obtain ⟨ok, fd, F⟩ := c.def_ 1 (d := fd1) rfl
  have O := def_ok (ps := ["piece", "day"]) (sp := spNumberIn) L hS F ⟨rfl, rfl, rfl, by decide +kernel, rfl, by decide +kernel, by decide +kernel⟩ l_number_in fun ds M P ex h => (e_number_in S) ▸ c_number_in S  ds M P ex h
  exact fnr_all O (F.bindsN fun _ _ _ _ _ _ us hl => match us, hl with | [_, _], _ => rfl)
theorem e_spot_from (S : Sps) : rDef mo S n_spot_from (defScope (top 10)) (defBody (top 10)) = r_spot_from S := by kernel_rfl
theorem l_spot_from : ∀ ds M P ex, spSpotFrom ds M P ex → ds.length = 3 := by
  rintro _ _ _ _ ⟨_, _, _, _, rfl, _⟩
  rfl
theorem d_spot_from {P : Program} {w : World} {K : PySem.W.Frag} {mg : Str → Option Value} {base : Heap} {S : Sps} {k : Nat} (c : SaysF fn mo.ok K) (L : MoOk' mo K mg) (hS : SOk P w K mg base S k)  :
    Fs.FnR P w K mg base (L2.CX P w) (k + 3) (Pl.at K (.f "spot_from")) (toSp K spSpotFrom) := by
  obtain ⟨ok, fd, F⟩ := c.def_ 2 (d := fd2) rfl
  have O := def_ok (ps := ["pieces", "spot", "day"]) (sp := spSpotFrom) L hS F ⟨rfl, rfl, rfl, by decide +kernel, rfl, by decide +kernel, by decide +kernel⟩ l_spot_from fun ds M P ex h => (e_spot_from S) ▸ c_spot_from S  ds M P ex h
  exact fnr_all O (F.bindsN fun _ _ _ _ _ _ us hl => match us, hl with | [_, _, _], _ => rfl)
theorem e_leaving (S : Sps) : rDef mo S n_leaving (defScope (top 12)) (defBody (top 12)) = r_leaving S := by kernel_rfl
theorem l_leaving : ∀ ds M P ex, spLeaving ds M P ex → ds.length = 5 := by
  rintro _ _ _ _ ⟨_, _, _, _, _, _, _, _, _, _, _, rfl, _⟩
  rfl
theorem d_leaving {P : Program} {w : World} {K : PySem.W.Frag} {mg : Str → Option Value} {base : Heap} {S : Sps} {k : Nat} (c : SaysF fn mo.ok K) (L : MoOk' mo K mg) (hS : SOk P w K mg base S k) (h1 : S (.f "spot_from") = some spSpotFrom) (h2 : S (.f "is_ahead") = some spIsAhead) :
    Fs.FnR P w K mg base (L2.CX P w) (k + 3) (Pl.at K (.f "leaving")) (toSp K spLeaving) := by
  obtain ⟨ok, fd, F⟩ := c.def_ 3 (d := fd3) rfl
  have O := def_ok (ps := ["pieces", "spot", "begin", "value", "rate"]) (sp := spLeaving) L hS F ⟨rfl, rfl, rfl, by decide +kernel, rfl, by decide +kernel, by decide +kernel⟩ l_leaving fun ds M P ex h => (e_leaving S) ▸ c_leaving S h1 h2 ds M P ex h
  exact fnr_all O (F.bindsN fun _ _ _ _ _ _ us hl => match us, hl with | [_, _, _, _, _], _ => rfl)
theorem e_told (S : Sps) : rDef mo S n_told (defScope (top 13)) (defBody (top 13)) = r_told S := by kernel_rfl
theorem l_told : ∀ ds M P ex, spTold ds M P ex → ds.length = 1 := by
  rintro _ _ _ _ ⟨_, _, _, _, _, rfl, _⟩
  rfl
theorem d_told {P : Program} {w : World} {K : PySem.W.Frag} {mg : Str → Option Value} {base : Heap} {S : Sps} {k : Nat} (c : SaysF fn mo.ok K) (L : MoOk' mo K mg) (hS : SOk P w K mg base S k) (h1 : S (.f "spot_from") = some spSpotFrom) (h2 : S (.f "number_in") = some spNumberIn) (h3 : S (.f "leaving") = some spLeaving) :
    Fs.FnR P w K mg base (L2.CX P w) (k + 3) (Pl.at K (.f "told")) (toSp K spTold) := by
  obtain ⟨ok, fd, F⟩ := c.def_ 4 (d := fd4) rfl
  have O := def_ok (ps := ["pieces"]) (sp := spTold) L hS F ⟨rfl, rfl, rfl, by decide +kernel, rfl, by decide +kernel, by decide +kernel⟩ l_told fun ds M P ex h => (e_told S) ▸ c_told S h1 h2 h3 ds M P ex h
  exact fnr_all O (F.bindsN fun _ _ _ _ _ _ us hl => match us, hl with | [_], _ => rfl)
theorem e_spot_of (S : Sps) : rDef mo S n_spot_of (defScope (top 7)) (defBody (top 7)) = r_spot_of S := by kernel_rfl
theorem l_spot_of : ∀ ds M P ex, spSpotOf ds M P ex → ds.length = 2 := by
  rintro _ _ _ _ ⟨_, _, _, _, rfl, _⟩
  rfl
theorem d_spot_of {P : Program} {w : World} {K : PySem.W.Frag} {mg : Str → Option Value} {base : Heap} {S : Sps} {k : Nat} (c : SaysF fn mo.ok K) (L : MoOk' mo K mg) (hS : SOk P w K mg base S k)  :
    Fs.FnR P w K mg base (L2.CX P w) (k + 3) (Pl.at K (.f "spot_of")) (toSp K spSpotOf) := by
  obtain ⟨ok, fd, F⟩ := c.def_ 5 (d := fd5) rfl
  have O := def_ok (ps := ["pieces", "day"]) (sp := spSpotOf) L hS F ⟨rfl, rfl, rfl, by decide +kernel, rfl, by decide +kernel, by decide +kernel⟩ l_spot_of fun ds M P ex h => (e_spot_of S) ▸ c_spot_of S  ds M P ex h
  exact fnr_all O (F.bindsN fun _ _ _ _ _ _ us hl => match us, hl with | [_, _], _ => rfl)
theorem e_number_on (S : Sps) : rDef mo S n_number_on (defScope (top 8)) (defBody (top 8)) = r_number_on S := by kernel_rfl
theorem l_number_on : ∀ ds M P ex, spNumberOn ds M P ex → ds.length = 2 := by
  rintro _ _ _ _ ⟨_, _, _, _, _, _, _, rfl, _⟩
  rfl
theorem d_number_on {P : Program} {w : World} {K : PySem.W.Frag} {mg : Str → Option Value} {base : Heap} {S : Sps} {k : Nat} (c : SaysF fn mo.ok K) (L : MoOk' mo K mg) (hS : SOk P w K mg base S k) (h1 : S (.f "spot_of") = some spSpotOf) :
    Fs.FnR P w K mg base (L2.CX P w) (k + 3) (Pl.at K (.f "number_on")) (toSp K spNumberOn) := by
  obtain ⟨ok, fd, F⟩ := c.def_ 6 (d := fd6) rfl
  have O := def_ok (ps := ["pieces", "day"]) (sp := spNumberOn) L hS F ⟨rfl, rfl, rfl, by decide +kernel, rfl, by decide +kernel, by decide +kernel⟩ l_number_on fun ds M P ex h => (e_number_on S) ▸ c_number_on S h1 ds M P ex h
  exact fnr_all O (F.bindsN fun _ _ _ _ _ _ us hl => match us, hl with | [_, _], _ => rfl)
theorem e_rate_on (S : Sps) : rDef mo S n_rate_on (defScope (top 15)) (defBody (top 15)) = r_rate_on S := by kernel_rfl
theorem l_rate_on : ∀ ds M P ex, spRateOn ds M P ex → ds.length = 2 := by
  rintro _ _ _ _ ⟨_, _, _, _, rfl, _⟩
  rfl
theorem d_rate_on {P : Program} {w : World} {K : PySem.W.Frag} {mg : Str → Option Value} {base : Heap} {S : Sps} {k : Nat} (c : SaysF fn mo.ok K) (L : MoOk' mo K mg) (hS : SOk P w K mg base S k) (h1 : S (.f "spot_of") = some spSpotOf) :
    Fs.FnR P w K mg base (L2.CX P w) (k + 3) (Pl.at K (.f "rate_on")) (toSp K spRateOn) := by
  obtain ⟨ok, fd, F⟩ := c.def_ 7 (d := fd7) rfl
  have O := def_ok (ps := ["pieces", "day"]) (sp := spRateOn) L hS F ⟨rfl, rfl, rfl, by decide +kernel, rfl, by decide +kernel, by decide +kernel⟩ l_rate_on fun ds M P ex h => (e_rate_on S) ▸ c_rate_on S h1 ds M P ex h
  exact fnr_all O (F.bindsN fun _ _ _ _ _ _ us hl => match us, hl with | [_, _], _ => rfl)
theorem e_is_integer (S : Sps) : rDef mo S n_is_integer (defScope (top 32)) (defBody (top 32)) = r_is_integer S := by kernel_rfl
theorem l_is_integer : ∀ ds M P ex, spIsInteger ds M P ex → ds.length = 3 := by
  rintro _ _ _ _ ⟨_, _, _, rfl, _⟩
  rfl
theorem d_is_integer {P : Program} {w : World} {K : PySem.W.Frag} {mg : Str → Option Value} {base : Heap} {S : Sps} {k : Nat} (c : SaysF fn mo.ok K) (L : MoOk' mo K mg) (hS : SOk P w K mg base S k)  :
    Fs.FnR P w K mg base (L2.CX P w) (k + 3) (Pl.at K (.f "is_integer")) (toSp K (dfl 1 [.non, .non] spIsInteger)) := by
  obtain ⟨ok, fd, F⟩ := c.def_ 8 (d := fd8) rfl
  have O := def_ok (ps := ["value", "low", "high"]) (sp := spIsInteger) L hS F ⟨rfl, rfl, rfl, by decide +kernel, rfl, by decide +kernel, by decide +kernel⟩ l_is_integer fun ds M P ex h => (e_is_integer S) ▸ c_is_integer S  ds M P ex h
  refine fnr_dfl O (fun F => ⟨_, _, rfl, rfl, _, _, rfl, rfl, rfl⟩) fun j hj => ?_
  match j, hj with
  | 0, _ => exact F.binds1 1 0 (by intro h; cases h) rfl fun _ _ _ _ _ _ _ us its hu hi => match us, its, hu, hi with | [_], [_, _], _, _ => ⟨_, rfl, rfl⟩
  | 1, _ => exact F.binds1 2 1 (by intro h; cases h) rfl fun _ _ _ _ _ _ _ us its hu hi => match us, its, hu, hi with | [_, _], [_, _], _, _ => ⟨_, rfl, rfl⟩
  | 2, _ => exact F.binds1 3 2 (by intro h; cases h) rfl fun _ _ _ _ _ _ _ us its hu hi => match us, its, hu, hi with | [_, _, _], [_, _], _, _ => ⟨_, rfl, rfl⟩
theorem e_is_tuple (S : Sps) : rDef mo S n_is_tuple (defScope (top 33)) (defBody (top 33)) = r_is_tuple S := by kernel_rfl
theorem l_is_tuple : ∀ ds M P ex, spIsTuple ds M P ex → ds.length = 3 := by
  rintro _ _ _ _ ⟨_, _, _, rfl, _⟩
  rfl
theorem d_is_tuple {P : Program} {w : World} {K : PySem.W.Frag} {mg : Str → Option Value} {base : Heap} {S : Sps} {k : Nat} (c : SaysF fn mo.ok K) (L : MoOk' mo K mg) (hS : SOk P w K mg base S k)  :
    Fs.FnR P w K mg base (L2.CX P w) (k + 3) (Pl.at K (.f "is_tuple")) (toSp K (dfl 2 [.non] spIsTuple)) := by
  obtain ⟨ok, fd, F⟩ := c.def_ 9 (d := fd9) rfl
  have O := def_ok (ps := ["value", "least", "most"]) (sp := spIsTuple) L hS F ⟨rfl, rfl, rfl, by decide +kernel, rfl, by decide +kernel, by decide +kernel⟩ l_is_tuple fun ds M P ex h => (e_is_tuple S) ▸ c_is_tuple S  ds M P ex h
  refine fnr_dfl O (fun F => ⟨_, _, rfl, rfl, rfl⟩) fun j hj => ?_
  match j, hj with
  | 0, _ => exact F.binds1 2 0 (by intro h; cases h) rfl fun _ _ _ _ _ _ _ us its hu hi => match us, its, hu, hi with | [_, _], [_], _, _ => ⟨_, rfl, rfl⟩
  | 1, _ => exact F.binds1 3 1 (by intro h; cases h) rfl fun _ _ _ _ _ _ _ us its hu hi => match us, its, hu, hi with | [_, _, _], [_], _, _ => ⟨_, rfl, rfl⟩
theorem e_are_pieces (S : Sps) : rDef mo S n_are_pieces (defScope (top 36)) (defBody (top 36)) = r_are_pieces S := by kernel_rfl
theorem l_are_pieces : ∀ ds M P ex, spArePieces ds M P ex → ds.length = 1 := by
  rintro _ _ _ _ ⟨_, rfl, _⟩
  rfl
theorem d_are_pieces {P : Program} {w : World} {K : PySem.W.Frag} {mg : Str → Option Value} {base : Heap} {S : Sps} {k : Nat} (c : SaysF fn mo.ok K) (L : MoOk' mo K mg) (hS : SOk P w K mg base S k) (h1 : S (.f "is_tuple") = some (dfl 2 [.non] spIsTuple)) (h2 : S (.f "is_integer") = some (dfl 1 [.non, .non] spIsInteger)) :
    Fs.FnR P w K mg base (L2.CX P w) (k + 3) (Pl.at K (.f "are_pieces")) (toSp K spArePieces) := by
  obtain ⟨ok, fd, F⟩ := c.def_ 10 (d := fd10) rfl
  have O := def_ok (ps := ["value"]) (sp := spArePieces) L hS F ⟨rfl, rfl, rfl, by decide +kernel, rfl, by decide +kernel, by decide +kernel⟩ l_are_pieces fun ds M P ex h => (e_are_pieces S) ▸ c_are_pieces S h1 h2 ds M P ex h
  exact fnr_all O (F.bindsN fun _ _ _ _ _ _ us hl => match us, hl with | [_], _ => rfl)
theorem e_check_day (S : Sps) : rDef mo S n_check_day (defScope (top 37)) (defBody (top 37)) = r_check_day S := by kernel_rfl
theorem l_check_day : ∀ ds M P ex, spCheckDay ds M P ex → ds.length = 1 := by
  rintro _ _ _ _ ⟨_, rfl, _⟩
  rfl
theorem d_check_day {P : Program} {w : World} {K : PySem.W.Frag} {mg : Str → Option Value} {base : Heap} {S : Sps} {k : Nat} (c : SaysF fn mo.ok K) (L : MoOk' mo K mg) (hS : SOk P w K mg base S k) (h1 : S (.f "is_integer") = some (dfl 1 [.non, .non] spIsInteger)) :
    Fs.FnR P w K mg base (L2.CX P w) (k + 3) (Pl.at K (.f "check_day")) (toSp K spCheckDay) := by
  obtain ⟨ok, fd, F⟩ := c.def_ 11 (d := fd11) rfl
  have O := def_ok (ps := ["value"]) (sp := spCheckDay) L hS F ⟨rfl, rfl, rfl, by decide +kernel, rfl, by decide +kernel, by decide +kernel⟩ l_check_day fun ds M P ex h => (e_check_day S) ▸ c_check_day S h1 ds M P ex h
  exact fnr_all O (F.bindsN fun _ _ _ _ _ _ us hl => match us, hl with | [_], _ => rfl)
theorem e_moved (S : Sps) : rDef mo S n_moved (defScope (top 21)) (defBody (top 21)) = r_moved S := by kernel_rfl
theorem l_moved : ∀ ds M P ex, spMoved ds M P ex → ds.length = 2 := by
  rintro _ _ _ _ ⟨_, _, _, _, _, _, rfl, _⟩
  rfl
theorem d_moved {P : Program} {w : World} {K : PySem.W.Frag} {mg : Str → Option Value} {base : Heap} {S : Sps} {k : Nat} (c : SaysF fn mo.ok K) (L : MoOk' mo K mg) (hS : SOk P w K mg base S k) (h1 : S (.f "told") = some spTold) (h2 : S (.f "number_on") = some spNumberOn) (h3 : S (.f "rate_on") = some spRateOn) :
    Fs.FnR P w K mg base (L2.CX P w) (k + 3) (Pl.at K (.f "moved_pieces")) (toSp K spMoved) := by
  obtain ⟨ok, fd, F⟩ := c.def_ 12 (d := fd12) rfl
  have O := def_ok (ps := ["pieces", "days"]) (sp := spMoved) L hS F ⟨rfl, rfl, rfl, by decide +kernel, rfl, by decide +kernel, by decide +kernel⟩ l_moved fun ds M P ex h => (e_moved S) ▸ c_moved S h1 h2 h3 ds M P ex h
  exact fnr_all O (F.bindsN fun _ _ _ _ _ _ us hl => match us, hl with | [_, _], _ => rfl)
theorem e_held (S : Sps) : rDef mo S n_held (defScope (top 23)) (defBody (top 23)) = r_held S := by kernel_rfl
theorem l_held : ∀ ds M P ex, spHeld ds M P ex → ds.length = 2 := by
  rintro _ _ _ _ ⟨_, _, _, _, _, _, rfl, _⟩
  rfl
theorem d_held {P : Program} {w : World} {K : PySem.W.Frag} {mg : Str → Option Value} {base : Heap} {S : Sps} {k : Nat} (c : SaysF fn mo.ok K) (L : MoOk' mo K mg) (hS : SOk P w K mg base S k) (h1 : S (.f "told") = some spTold) :
    Fs.FnR P w K mg base (L2.CX P w) (k + 3) (Pl.at K (.f "held_pieces")) (toSp K spHeld) := by
  obtain ⟨ok, fd, F⟩ := c.def_ 13 (d := fd13) rfl
  have O := def_ok (ps := ["pieces", "days"]) (sp := spHeld) L hS F ⟨rfl, rfl, rfl, by decide +kernel, rfl, by decide +kernel, by decide +kernel⟩ l_held fun ds M P ex h => (e_held S) ▸ c_held S h1 ds M P ex h
  exact fnr_all O (F.bindsN fun _ _ _ _ _ _ us hl => match us, hl with | [_, _], _ => rfl)
theorem e_Stairs_pieces (S : Sps) : rDef mo S n_Stairs_pieces (defScope (inClass (top 38) 3)) (defBody (inClass (top 38) 3)) = r_Stairs_pieces S := by kernel_rfl
theorem l_Stairs_pieces : ∀ ds M P ex, spPieces ds M P ex → ds.length = 1 := by
  rintro _ _ _ _ ⟨_, rfl, _⟩
  rfl
theorem d_Stairs_pieces {P : Program} {w : World} {K : PySem.W.Frag} {mg : Str → Option Value} {base : Heap} {S : Sps} {k : Nat} (c : SaysF fn mo.ok K) (L : MoOk' mo K mg) (hS : SOk P w K mg base S k) (h1 : (S (.c "Stairs")).isSome) :
    Fs.FnR P w K mg base (L2.CX P w) (k + 3) (Pl.at K (.p "Stairs" "pieces")) (toSp K spPieces) := by
  obtain ⟨ok, fd, F⟩ := c.def_ 14 (d := fd14) rfl
  have O := def_ok (ps := ["self"]) (sp := spPieces) L hS F ⟨rfl, rfl, rfl, by decide +kernel, rfl, by decide +kernel, by decide +kernel⟩ l_Stairs_pieces fun ds M P ex h => (e_Stairs_pieces S) ▸ c_pieces S h1 ds M P ex h
  exact fnr_all O (F.bindsN fun _ _ _ _ _ _ us hl => match us, hl with | [_], _ => rfl)
theorem e_Stairs___init__ (S : Sps) : rDef mo S n_Stairs___init__ (defScope (inClass (top 38) 1)) (defBody (inClass (top 38) 1)) = r_Stairs___init__ S := by kernel_rfl
theorem l_Stairs___init__ : ∀ ds M P ex, spInit ds M P ex → ds.length = 2 := by
  rintro _ _ _ _ ⟨_, _, _, _, rfl, _⟩
  rfl
theorem d_Stairs___init__ {P : Program} {w : World} {K : PySem.W.Frag} {mg : Str → Option Value} {base : Heap} {S : Sps} {k : Nat} (c : SaysF fn mo.ok K) (L : MoOk' mo K mg) (hS : SOk P w K mg base S k) (h0 : (S (.c "Stairs")).isSome) (h1 : S (.f "are_pieces") = some spArePieces) (h2 : S (.f "told") = some spTold) :
    Fs.FnR P w K mg base (L2.CX P w) (k + 3) (Pl.at K (.m "Stairs" "__init__")) (toSp K spInit) := by
  obtain ⟨ok, fd, F⟩ := c.def_ 15 (d := fd15) rfl
  have O := def_ok (ps := ["self", "pieces"]) (sp := spInit) L hS F ⟨rfl, rfl, rfl, by decide +kernel, rfl, by decide +kernel, by decide +kernel⟩ l_Stairs___init__ fun ds M P ex h => (e_Stairs___init__ S) ▸ c_init S h0 h1 h2 ds M P ex h
  exact fnr_all O (F.bindsN fun _ _ _ _ _ _ us hl => match us, hl with | [_, _], _ => rfl)
theorem e_Stairs___getitem__ (S : Sps) : rDef mo S n_Stairs___getitem__ (defScope (inClass (top 38) 14)) (defBody (inClass (top 38) 14)) = r_Stairs___getitem__ S := by kernel_rfl
theorem l_Stairs___getitem__ : ∀ ds M P ex, spGetItem ds M P ex → ds.length = 2 := by
  rintro _ _ _ _ ⟨_, _, _, _, _, _, rfl, _⟩
  rfl
theorem d_Stairs___getitem__ {P : Program} {w : World} {K : PySem.W.Frag} {mg : Str → Option Value} {base : Heap} {S : Sps} {k : Nat} (c : SaysF fn mo.ok K) (L : MoOk' mo K mg) (hS : SOk P w K mg base S k) (h0 : (S (.c "Stairs")).isSome) (h1 : S (.f "check_day") = some spCheckDay) (h2 : S (.f "number_on") = some spNumberOn) :
    Fs.FnR P w K mg base (L2.CX P w) (k + 3) (Pl.at K (.m "Stairs" "__getitem__")) (toSp K spGetItem) := by
  obtain ⟨ok, fd, F⟩ := c.def_ 16 (d := fd16) rfl
  have O := def_ok (ps := ["self", "day"]) (sp := spGetItem) L hS F ⟨rfl, rfl, rfl, by decide +kernel, rfl, by decide +kernel, by decide +kernel⟩ l_Stairs___getitem__ fun ds M P ex h => (e_Stairs___getitem__ S) ▸ c_getitem S h0 h1 h2 ds M P ex h
  exact fnr_all O (F.bindsN fun _ _ _ _ _ _ us hl => match us, hl with | [_, _], _ => rfl)
theorem e_Stairs___eq__ (S : Sps) : rDef mo S n_Stairs___eq__ (defScope (inClass (top 38) 24)) (defBody (inClass (top 38) 24)) = r_Stairs___eq__ S := by kernel_rfl
theorem l_Stairs___eq__ : ∀ ds M P ex, spEq ds M P ex → ds.length = 2 := by
  rintro _ _ _ _ ⟨_, _, rfl, _⟩
  rfl
theorem d_Stairs___eq__ {P : Program} {w : World} {K : PySem.W.Frag} {mg : Str → Option Value} {base : Heap} {S : Sps} {k : Nat} (c : SaysF fn mo.ok K) (L : MoOk' mo K mg) (hS : SOk P w K mg base S k) (h0 : (S (.c "Stairs")).isSome) (h2 : S (.p "Stairs" "pieces") = some spPieces) :
    Fs.FnR P w K mg base (L2.CX P w) (k + 3) (Pl.at K (.m "Stairs" "__eq__")) (toSp K spEq) := by
  obtain ⟨ok, fd, F⟩ := c.def_ 17 (d := fd17) rfl
  have O := def_ok (ps := ["self", "other"]) (sp := spEq) L hS F ⟨rfl, rfl, rfl, by decide +kernel, rfl, by decide +kernel, by decide +kernel⟩ l_Stairs___eq__ fun ds M P ex h => (e_Stairs___eq__ S) ▸ c_eq S h0 h2 ds M P ex h
  exact fnr_all O (F.bindsN fun _ _ _ _ _ _ us hl => match us, hl with | [_, _], _ => rfl)
theorem e_Stairs_moved (S : Sps) : rDef mo S n_Stairs_moved (defScope (inClass (top 38) 9)) (defBody (inClass (top 38) 9)) = r_Stairs_moved S := by kernel_rfl
theorem l_Stairs_moved : ∀ ds M P ex, spStMoved ds M P ex → ds.length = 2 := by
  rintro _ _ _ _ ⟨_, _, _, _, _, _, rfl, _⟩
  rfl
theorem d_Stairs_moved {P : Program} {w : World} {K : PySem.W.Frag} {mg : Str → Option Value} {base : Heap} {S : Sps} {k : Nat} (c : SaysF fn mo.ok K) (L : MoOk' mo K mg) (hS : SOk P w K mg base S k) (h0 : (S (.c "Stairs")).isSome) (h1 : S (.f "check_day") = some spCheckDay) (h2 : S (.f "moved_pieces") = some spMoved) (h3 : S (.f "Stairs") = some spStairs) :
    Fs.FnR P w K mg base (L2.CX P w) (k + 3) (Pl.at K (.m "Stairs" "moved")) (toSp K spStMoved) := by
  obtain ⟨ok, fd, F⟩ := c.def_ 18 (d := fd18) rfl
  have O := def_ok (ps := ["self", "days"]) (sp := spStMoved) L hS F ⟨rfl, rfl, rfl, by decide +kernel, rfl, by decide +kernel, by decide +kernel⟩ l_Stairs_moved fun ds M P ex h => (e_Stairs_moved S) ▸ c_st_moved S h0 h1 h2 h3 ds M P ex h
  exact fnr_all O (F.bindsN fun _ _ _ _ _ _ us hl => match us, hl with | [_, _], _ => rfl)
theorem e_Stairs_held (S : Sps) : rDef mo S n_Stairs_held (defScope (inClass (top 38) 10)) (defBody (inClass (top 38) 10)) = r_Stairs_held S := by kernel_rfl
theorem l_Stairs_held : ∀ ds M P ex, spStHeld ds M P ex → ds.length = 2 := by
  rintro _ _ _ _ ⟨_, _, _, _, _, _, rfl, _⟩
  rfl
theorem d_Stairs_held {P : Program} {w : World} {K : PySem.W.Frag} {mg : Str → Option Value} {base : Heap} {S : Sps} {k : Nat} (c : SaysF fn mo.ok K) (L : MoOk' mo K mg) (hS : SOk P w K mg base S k) (h0 : (S (.c "Stairs")).isSome) (h1 : S (.f "check_day") = some spCheckDay) (h2 : S (.f "held_pieces") = some spHeld) (h3 : S (.f "Stairs") = some spStairs) :
    Fs.FnR P w K mg base (L2.CX P w) (k + 3) (Pl.at K (.m "Stairs" "held")) (toSp K spStHeld) := by
  obtain ⟨ok, fd, F⟩ := c.def_ 19 (d := fd19) rfl
  have O := def_ok (ps := ["self", "days"]) (sp := spStHeld) L hS F ⟨rfl, rfl, rfl, by decide +kernel, rfl, by decide +kernel, by decide +kernel⟩ l_Stairs_held fun ds M P ex h => (e_Stairs_held S) ▸ c_st_held S h0 h1 h2 h3 ds M P ex h
  exact fnr_all O (F.bindsN fun _ _ _ _ _ _ us hl => match us, hl with | [_, _], _ => rfl)
theorem e__law_take (S : Sps) : rDef mo S n__law_take (defScope (top 42)) (defBody (top 42)) = r__law_take S := by kernel_rfl
theorem l__law_take : ∀ ds M P ex, spTake ds M P ex → ds.length = 2 := by
  rintro _ _ _ _ ⟨_, _, _, rfl, _⟩
  rfl
theorem d__law_take {P : Program} {w : World} {K : PySem.W.Frag} {mg : Str → Option Value} {base : Heap} {S : Sps} {k : Nat} (c : SaysF fn mo.ok K) (L : MoOk' mo K mg) (hS : SOk P w K mg base S k)  :
    Fs.FnR P w K mg base (L2.CX P w) (k + 3) (Pl.at K (.f "_law_take")) (toSp K spTake) := by
  obtain ⟨ok, fd, F⟩ := c.def_ 20 (d := fd20) rfl
  have O := def_ok (ps := ["pot", "upto"]) (sp := spTake) L hS F ⟨rfl, rfl, rfl, by decide +kernel, rfl, by decide +kernel, by decide +kernel⟩ l__law_take fun ds M P ex h => (e__law_take S) ▸ c_take S  ds M P ex h
  exact fnr_all O (F.bindsN fun _ _ _ _ _ _ us hl => match us, hl with | [_, _], _ => rfl)
theorem e__law_of (S : Sps) : rDef mo S n__law_of (defScope (top 43)) (defBody (top 43)) = r__law_of S := by kernel_rfl
theorem l__law_of : ∀ ds M P ex, spOf ds M P ex → ds.length = 2 := by
  rintro _ _ _ _ ⟨_, _, _, _, rfl, _⟩
  rfl
theorem d__law_of {P : Program} {w : World} {K : PySem.W.Frag} {mg : Str → Option Value} {base : Heap} {S : Sps} {k : Nat} (c : SaysF fn mo.ok K) (L : MoOk' mo K mg) (hS : SOk P w K mg base S k) (h1 : S (.f "_law_take") = some spTake) :
    Fs.FnR P w K mg base (L2.CX P w) (k + 3) (Pl.at K (.f "_law_of")) (toSp K spOf) := by
  obtain ⟨ok, fd, F⟩ := c.def_ 21 (d := fd21) rfl
  have O := def_ok (ps := ["pot", "some"]) (sp := spOf) L hS F ⟨rfl, rfl, rfl, by decide +kernel, rfl, by decide +kernel, by decide +kernel⟩ l__law_of fun ds M P ex h => (e__law_of S) ▸ c_of S h1 ds M P ex h
  exact fnr_all O (F.bindsN fun _ _ _ _ _ _ us hl => match us, hl with | [_, _], _ => rfl)
theorem e__law_draws (S : Sps) : rDef mo S n__law_draws (defScope (top 41)) (defBody (top 41)) = r__law_draws S := by kernel_rfl
theorem l__law_draws : ∀ ds M P ex, spDraws ds M P ex → ds.length = 2 := by
  rintro _ _ _ _ ⟨_, _, _, rfl, _⟩
  rfl
theorem d__law_draws {P : Program} {w : World} {K : PySem.W.Frag} {mg : Str → Option Value} {base : Heap} {S : Sps} {k : Nat} (c : SaysF fn mo.ok K) (L : MoOk' mo K mg) (hS : SOk P w K mg base S k)  :
    Fs.FnR P w K mg base (L2.CX P w) (k + 3) (Pl.at K (.f "_law_draws")) (toSp K spDraws) := by
  obtain ⟨ok, fd, F⟩ := c.def_ 22 (d := fd22) rfl
  have O := def_ok (ps := ["script", "place"]) (sp := spDraws) L hS F ⟨rfl, rfl, rfl, by decide +kernel, rfl, by decide +kernel, by decide +kernel⟩ l__law_draws fun ds M P ex h => (e__law_draws S) ▸ c_draws S  ds M P ex h
  exact fnr_all O (F.bindsN fun _ _ _ _ _ _ us hl => match us, hl with | [_, _], _ => rfl)
theorem e__law_cells (S : Sps) : rDef mo S n__law_cells (defScope (top 44)) (defBody (top 44)) = r__law_cells S := by kernel_rfl
theorem l__law_cells : ∀ ds M P ex, spCells ds M P ex → ds.length = 2 := by
  rintro _ _ _ _ ⟨_, _, _, rfl, _⟩
  rfl
theorem d__law_cells {P : Program} {w : World} {K : PySem.W.Frag} {mg : Str → Option Value} {base : Heap} {S : Sps} {k : Nat} (c : SaysF fn mo.ok K) (L : MoOk' mo K mg) (hS : SOk P w K mg base S k)  :
    Fs.FnR P w K mg base (L2.CX P w) (k + 3) (Pl.at K (.f "_law_cells")) (toSp K spCells) := by
  obtain ⟨ok, fd, F⟩ := c.def_ 23 (d := fd23) rfl
  have O := def_ok (ps := ["script", "limit"]) (sp := spCells) L hS F ⟨rfl, rfl, rfl, by decide +kernel, rfl, by decide +kernel, by decide +kernel⟩ l__law_cells fun ds M P ex h => (e__law_cells S) ▸ c_cells S  ds M P ex h
  exact fnr_all O (F.bindsN fun _ _ _ _ _ _ us hl => match us, hl with | [_, _], _ => rfl)
theorem e__law_at (S : Sps) : rDef mo S n__law_at (defScope (top 45)) (defBody (top 45)) = r__law_at S := by kernel_rfl
theorem l__law_at : ∀ ds M P ex, spAt ds M P ex → ds.length = 2 := by
  rintro _ _ _ _ ⟨_, _, _, _, _, _, rfl, _⟩
  rfl
theorem d__law_at {P : Program} {w : World} {K : PySem.W.Frag} {mg : Str → Option Value} {base : Heap} {S : Sps} {k : Nat} (c : SaysF fn mo.ok K) (L : MoOk' mo K mg) (hS : SOk P w K mg base S k)  :
    Fs.FnR P w K mg base (L2.CX P w) (k + 3) (Pl.at K (.f "_law_at")) (toSp K spAt) := by
  obtain ⟨ok, fd, F⟩ := c.def_ 24 (d := fd24) rfl
  have O := def_ok (ps := ["pieces", "day"]) (sp := spAt) L hS F ⟨rfl, rfl, rfl, by decide +kernel, rfl, by decide +kernel, by decide +kernel⟩ l__law_at fun ds M P ex h => (e__law_at S) ▸ c_at S  ds M P ex h
  exact fnr_all O (F.bindsN fun _ _ _ _ _ _ us hl => match us, hl with | [_, _], _ => rfl)
theorem e__law_pieces (S : Sps) : rDef mo S n__law_pieces (defScope (top 46)) (defBody (top 46)) = r__law_pieces S := by kernel_rfl
theorem l__law_pieces : ∀ ds M P ex, spLawPieces ds M P ex → ds.length = 4 := by
  rintro _ _ _ _ ⟨_, _, _, _, _, rfl, _⟩
  rfl
theorem d__law_pieces {P : Program} {w : World} {K : PySem.W.Frag} {mg : Str → Option Value} {base : Heap} {S : Sps} {k : Nat} (c : SaysF fn mo.ok K) (L : MoOk' mo K mg) (hS : SOk P w K mg base S k) (h1 : S (.f "_law_take") = some spTake) (h2 : S (.f "_law_of") = some spOf) (h3 : S (.f "_law_at") = some spAt) :
    Fs.FnR P w K mg base (L2.CX P w) (k + 3) (Pl.at K (.f "_law_pieces")) (toSp K spLawPieces) := by
  obtain ⟨ok, fd, F⟩ := c.def_ 25 (d := fd25) rfl
  have O := def_ok (ps := ["pot", "amount", "far", "steep"]) (sp := spLawPieces) L hS F ⟨rfl, rfl, rfl, by decide +kernel, rfl, by decide +kernel, by decide +kernel⟩ l__law_pieces fun ds M P ex h => (e__law_pieces S) ▸ c_law_pieces S h1 h2 h3 ds M P ex h
  exact fnr_all O (F.bindsN fun _ _ _ _ _ _ us hl => match us, hl with | [_, _, _, _], _ => rfl)
theorem e__law_stairs (S : Sps) : rDef mo S n__law_stairs (defScope (top 47)) (defBody (top 47)) = r__law_stairs S := by kernel_rfl
theorem l__law_stairs : ∀ ds M P ex, spLawStairs ds M P ex → ds.length = 1 := by
  rintro _ _ _ _ ⟨_, _, _, _, rfl, _⟩
  rfl
theorem d__law_stairs {P : Program} {w : World} {K : PySem.W.Frag} {mg : Str → Option Value} {base : Heap} {S : Sps} {k : Nat} (c : SaysF fn mo.ok K) (L : MoOk' mo K mg) (hS : SOk P w K mg base S k) (h1 : S (.f "Stairs") = some spStairs) :
    Fs.FnR P w K mg base (L2.CX P w) (k + 3) (Pl.at K (.f "_law_stairs")) (toSp K spLawStairs) := by
  obtain ⟨ok, fd, F⟩ := c.def_ 26 (d := fd26) rfl
  have O := def_ok (ps := ["pieces"]) (sp := spLawStairs) L hS F ⟨rfl, rfl, rfl, by decide +kernel, rfl, by decide +kernel, by decide +kernel⟩ l__law_stairs fun ds M P ex h => (e__law_stairs S) ▸ c_law_stairs S h1 ds M P ex h
  exact fnr_all O (F.bindsN fun _ _ _ _ _ _ us hl => match us, hl with | [_], _ => rfl)
theorem e__law_amount (S : Sps) : rDef mo S n__law_amount (defScope (top 50)) (defBody (top 50)) = r__law_amount S := by kernel_rfl
theorem l__law_amount : ∀ ds M P ex, spAmount ds M P ex → ds.length = 1 := by
  rintro _ _ _ _ ⟨_, _, rfl, _⟩
  rfl
theorem d__law_amount {P : Program} {w : World} {K : PySem.W.Frag} {mg : Str → Option Value} {base : Heap} {S : Sps} {k : Nat} (c : SaysF fn mo.ok K) (L : MoOk' mo K mg) (hS : SOk P w K mg base S k) (h1 : S (.f "_law_of") = some spOf) :
    Fs.FnR P w K mg base (L2.CX P w) (k + 3) (Pl.at K (.f "_law_amount")) (toSp K spAmount) := by
  obtain ⟨ok, fd, F⟩ := c.def_ 27 (d := fd27) rfl
  have O := def_ok (ps := ["pot"]) (sp := spAmount) L hS F ⟨rfl, rfl, rfl, by decide +kernel, rfl, by decide +kernel, by decide +kernel⟩ l__law_amount fun ds M P ex h => (e__law_amount S) ▸ c_amount S h1 ds M P ex h
  exact fnr_all O (F.bindsN fun _ _ _ _ _ _ us hl => match us, hl with | [_], _ => rfl)
theorem e__law_first_off (S : Sps) : rDef mo S n__law_first_off (defScope (top 49)) (defBody (top 49)) = r__law_first_off S := by kernel_rfl
theorem l__law_first_off : ∀ ds M P ex, spFirstOff ds M P ex → ds.length = 5 := by
  rintro _ _ _ _ ⟨_, _, _, _, _, _, _, _, _, _, rfl, _⟩
  rfl
theorem d__law_first_off {P : Program} {w : World} {K : PySem.W.Frag} {mg : Str → Option Value} {base : Heap} {S : Sps} {k : Nat} (c : SaysF fn mo.ok K) (L : MoOk' mo K mg) (hS : SOk P w K mg base S k) (h1 : S (.f "_law_at") = some spAt) :
    Fs.FnR P w K mg base (L2.CX P w) (k + 3) (Pl.at K (.f "_law_first_off")) (toSp K spFirstOff) := by
  obtain ⟨ok, fd, F⟩ := c.def_ 28 (d := fd28) rfl
  have O := def_ok (ps := ["pieces", "days", "begin", "value", "rate"]) (sp := spFirstOff) L hS F ⟨rfl, rfl, rfl, by decide +kernel, rfl, by decide +kernel, by decide +kernel⟩ l__law_first_off fun ds M P ex h => (e__law_first_off S) ▸ c_first_off S h1 ds M P ex h
  exact fnr_all O (F.bindsN fun _ _ _ _ _ _ us hl => match us, hl with | [_, _, _, _, _], _ => rfl)
theorem e__law_canon (S : Sps) : rDef mo S n__law_canon (defScope (top 48)) (defBody (top 48)) = r__law_canon S := by kernel_rfl
theorem l__law_canon : ∀ ds M P ex, spLawCanon ds M P ex → ds.length = 1 := by
  rintro _ _ _ _ ⟨_, _, _, _, _, rfl, _⟩
  rfl
theorem d__law_canon {P : Program} {w : World} {K : PySem.W.Frag} {mg : Str → Option Value} {base : Heap} {S : Sps} {k : Nat} (c : SaysF fn mo.ok K) (L : MoOk' mo K mg) (hS : SOk P w K mg base S k) (h1 : S (.f "_law_at") = some spAt) (h2 : S (.f "_law_first_off") = some spFirstOff) :
    Fs.FnR P w K mg base (L2.CX P w) (k + 3) (Pl.at K (.f "_law_canon")) (toSp K spLawCanon) := by
  obtain ⟨ok, fd, F⟩ := c.def_ 29 (d := fd29) rfl
  have O := def_ok (ps := ["pieces"]) (sp := spLawCanon) L hS F ⟨rfl, rfl, rfl, by decide +kernel, rfl, by decide +kernel, by decide +kernel⟩ l__law_canon fun ds M P ex h => (e__law_canon S) ▸ c_law_canon S h1 h2 ds M P ex h
  exact fnr_all O (F.bindsN fun _ _ _ _ _ _ us hl => match us, hl with | [_], _ => rfl)
theorem e__law_corners (S : Sps) : rDef mo S n__law_corners (defScope (top 51)) (defBody (top 51)) = r__law_corners S := by kernel_rfl
theorem l__law_corners : ∀ ds M P ex, spCorners ds M P ex → ds.length = 1 := by
  rintro _ _ _ _ ⟨_, _, rfl, _⟩
  rfl
theorem d__law_corners {P : Program} {w : World} {K : PySem.W.Frag} {mg : Str → Option Value} {base : Heap} {S : Sps} {k : Nat} (c : SaysF fn mo.ok K) (L : MoOk' mo K mg) (hS : SOk P w K mg base S k)  :
    Fs.FnR P w K mg base (L2.CX P w) (k + 3) (Pl.at K (.f "_law_corners")) (toSp K spCorners) := by
  obtain ⟨ok, fd, F⟩ := c.def_ 30 (d := fd30) rfl
  have O := def_ok (ps := ["lists"]) (sp := spCorners) L hS F ⟨rfl, rfl, rfl, by decide +kernel, rfl, by decide +kernel, by decide +kernel⟩ l__law_corners fun ds M P ex h => (e__law_corners S) ▸ c_corners S  ds M P ex h
  exact fnr_all O (F.bindsN fun _ _ _ _ _ _ us hl => match us, hl with | [_], _ => rfl)
theorem e__law_are_pieces (S : Sps) : rDef mo S n__law_are_pieces (defScope (top 52)) (defBody (top 52)) = r__law_are_pieces S := by kernel_rfl
theorem l__law_are_pieces : ∀ ds M P ex, spLawArePieces ds M P ex → ds.length = 1 := by
  rintro _ _ _ _ ⟨_, rfl, _⟩
  rfl
theorem d__law_are_pieces {P : Program} {w : World} {K : PySem.W.Frag} {mg : Str → Option Value} {base : Heap} {S : Sps} {k : Nat} (c : SaysF fn mo.ok K) (L : MoOk' mo K mg) (hS : SOk P w K mg base S k)  :
    Fs.FnR P w K mg base (L2.CX P w) (k + 3) (Pl.at K (.f "_law_are_pieces")) (toSp K spLawArePieces) := by
  obtain ⟨ok, fd, F⟩ := c.def_ 31 (d := fd31) rfl
  have O := def_ok (ps := ["value"]) (sp := spLawArePieces) L hS F ⟨rfl, rfl, rfl, by decide +kernel, rfl, by decide +kernel, by decide +kernel⟩ l__law_are_pieces fun ds M P ex h => (e__law_are_pieces S) ▸ c_law_are_pieces S  ds M P ex h
  exact fnr_all O (F.bindsN fun _ _ _ _ _ _ us hl => match us, hl with | [_], _ => rfl)
theorem e__law_numbers (S : Sps) : rDef mo S n__law_numbers (defScope (top 53)) (defBody (top 53)) = r__law_numbers S := by kernel_rfl
theorem l__law_numbers : ∀ ds M P ex, spNumbers ds M P ex → ds.length = 2 := by
  rintro _ _ _ _ ⟨_, _, _, _, _, _, _, _, rfl, _⟩
  rfl
theorem d__law_numbers {P : Program} {w : World} {K : PySem.W.Frag} {mg : Str → Option Value} {base : Heap} {S : Sps} {k : Nat} (c : SaysF fn mo.ok K) (L : MoOk' mo K mg) (hS : SOk P w K mg base S k)  :
    Fs.FnR P w K mg base (L2.CX P w) (k + 3) (Pl.at K (.f "_law_numbers")) (toSp K spNumbers) := by
  obtain ⟨ok, fd, F⟩ := c.def_ 32 (d := fd32) rfl
  have O := def_ok (ps := ["pieces", "days"]) (sp := spNumbers) L hS F ⟨rfl, rfl, rfl, by decide +kernel, rfl, by decide +kernel, by decide +kernel⟩ l__law_numbers fun ds M P ex h => (e__law_numbers S) ▸ c_numbers S  ds M P ex h
  exact fnr_all O (F.bindsN fun _ _ _ _ _ _ us hl => match us, hl with | [_, _], _ => rfl)
theorem e__law_is_as (S : Sps) : rDef mo S n__law_is_as (defScope (top 54)) (defBody (top 54)) = r__law_is_as S := by kernel_rfl
theorem l__law_is_as : ∀ ds M P ex, spIsAs ds M P ex → ds.length = 3 := by
  rintro _ _ _ _ ⟨_, _, _, _, _, _, _, _, _, _, _, rfl, _⟩
  rfl
theorem d__law_is_as {P : Program} {w : World} {K : PySem.W.Frag} {mg : Str → Option Value} {base : Heap} {S : Sps} {k : Nat} (c : SaysF fn mo.ok K) (L : MoOk' mo K mg) (hS : SOk P w K mg base S k) (h0 : (S (.c "Stairs")).isSome) (h1 : S (.p "Stairs" "pieces") = some spPieces) (h2 : S (.m "Stairs" "__getitem__") = some spGetItem) (h3 : S (.f "_law_are_pieces") = some spLawArePieces) (h4 : S (.f "_law_numbers") = some spNumbers) (h5 : S (.f "_law_canon") = some spLawCanon) :
    Fs.FnR P w K mg base (L2.CX P w) (k + 3) (Pl.at K (.f "_law_is_as")) (toSp K spIsAs) := by
  obtain ⟨ok, fd, F⟩ := c.def_ 33 (d := fd33) rfl
  have O := def_ok (ps := ["stairs_here", "days", "dues"]) (sp := spIsAs) L hS F ⟨rfl, rfl, rfl, by decide +kernel, rfl, by decide +kernel, by decide +kernel⟩ l__law_is_as fun ds M P ex h => (e__law_is_as S) ▸ c_is_as S h0 h1 h2 h3 h4 h5 ds M P ex h
  exact fnr_all O (F.bindsN fun _ _ _ _ _ _ us hl => match us, hl with | [_, _, _], _ => rfl)
theorem e_6_law_ten (S : Sps) : rDef mo S n_6_law_ten (defScope (top 55)) (defBody (top 55)) = r_6_law_ten S := by kernel_rfl
theorem l_6_law_ten : ∀ ds M P ex, spTen ds M P ex → ds.length = 1 := by
  rintro _ _ _ _ ⟨_, rfl, _⟩
  rfl
theorem d_6_law_ten {P : Program} {w : World} {K : PySem.W.Frag} {mg : Str → Option Value} {base : Heap} {S : Sps} {k : Nat} (c : SaysF fn mo.ok K) (L : MoOk' mo K mg) (hS : SOk P w K mg base S k)  :
    Fs.FnR P w K mg base (L2.CX P w) (k + 3) (Pl.at K (.f "_law_ten")) (toSp K spTen) := by
  obtain ⟨ok, fd, F⟩ := c.def_ 34 (d := fd34) rfl
  have O := def_ok (ps := ["many"]) (sp := spTen) L hS F ⟨rfl, rfl, rfl, by decide +kernel, rfl, by decide +kernel, by decide +kernel⟩ l_6_law_ten fun ds M P ex h => (e_6_law_ten S) ▸ c_ten S  ds M P ex h
  exact fnr_all O (F.bindsN fun _ _ _ _ _ _ us hl => match us, hl with | [_], _ => rfl)
theorem e_6_law_right (S : Sps) : rDef mo S n_6_law_right (defScope (top 56)) (defBody (top 56)) = r_6_law_right S := by kernel_rfl
theorem l_6_law_right : ∀ ds M P ex, spRight ds M P ex → ds.length = 1 := by
  rintro _ _ _ _ ⟨_, _, rfl, _⟩
  rfl
theorem d_6_law_right {P : Program} {w : World} {K : PySem.W.Frag} {mg : Str → Option Value} {base : Heap} {S : Sps} {k : Nat} (c : SaysF fn mo.ok K) (L : MoOk' mo K mg) (hS : SOk P w K mg base S k) (h0 : (S (.c "Stairs")).isSome) (h1 : S (.f "_law_corners") = some spCorners) (h2 : S (.f "_law_take") = some spTake) (h3 : S (.m "Stairs" "moved") = some spStMoved) (h4 : S (.m "Stairs" "held") = some spStHeld) (h5 : S (.f "_law_is_as") = some spIsAs) (h6 : S (.f "_law_at") = some spAt) (h7 : S (.m "Stairs" "__eq__") = some spEq) (h8 : S (.f "_law_pieces") = some spLawPieces) (h9 : S (.f "_law_amount") = some spAmount) (hs : S (.f "_law_stairs") = some spLawStairs) (ht : S (.f "_law_ten") = some spTen) :
    Fs.FnR P w K mg base (L2.CX P w) (k + 3) (Pl.at K (.f "_law_right")) (toSp K spRight) := by
  obtain ⟨ok, fd, F⟩ := c.def_ 35 (d := fd35) rfl
  have O := def_ok (ps := ["pot"]) (sp := spRight) L hS F ⟨rfl, rfl, rfl, by decide +kernel, rfl, by decide +kernel, by decide +kernel⟩ l_6_law_right fun ds M P ex h => (e_6_law_right S) ▸ c_right6 S h0 h1 h2 h3 h4 h5 h6 h7 h8 h9 hs ht ds M P ex h
  exact fnr_all O (F.bindsN fun _ _ _ _ _ _ us hl => match us, hl with | [_], _ => rfl)
theorem e_6law (S : Sps) : rDef mo S n_6law (defScope (top 57)) (defBody (top 57)) = r_6law S := by kernel_rfl
theorem l_6law : ∀ ds M P ex, spLaw ds M P ex → ds.length = 1 := by
  rintro _ _ _ _ ⟨_, rfl, _⟩
  rfl
theorem d_6law {P : Program} {w : World} {K : PySem.W.Frag} {mg : Str → Option Value} {base : Heap} {S : Sps} {k : Nat} (c : SaysF fn mo.ok K) (L : MoOk' mo K mg) (hS : SOk P w K mg base S k) (h1 : S (.f "_law_cells") = some spCells) (h2 : S (.f "_law_draws") = some spDraws) (h3 : S (.f "_law_right") = some spRight) :
    Fs.FnR P w K mg base (L2.CX P w) (k + 3) (Pl.at K (.f "law")) (toSp K spLaw) := by
  obtain ⟨ok, fd, F⟩ := c.def_ 36 (d := fd36) rfl
  have O := def_ok (ps := ["script"]) (sp := spLaw) L hS F ⟨rfl, rfl, rfl, by decide +kernel, rfl, by decide +kernel, by decide +kernel⟩ l_6law fun ds M P ex h => (e_6law S) ▸ c_law6 S h1 h2 h3 ds M P ex h
  exact fnr_all O (F.bindsN fun _ _ _ _ _ _ us hl => match us, hl with | [_], _ => rfl)
def S0 : Sps := fun _ => none
def S1 : Sps := upS S0 (.c "Stairs") spPieces
def S2 : Sps := upS S1 (.f "is_ahead") spIsAhead
def S3 : Sps := upS S2 (.f "number_in") spNumberIn
def S4 : Sps := upS S3 (.f "spot_from") spSpotFrom
def S5 : Sps := upS S4 (.f "leaving") spLeaving
def S6 : Sps := upS S5 (.f "told") spTold
def S7 : Sps := upS S6 (.f "spot_of") spSpotOf
def S8 : Sps := upS S7 (.f "number_on") spNumberOn
def S9 : Sps := upS S8 (.f "rate_on") spRateOn
def S10 : Sps := upS S9 (.f "is_integer") (dfl 1 [.non, .non] spIsInteger)
def S11 : Sps := upS S10 (.f "is_tuple") (dfl 2 [.non] spIsTuple)
def S12 : Sps := upS S11 (.f "are_pieces") spArePieces
def S13 : Sps := upS S12 (.f "check_day") spCheckDay
def S14 : Sps := upS S13 (.f "moved_pieces") spMoved
def S15 : Sps := upS S14 (.f "held_pieces") spHeld
def S16 : Sps := upS S15 (.p "Stairs" "pieces") spPieces
def S17 : Sps := upS S16 (.m "Stairs" "__init__") spInit
def S18 : Sps := upS S17 (.f "Stairs") spStairs
def S19 : Sps := upS S18 (.m "Stairs" "__getitem__") spGetItem
def S20 : Sps := upS S19 (.m "Stairs" "__eq__") spEq
def S21 : Sps := upS S20 (.m "Stairs" "moved") spStMoved
def S22 : Sps := upS S21 (.m "Stairs" "held") spStHeld
def S23 : Sps := upS S22 (.f "_law_take") spTake
def S24 : Sps := upS S23 (.f "_law_of") spOf
def S25 : Sps := upS S24 (.f "_law_draws") spDraws
def S26 : Sps := upS S25 (.f "_law_cells") spCells
def S27 : Sps := upS S26 (.f "_law_at") spAt
def S28 : Sps := upS S27 (.f "_law_pieces") spLawPieces
def S29 : Sps := upS S28 (.f "_law_stairs") spLawStairs
def S30 : Sps := upS S29 (.f "_law_amount") spAmount
def S31 : Sps := upS S30 (.f "_law_first_off") spFirstOff
def S32 : Sps := upS S31 (.f "_law_canon") spLawCanon
def S33 : Sps := upS S32 (.f "_law_corners") spCorners
def S34 : Sps := upS S33 (.f "_law_are_pieces") spLawArePieces
def S35 : Sps := upS S34 (.f "_law_numbers") spNumbers
def S36 : Sps := upS S35 (.f "_law_is_as") spIsAs
def S37 : Sps := upS S36 (.f "_law_ten") spTen
def S38 : Sps := upS S37 (.f "_law_right") spRight
theorem all_ok {P : Program} {w : World} {K : PySem.W.Frag} {mg : Str → Option Value} {base : Heap} (c : SaysF fn mo.ok K) (L : MoOk' mo K mg) : SOk P w K mg base S38 109 := by
  have ok := c.ex
  have s0 : SOk P w K mg base S0 0 := SOk.nil
  have C_Stairs := Mo.cls_ok ok (p := ("Stairs", [("own_pieces", 0)])) (by decide +kernel) sl_stairs
  have s1 : SOk P w K mg base S1 0 := s0.addC C_Stairs.1
  have f_is_ahead := d_is_ahead c L s1 
  have s2 : SOk P w K mg base S2 3 := s1.addF (by omega) (L.gl _ (by kernel_rfl)) (He.ba (c.def_ 0 (d := fd0) rfl).1).1 (clb_fn f_is_ahead)
  have f_number_in := d_number_in c L s2 
  have s3 : SOk P w K mg base S3 6 := s2.addF (by omega) (L.gl _ (by kernel_rfl)) (He.ba (c.def_ 1 (d := fd1) rfl).1).1 (clb_fn f_number_in)
  have f_spot_from := d_spot_from c L s3 
  have s4 : SOk P w K mg base S4 9 := s3.addF (by omega) (L.gl _ (by kernel_rfl)) (He.ba (c.def_ 2 (d := fd2) rfl).1).1 (clb_fn f_spot_from)
  have f_leaving := d_leaving c L s4 (by kernel_rfl) (by kernel_rfl)
  have s5 : SOk P w K mg base S5 12 := s4.addF (by omega) (L.gl _ (by kernel_rfl)) (He.ba (c.def_ 3 (d := fd3) rfl).1).1 (clb_fn f_leaving)
  have f_told := d_told c L s5 (by kernel_rfl) (by kernel_rfl) (by kernel_rfl)
  have s6 : SOk P w K mg base S6 15 := s5.addF (by omega) (L.gl _ (by kernel_rfl)) (He.ba (c.def_ 4 (d := fd4) rfl).1).1 (clb_fn f_told)
  have f_spot_of := d_spot_of c L s6 
  have s7 : SOk P w K mg base S7 18 := s6.addF (by omega) (L.gl _ (by kernel_rfl)) (He.ba (c.def_ 5 (d := fd5) rfl).1).1 (clb_fn f_spot_of)
  have f_number_on := d_number_on c L s7 (by kernel_rfl)
  have s8 : SOk P w K mg base S8 21 := s7.addF (by omega) (L.gl _ (by kernel_rfl)) (He.ba (c.def_ 6 (d := fd6) rfl).1).1 (clb_fn f_number_on)
  have f_rate_on := d_rate_on c L s8 (by kernel_rfl)
  have s9 : SOk P w K mg base S9 24 := s8.addF (by omega) (L.gl _ (by kernel_rfl)) (He.ba (c.def_ 7 (d := fd7) rfl).1).1 (clb_fn f_rate_on)
  have f_is_integer := d_is_integer c L s9 
  have s10 : SOk P w K mg base S10 27 := s9.addF (by omega) (L.gl _ (by kernel_rfl)) (He.ba (c.def_ 8 (d := fd8) rfl).1).1 (clb_fn f_is_integer)
  have f_is_tuple := d_is_tuple c L s10 
  have s11 : SOk P w K mg base S11 30 := s10.addF (by omega) (L.gl _ (by kernel_rfl)) (He.ba (c.def_ 9 (d := fd9) rfl).1).1 (clb_fn f_is_tuple)
  have f_are_pieces := d_are_pieces c L s11 (by kernel_rfl) (by kernel_rfl)
  have s12 : SOk P w K mg base S12 33 := s11.addF (by omega) (L.gl _ (by kernel_rfl)) (He.ba (c.def_ 10 (d := fd10) rfl).1).1 (clb_fn f_are_pieces)
  have f_check_day := d_check_day c L s12 (by kernel_rfl)
  have s13 : SOk P w K mg base S13 36 := s12.addF (by omega) (L.gl _ (by kernel_rfl)) (He.ba (c.def_ 11 (d := fd11) rfl).1).1 (clb_fn f_check_day)
  have f_moved := d_moved c L s13 (by kernel_rfl) (by kernel_rfl) (by kernel_rfl)
  have s14 : SOk P w K mg base S14 39 := s13.addF (by omega) (L.gl _ (by kernel_rfl)) (He.ba (c.def_ 12 (d := fd12) rfl).1).1 (clb_fn f_moved)
  have f_held := d_held c L s14 (by kernel_rfl)
  have s15 : SOk P w K mg base S15 42 := s14.addF (by omega) (L.gl _ (by kernel_rfl)) (He.ba (c.def_ 13 (d := fd13) rfl).1).1 (clb_fn f_held)
  have f_Stairs_pieces := d_Stairs_pieces c L s15 (by kernel_rfl)
  have s16 : SOk P w K mg base S16 45 := s15.addP (by omega) C_Stairs.1 (Mo.prp_ok ok (p := ("Stairs", "pieces")) (by decide +kernel)) f_Stairs_pieces
  have f_Stairs___init__ := d_Stairs___init__ c L s16 (by kernel_rfl) (by kernel_rfl) (by kernel_rfl)
  have s17 : SOk P w K mg base S17 48 := s16.addM (by omega) C_Stairs.1 (DefG.fnIn (c.def_ 15 (d := fd15) rfl).1) (Mo.meth_ok ok (p := ("Stairs", "__init__")) (by decide +kernel)) f_Stairs___init__
  have s18 : SOk P w K mg base S18 49 := s17.addF (by omega) (L.gl _ (by kernel_rfl)) C_Stairs.2.kp (Clb.imp (clb_mkD C_Stairs.2 f_Stairs___init__) mk_stairs)
  have f_Stairs___getitem__ := d_Stairs___getitem__ c L s18 (by kernel_rfl) (by kernel_rfl) (by kernel_rfl)
  have s19 : SOk P w K mg base S19 52 := s18.addM (by omega) C_Stairs.1 (DefG.fnIn (c.def_ 16 (d := fd16) rfl).1) (Mo.meth_ok ok (p := ("Stairs", "__getitem__")) (by decide +kernel)) f_Stairs___getitem__
  have f_Stairs___eq__ := d_Stairs___eq__ c L s19 (by kernel_rfl) (by kernel_rfl)
  have s20 : SOk P w K mg base S20 55 := s19.addM (by omega) C_Stairs.1 (DefG.fnIn (c.def_ 17 (d := fd17) rfl).1) (Mo.meth_ok ok (p := ("Stairs", "__eq__")) (by decide +kernel)) f_Stairs___eq__
  have f_Stairs_moved := d_Stairs_moved c L s20 (by kernel_rfl) (by kernel_rfl) (by kernel_rfl) (by kernel_rfl)
  have s21 : SOk P w K mg base S21 58 := s20.addM (by omega) C_Stairs.1 (DefG.fnIn (c.def_ 18 (d := fd18) rfl).1) (Mo.meth_ok ok (p := ("Stairs", "moved")) (by decide +kernel)) f_Stairs_moved
  have f_Stairs_held := d_Stairs_held c L s21 (by kernel_rfl) (by kernel_rfl) (by kernel_rfl) (by kernel_rfl)
  have s22 : SOk P w K mg base S22 61 := s21.addM (by omega) C_Stairs.1 (DefG.fnIn (c.def_ 19 (d := fd19) rfl).1) (Mo.meth_ok ok (p := ("Stairs", "held")) (by decide +kernel)) f_Stairs_held
  have f__law_take := d__law_take c L s22 
  have s23 : SOk P w K mg base S23 64 := s22.addF (by omega) (L.gl _ (by kernel_rfl)) (He.ba (c.def_ 20 (d := fd20) rfl).1).1 (clb_fn f__law_take)
  have f__law_of := d__law_of c L s23 (by kernel_rfl)
  have s24 : SOk P w K mg base S24 67 := s23.addF (by omega) (L.gl _ (by kernel_rfl)) (He.ba (c.def_ 21 (d := fd21) rfl).1).1 (clb_fn f__law_of)
  have f__law_draws := d__law_draws c L s24 
  have s25 : SOk P w K mg base S25 70 := s24.addF (by omega) (L.gl _ (by kernel_rfl)) (He.ba (c.def_ 22 (d := fd22) rfl).1).1 (clb_fn f__law_draws)
  have f__law_cells := d__law_cells c L s25 
  have s26 : SOk P w K mg base S26 73 := s25.addF (by omega) (L.gl _ (by kernel_rfl)) (He.ba (c.def_ 23 (d := fd23) rfl).1).1 (clb_fn f__law_cells)
  have f__law_at := d__law_at c L s26 
  have s27 : SOk P w K mg base S27 76 := s26.addF (by omega) (L.gl _ (by kernel_rfl)) (He.ba (c.def_ 24 (d := fd24) rfl).1).1 (clb_fn f__law_at)
  have f__law_pieces := d__law_pieces c L s27 (by kernel_rfl) (by kernel_rfl) (by kernel_rfl)
  have s28 : SOk P w K mg base S28 79 := s27.addF (by omega) (L.gl _ (by kernel_rfl)) (He.ba (c.def_ 25 (d := fd25) rfl).1).1 (clb_fn f__law_pieces)
  have f__law_stairs := d__law_stairs c L s28 (by kernel_rfl)
  have s29 : SOk P w K mg base S29 82 := s28.addF (by omega) (L.gl _ (by kernel_rfl)) (He.ba (c.def_ 26 (d := fd26) rfl).1).1 (clb_fn f__law_stairs)
  have f__law_amount := d__law_amount c L s29 (by kernel_rfl)
  have s30 : SOk P w K mg base S30 85 := s29.addF (by omega) (L.gl _ (by kernel_rfl)) (He.ba (c.def_ 27 (d := fd27) rfl).1).1 (clb_fn f__law_amount)
  have f__law_first_off := d__law_first_off c L s30 (by kernel_rfl)
  have s31 : SOk P w K mg base S31 88 := s30.addF (by omega) (L.gl _ (by kernel_rfl)) (He.ba (c.def_ 28 (d := fd28) rfl).1).1 (clb_fn f__law_first_off)
  have f__law_canon := d__law_canon c L s31 (by kernel_rfl) (by kernel_rfl)
  have s32 : SOk P w K mg base S32 91 := s31.addF (by omega) (L.gl _ (by kernel_rfl)) (He.ba (c.def_ 29 (d := fd29) rfl).1).1 (clb_fn f__law_canon)
  have f__law_corners := d__law_corners c L s32 
  have s33 : SOk P w K mg base S33 94 := s32.addF (by omega) (L.gl _ (by kernel_rfl)) (He.ba (c.def_ 30 (d := fd30) rfl).1).1 (clb_fn f__law_corners)
  have f__law_are_pieces := d__law_are_pieces c L s33 
  have s34 : SOk P w K mg base S34 97 := s33.addF (by omega) (L.gl _ (by kernel_rfl)) (He.ba (c.def_ 31 (d := fd31) rfl).1).1 (clb_fn f__law_are_pieces)
  have f__law_numbers := d__law_numbers c L s34 
  have s35 : SOk P w K mg base S35 100 := s34.addF (by omega) (L.gl _ (by kernel_rfl)) (He.ba (c.def_ 32 (d := fd32) rfl).1).1 (clb_fn f__law_numbers)
  have f__law_is_as := d__law_is_as c L s35 (by kernel_rfl) (by kernel_rfl) (by kernel_rfl) (by kernel_rfl) (by kernel_rfl) (by kernel_rfl)
  have s36 : SOk P w K mg base S36 103 := s35.addF (by omega) (L.gl _ (by kernel_rfl)) (He.ba (c.def_ 33 (d := fd33) rfl).1).1 (clb_fn f__law_is_as)
  have f_6_law_ten := d_6_law_ten c L s36 
  have s37 : SOk P w K mg base S37 106 := s36.addF (by omega) (L.gl _ (by kernel_rfl)) (He.ba (c.def_ 34 (d := fd34) rfl).1).1 (clb_fn f_6_law_ten)
  have f_6_law_right := d_6_law_right c L s37 (by kernel_rfl) (by kernel_rfl) (by kernel_rfl) (by kernel_rfl) (by kernel_rfl) (by kernel_rfl) (by kernel_rfl) (by kernel_rfl) (by kernel_rfl) (by kernel_rfl) (by kernel_rfl) (by kernel_rfl)
  have s38 : SOk P w K mg base S38 109 := s37.addF (by omega) (L.gl _ (by kernel_rfl)) (He.ba (c.def_ 35 (d := fd35) rfl).1).1 (clb_fn f_6_law_right)
  exact s38
theorem facts {P : Program} {w : World} {K : PySem.W.Frag} {h : Heap} {mg : Str → Option Value} {f : Addr} (X : K.In h) (G : h.Ns mainGlobals mg) (hfa : mg ("law" : Str) = some (.ref f)) (c : SaysF fn mo.ok K) :
    ∃ fd : FuncData, (∀ (s : Shared) (v : Value), BindsTo s fd ⟨[v], []⟩ [("script", v)]) ∧ ∀ base : Heap, K.In base → base.Ns mainGlobals mg → Fs.FnOk P w K mg base (L2.CX P w) 112 f fd ["script"] (toSp K spLaw) := by
  have L := Mo.facts X G c.ex
  obtain ⟨ok, fd, F⟩ := c.def_ 36 (d := fd36) rfl
  have e := hfa.symm.trans (L.gl _ (by kernel_rfl))
  cases e
  have b := FunD.bindsA (ps := ["script"]) F fun _ _ _ _ _ _ us hl => match us, hl with | [_], _ => rfl
  exact ⟨fd, fun s v => b s [v] rfl, fun base _ _ => def_ok (ps := ["script"]) (sp := spLaw) L (all_ok c L) F ⟨rfl, rfl, rfl, by decide +kernel, rfl, by decide +kernel, by decide +kernel⟩ l_6law fun ds M P ex h => (e_6law S38) ▸ c_law6 S38 (by kernel_rfl) (by kernel_rfl) (by kernel_rfl) ds M P ex h⟩

end FsH
set_option maxHeartbeats 0
namespace FsH
open PySem PySem.Spec PyProof.Rows L2 Fs
set_option maxHeartbeats 0 in
theorem run (w : World) : HandSHeadRun.RunEq R (PySem.W.view R.prog [57]) hk ob 20000 loose w := by
  intro os
  kernel_rfl
end FsH
open PySem PySem.W PySem.Calls PyProof.Rows
theorem PySem.Challenge.cw_finestairs_k06_whole_moved_and_held_holds : PySem.Challenge.rw_finestairs_k06_whole_moved_and_held.Holds := by
  w_on; o_law
  refine HandSHeadRun.head_any (r := OpenLaw.row PySem.Challenge.rw_finestairs_k06_whole_moved_and_held) (q := view (OpenLaw.row PySem.Challenge.rw_finestairs_k06_whole_moved_and_held).prog [57]) (H := FsH.hk) (ob := FsH.ob) (M := 20000) (loose := FsH.loose) (d := HandSHeadRun.topDef (OpenLaw.row PySem.Challenge.rw_finestairs_k06_whole_moved_and_held).prog 57) (kwd := []) FsH.ob_eq
    (by kernel_rfl) (fun s => by kernel_rfl) FsH.run (by kernel_rfl) (by kernel_rfl) (by kernel_rfl) (by rfl) (by first | assumption | decide +kernel) (by decide +kernel) ⟨rfl, rfl, rfl, rfl, rfl, by decide +kernel⟩ ?hw ?hc
  case hw => w_witness2
  case hc =>
    refine Fs.walk_ofW (CX := L2.CX (PySem.Challenge.rw_finestairs_k06_whole_moved_and_held).prog) (lw := PySem.Challenge.rw_finestairs_k06_whole_moved_and_held) (most := 63) (k := 112) (x := "script") rfl (by decide) (by kernel_rfl) ⟨⟨rfl, by decide, by decide⟩, rfl⟩ ?F ?X
    case F =>
      intro w mg fa h Y G hmg0
      obtain ⟨K, KX, c⟩ := Y
      have hmg : mg ("law" : PySem.Str) = some (.ref fa) := by
        have e : (HandSHeadRun.topDef (OpenLaw.row PySem.Challenge.rw_finestairs_k06_whole_moved_and_held).prog 57).name = ("law" : PySem.Str) := by kernel_rfl
        rw [← e]
        exact hmg0
      obtain ⟨fd, hb, hF⟩ := FsH.facts (P := (PySem.Challenge.rw_finestairs_k06_whole_moved_and_held).prog) (w := w) KX G hmg c
      exact ⟨K, fd, Fs.toSp K Fs.spLaw, KX, hb, fun H a ns hl _ hS => Fs.law_says H a ns hS, hF⟩
    case X =>
      rintro w H s e s' ⟨_, _, _, _, _, _, _, _, _, _, _, _, h⟩
      exact h
