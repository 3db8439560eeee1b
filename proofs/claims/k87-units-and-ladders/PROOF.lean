import PyProof.Rows.All
import HandS.Base
import HandS.Call
import HandS.Comp
import HandS.Dict
import HandS.Ends
import HandS.Exc
import HandS.ExcField
import HandS.ExcInit
import HandS.ExcOwn
import HandS.Gcd
import HandS.List
import HandS.RaiseMore
import HandS.Set
import HandS.SetBool
import HandS.SortInts
import HandS.Strs
import HandS.Text
import HandS.TryMany
import HandS.TryOnly
import HandS.Words
import HandS.WordsDict
import HandS.WordsExc
import HandS.WordsList
import OpenK.AllK
import PyProof.EqAt
import PyProof.EqKinds
import PyProof.ReprLen
import PyProof.ReprRoads
import PyProof.TupleCall
import PySem.Challenge.RW_leastnest_k87_units_and_ladders_whole
import Wide.All
import Wide.FinOn
section
set_option Elab.async false
set_option linter.all false
set_option maxRecDepth 100000
set_option maxHeartbeats 2000000
/-! Calls whose surroundings have no repr under way (guards): promise, body, call, end. -/
namespace DL
open PySem PySem.Spec PyProof.Rows L2

/-- the promise of a def, called where no repr is under way -/
structure FnG (P : Program) (w : World) (K : PySem.W.Frag) (mg : Str → Option Value) (base : Heap) (k : Nat) (f : Addr) (fd : FuncData) (ps : List Str) (sp : Sp) : Prop where
  len : ∀ vs H Q E, sp vs H Q E → vs.length = ps.length
  run : ∀ (A : Around), A.guards = some [] → ∀ (outer : List Env) (s : Shared) (H : Hp) (args : Args) (us : List Value) (vs : List V) (Q : VK) (E : XK),
    Room k A → Env0 P w K mg base A outer s H → BindsTo s fd args (ps.zip us) → Vals vs us → sp vs H Q E →
    codeAny (model P w) A (.call (.ref f) args) (CR (L2.CX P w) outer P w H s Q E) s
theorem FnG.mono {P : Program} {w : World} {K : PySem.W.Frag} {mg : Str → Option Value} {base : Heap} {i j : Nat} {f : Addr} {fd : FuncData} {ps : List Str} {sp : Sp}
    (F : FnG P w K mg base i f fd ps sp) (h : i ≤ j) : FnG P w K mg base j f fd ps sp :=
  ⟨F.len, fun A g o s H ar us vs Q E r => F.run A g o s H ar us vs Q E (r.mono h)⟩

section
variable {P : Program} {w : World} {K : PySem.W.Frag} {mg : Str → Option Value} {base : Heap}
/-- a def by its body -/
theorem fnG_of {x qual : Str} {st : Stmt} {f : Addr} {fd : FuncData} {N ps : List Str} {k : Nat} {sp : Sp} (F : Fun K x qual st f fd) (S : FnScope N ps (defScope st))
    (len : ∀ vs H Q E, sp vs H Q E → vs.length = ps.length)
    (body : ∀ (cdv : Value) (A : Around), A.guards = some [] → ∀ (outer : List Env) (s : Shared) (H : Hp) (vs : List V) (Q : VK) (E : XK),
      Room k (A.deeper (envOfC qual (defScope st) s.heap.objs.size f cdv)) → sp vs H Q E →
      ∃ t, PSs (cxOf (L2.CX P w) P w K mg base N qual (defScope st) f cdv A outer s H E) (defBody st) t ∧ t { nx := fun _ H' => Q .non H', rt := Q } (start N vs) H) :
    FnG P w K mg base (k + 1) f fd ps sp := by
  obtain ⟨oc, od, kV, doc, pm, an, cdv, ct, osl, rfl, lk, hcd⟩ := F.ex
  refine ⟨len, fun A hg outer s H args us vs Q E hr e0 hb r hsp => ?_⟩
  have hl := len _ _ _ _ hsp
  have KX : K.In s.heap := e0.mod.kin.keeps (fun a o z => (e0.bs a o z).1)
  have lim : s.heap.NoLimit := e0.mod.nolimit.keeps (fun a o z => (e0.bs a o z).1)
  have known : ∀ y ∈ ps.zip us, (defScope st).names.lookup y.1 = some .local ∨
      ((defScope st).names.lookup y.1 = some .cell ∧ ((cellsFrom (s.heap.objs.size + 1) (defScope st).names []).lookup y.1).isSome = true) := by
    rintro ⟨n, v⟩ hy
    have := S.par n (List.of_mem_zip hy).1
    rcases this with q | q
    · left; exact q
    · right; exact ⟨q, PySem.W.cellsFrom_some _ _ _ (.inl q)⟩
  apply codeAny_call_function hr.depth (KX _ _ lk) rfl S.co S.gen rfl (PySem.W.codeRec_of KX hcd)
  apply hb
  refine wpAny_newFunctionEnv_cells S.kind known (fun env he s1 ic => ?_)
  subst he
  refine ⟨lim.keeps ic.toInCall.keep, ?_⟩
  apply codeAny_func
  obtain ⟨t, ht, q0⟩ := body cdv A hg outer s H vs Q E (hr.deeper _) hsp
  have I := inv_start (CX := L2.CX P w) (E := E) S hr.hd e0 hl r ic
  refine wpAny_mono (ht.run [] s1 (start N vs) H _ I q0) ?_ (fun e s' z => z)
  intro fl s' hs
  cases fl with
  | ret u =>
    rcases hs with ⟨v, σ1, H1, J, rv, q1⟩
    exact ⟨v, H1, J.os, J.bare, J.base, J.hok, rv, q1⟩
  | next =>
    rcases hs with ⟨σ1, H1, J, q1⟩
    exact ⟨.non, H1, J.os, J.bare, J.base, J.hok, rfl, q1⟩
  | brk =>
    rcases hs with ⟨_, _, _, z⟩
    exact z.elim
  | cont =>
    rcases hs with ⟨_, _, _, z⟩
    exact z.elim
end

section
variable {X : Cx} {k : Nat} {f : Addr} {fd : FuncData} {ps : List Str} {sp : Sp} {dvs : List V} {ds : List Value}
/-- the callee runs; what it raises is wished for at the caller's slots -/
theorem runG {pins : List (Addr × Obj)} {σ : L2.St} {H : Hp} {s : Shared} {Q : VK} {us : List Value} {vs : List V} {E : XK} (F : FnG X.prog X.w X.K X.mg X.base k f fd ps sp) (hg : X.A.guards = some []) (hr : Room k X.A)
    (hb : Binds X.K fd ps ds) (hd : Vals dvs ds) (hx : ∀ e s', CX X.prog X.w X.stack H s E e s' → X.xe e s')
    (I : Inv X pins σ H s) (r : Vals vs us) (h : sp (vs ++ dvs) H Q E) : wpAny (model X.prog X.w) X.A (call (.ref f) us) (EP X pins σ Q) X.xe s := by
  have rr := r.append hd
  have hl : (us ++ ds).length = ps.length := rr.length ▸ F.len _ _ _ _ h
  apply wpAny_call
  refine codeAny_mono (F.run X.A hg X.stack s H ⟨us, []⟩ _ _ Q E hr I.env0 (hb s us I.kIn hl) rr h) ?_
  intro res s' z
  cases res with
  | error e => exact hx e s' z
  | ok fl => cases fl <;> first | exact I.after z | exact z.elim
end
end DL

end

section
set_option Elab.async false
set_option linter.all false
set_option maxRecDepth 100000
set_option maxHeartbeats 2000000
/-! Plain data D for what stands at a value; a frozen part F of the heap; slots that own a list or a dict; judgements over data. -/
namespace DL
open PySem PySem.Spec PyProof.Rows L2

/-- plain data -/
inductive D where
  | non
  | bl (b : Bool)
  | int (i : Int)
  | str (x : Str)
  | lst (xs : List D)
  /-- a list that is read only: the script, a list of the module -/
  | scr (xs : List D)
  | tup (xs : List D)
  | dk (ks : List Key) (ds : List D)
  | opq (v : V)
  /-- the exception at a that a suite holds, its own dict at dd -/
  | exc (a dd : Addr) (ns : List Str) (ds : List D)
instance : Inhabited D := ⟨.non⟩

mutual
def Rep (K : PySem.W.Frag) (F : Hp) : D → V → Prop
  | .non, v => v = .non
  | .bl b, v => v = .bl b
  | .int i, v => v = .int i
  | .str x, v => v = .str x
  | .lst ds, v => ∃ a xs, v = .ref a ∧ F a = some (.lst xs) ∧ Reps K F ds xs
  | .scr ds, v => ∃ a xs, v = .ref a ∧ SqL K F a xs ∧ Reps K F ds xs
  | .tup ds, v => ∃ a xs, v = .ref a ∧ SqT K F a xs ∧ Reps K F ds xs
  | .dk ks ds, v => ∃ a xs, v = .ref a ∧ F a = some (.dK (ks.zip xs)) ∧ ks.length = xs.length ∧ Reps K F ds xs
  | .opq u, v => v = u
  | .exc a dd ns ds, v => v = .ref a ∧ ∃ xs, F dd = some (.xd (ns.zip xs)) ∧ ns.length = xs.length ∧ Reps K F ds xs
def Reps (K : PySem.W.Frag) (F : Hp) : List D → List V → Prop
  | [], xs => xs = []
  | d :: ds, xs => ∃ x r, xs = x :: r ∧ Rep K F d x ∧ Reps K F ds r
end
def RepK (K : PySem.W.Frag) (F : Hp) (kvs : List (Key × D)) (vs : List (Key × V)) : Prop := vs.map (·.1) = kvs.map (·.1) ∧ Reps K F (kvs.map (·.2)) (vs.map (·.2))
def RepF (K : PySem.W.Frag) (F : Hp) (fs : List (Str × D)) (vs : List (Str × V)) : Prop := vs.map (·.1) = fs.map (·.1) ∧ Reps K F (fs.map (·.2)) (vs.map (·.2))

section
variable {K : PySem.W.Frag} {F F' F'' H H' H'' H0 F0 : Hp}
theorem sqL_mono {a : Addr} {xs : List V} (e : Same F F') (h : SqL K F a xs) : SqL K F' a xs := e.seq h
theorem sqT_mono {a : Addr} {xs : List V} (e : Same F F') (h : SqT K F a xs) : SqT K F' a xs := by
  rcases h with (h | ⟨o, h⟩) | h
  · exact .inl (.inl (e _ _ h))
  · exact .inl (.inr ⟨o, e _ _ h⟩)
  · exact .inr h
mutual
theorem Rep.mono (e : Same F F') : ∀ (d : D) (v : V), Rep K F d v → Rep K F' d v
  | .non, _, h => by unfold Rep at *; exact h
  | .bl _, _, h => by unfold Rep at *; exact h
  | .int _, _, h => by unfold Rep at *; exact h
  | .str _, _, h => by unfold Rep at *; exact h
  | .opq _, _, h => by unfold Rep at *; exact h
  | .exc a dd ns ds, _, h => by
    unfold Rep at *
    obtain ⟨r, xs, s, l, t⟩ := h
    exact ⟨r, xs, e _ _ s, l, Reps.mono e ds xs t⟩
  | .lst ds, _, h => by
    unfold Rep at *
    obtain ⟨a, xs, r, s, t⟩ := h
    exact ⟨a, xs, r, e _ _ s, Reps.mono e ds xs t⟩
  | .scr ds, _, h => by
    unfold Rep at *
    obtain ⟨a, xs, r, s, t⟩ := h
    exact ⟨a, xs, r, sqL_mono e s, Reps.mono e ds xs t⟩
  | .tup ds, _, h => by
    unfold Rep at *
    obtain ⟨a, xs, r, s, t⟩ := h
    exact ⟨a, xs, r, sqT_mono e s, Reps.mono e ds xs t⟩
  | .dk ks ds, _, h => by
    unfold Rep at *
    obtain ⟨a, xs, r, s, l, t⟩ := h
    exact ⟨a, xs, r, e _ _ s, l, Reps.mono e ds xs t⟩
theorem Reps.mono (e : Same F F') : ∀ (ds : List D) (vs : List V), Reps K F ds vs → Reps K F' ds vs
  | [], _, h => by unfold Reps at *; exact h
  | d :: ds, _, h => by
    unfold Reps at *
    obtain ⟨x, r, z, a, b⟩ := h
    exact ⟨x, r, z, Rep.mono e d x a, Reps.mono e ds r b⟩
end
theorem RepK.mono {kvs : List (Key × D)} {vs : List (Key × V)} (e : Same F F') (h : RepK K F kvs vs) : RepK K F' kvs vs := ⟨h.1, h.2.mono e⟩
theorem RepF.mono {kvs : List (Str × D)} {vs : List (Str × V)} (e : Same F F') (h : RepF K F kvs vs) : RepF K F' kvs vs := ⟨h.1, h.2.mono e⟩

theorem reps_nil {xs : List V} : Reps K F [] xs ↔ xs = [] := by unfold Reps; exact Iff.rfl
theorem reps_cons {d : D} {ds : List D} {xs : List V} : Reps K F (d :: ds) xs ↔ ∃ x r, xs = x :: r ∧ Rep K F d x ∧ Reps K F ds r := by
  constructor
  · intro h; unfold Reps at h; exact h
  · intro h; unfold Reps; exact h
theorem Reps.length : ∀ {ds : List D} {xs : List V}, Reps K F ds xs → xs.length = ds.length
  | [], _, h => by rw [reps_nil] at h; subst h; rfl
  | _ :: _, _, h => by
    rw [reps_cons] at h
    obtain ⟨x, r, rfl, _, t⟩ := h
    simp [t.length]
theorem Reps.get : ∀ {ds : List D} {xs : List V} {i : Nat} {d : D}, Reps K F ds xs → ds[i]? = some d → ∃ x, xs[i]? = some x ∧ Rep K F d x
  | [], _, _, _, _, e => by simp at e
  | _ :: _, _, 0, _, h, e => by
    rw [reps_cons] at h
    obtain ⟨x, r, rfl, a, _⟩ := h
    simp at e; subst e
    exact ⟨x, rfl, a⟩
  | _ :: _, _, i + 1, _, h, e => by
    rw [reps_cons] at h
    obtain ⟨x, r, rfl, _, t⟩ := h
    obtain ⟨y, h1, h2⟩ := t.get (i := i) (by simpa using e)
    exact ⟨y, by simpa using h1, h2⟩
theorem Reps.getV {ds : List D} {xs : List V} {i : Nat} {x : V} (h : Reps K F ds xs) (e : xs[i]? = some x) : ∃ d, ds[i]? = some d ∧ Rep K F d x := by
  have hl := h.length
  have hi : i < xs.length := (List.getElem?_eq_some_iff.mp e).1
  have hd : i < ds.length := by omega
  obtain ⟨y, h1, h2⟩ := h.get (List.getElem?_eq_getElem hd)
  rw [e] at h1; cases h1
  exact ⟨_, List.getElem?_eq_getElem hd, h2⟩
theorem Reps.app : ∀ {ds es : List D} {xs ys : List V}, Reps K F ds xs → Reps K F es ys → Reps K F (ds ++ es) (xs ++ ys)
  | [], _, _, _, h, q => by rw [reps_nil] at h; subst h; exact q
  | _ :: _, _, _, _, h, q => by
    rw [reps_cons] at h
    obtain ⟨x, r, rfl, a, t⟩ := h
    exact reps_cons.mpr ⟨x, _, rfl, a, t.app q⟩
theorem reps_one {d : D} {x : V} (h : Rep K F d x) : Reps K F [d] [x] := reps_cons.mpr ⟨x, [], rfl, h, reps_nil.mpr rfl⟩
theorem Reps.take : ∀ {ds : List D} {xs : List V} (n : Nat), Reps K F ds xs → Reps K F (ds.take n) (xs.take n)
  | _, _, 0, _ => by simp [reps_nil]
  | [], _, n + 1, h => by rw [reps_nil] at h; subst h; simp [reps_nil]
  | _ :: _, _, n + 1, h => by
    rw [reps_cons] at h
    obtain ⟨x, r, rfl, a, t⟩ := h
    simp only [List.take_succ_cons]
    exact reps_cons.mpr ⟨x, _, rfl, a, t.take n⟩
theorem Reps.drop : ∀ {ds : List D} {xs : List V} (n : Nat), Reps K F ds xs → Reps K F (ds.drop n) (xs.drop n)
  | _, _, 0, h => h
  | [], _, n + 1, h => by rw [reps_nil] at h; subst h; simp [reps_nil]
  | _ :: _, _, n + 1, h => by
    rw [reps_cons] at h
    obtain ⟨x, r, rfl, a, t⟩ := h
    exact t.drop n
theorem Reps.set : ∀ {ds : List D} {xs : List V} (i : Nat) {d : D} {x : V}, Reps K F ds xs → Rep K F d x → Reps K F (ds.set i d) (xs.set i x)
  | [], _, i, _, _, h, _ => by rw [reps_nil] at h; subst h; simp [reps_nil]
  | _ :: _, _, 0, _, y, h, q => by
    rw [reps_cons] at h
    obtain ⟨x, r, rfl, a, t⟩ := h
    exact reps_cons.mpr ⟨y, r, rfl, q, t⟩
  | _ :: _, _, i + 1, _, _, h, q => by
    rw [reps_cons] at h
    obtain ⟨x, r, rfl, a, t⟩ := h
    exact reps_cons.mpr ⟨x, _, rfl, a, t.set i q⟩
theorem Reps.ints : ∀ {ns : List Int} {xs : List V}, Reps K F (ns.map D.int) xs → xs = ns.map V.int
  | [], _, h => by rw [List.map_nil, reps_nil] at h; exact h
  | n :: ns, _, h => by
    rw [List.map_cons, reps_cons] at h
    obtain ⟨x, r, rfl, a, t⟩ := h
    unfold Rep at a
    rw [a, t.ints]; rfl
theorem reps_ints : ∀ (ns : List Int), Reps K F (ns.map D.int) (ns.map V.int)
  | [] => reps_nil.mpr rfl
  | n :: ns => reps_cons.mpr ⟨_, _, rfl, by unfold Rep; rfl, reps_ints ns⟩

/-! ### growing heaps -/
structure Grow (F H F' H' : Hp) : Prop where
  f : Same F F'
  s : Same F' H'
  h : Same H H'
  n : ∀ a, F a = none → H a ≠ none → F' a = none
theorem Grow.refl (e : Same F H) : Grow F H F H := ⟨Same.refl _, e, Same.refl _, fun _ h _ => h⟩
theorem Grow.trans (g : Grow F H F' H') (g' : Grow F' H' F'' H'') : Grow F H F'' H'' :=
  ⟨g.f.trans g'.f, g'.s, g.h.trans g'.h, fun a h1 h2 => g'.n a (g.n a h1 h2) (by
    cases e : H a with
    | none => exact absurd e h2
    | some o => rw [g.h a o e]; simp)⟩
theorem same_new {p : Addr} {o : HO} (h : H p = none) : Same H (upd H p o) := fun b u e => by
  rw [upd_ne (ne_of_none e h)]; exact e
/-- a new object, frozen -/
theorem Grow.newF {p : Addr} {o : HO} (e : Same F H) (h : H p = none) : Grow F H (upd F p o) (upd H p o) where
  f := same_new (e.free h)
  s := fun b u q => by
    by_cases hb : b = p
    · subst hb; rw [upd_same] at q ⊢; exact q
    · rw [upd_ne hb] at q ⊢; exact e b u q
  h := same_new h
  n := fun a h1 h2 => by
    by_cases hb : a = p
    · subst hb; exact absurd h h2
    · rw [upd_ne hb]; exact h1
/-- a new object, owned -/
theorem Grow.newO {p : Addr} {o : HO} (e : Same F H) (h : H p = none) : Grow F H F (upd H p o) where
  f := Same.refl _
  s := fun b u q => same_new h b u (e b u q)
  h := same_new h
  n := fun a h1 _ => h1
/-- an object that was not there at the start is frozen -/
theorem Grow.freeze {p : Addr} {o : HO} (g : Grow F0 H0 F H) (h0 : H0 p = none) (hf : F p = none) (hp : H p = some o) : Grow F0 H0 (upd F p o) H where
  f := fun b u q => by
    have z := g.f b u q
    rw [upd_ne (ne_of_none z hf)]; exact z
  s := fun b u q => by
    by_cases hb : b = p
    · subst hb; rw [upd_same] at q; rw [hp]; exact q
    · rw [upd_ne hb] at q; exact g.s b u q
  h := g.h
  n := fun a h1 h2 => by
    by_cases hb : a = p
    · subst hb; exact absurd h0 h2
    · rw [upd_ne hb]; exact g.n a h1 h2
/-- an object that was not there at the start is changed -/
theorem Grow.mut {p : Addr} {o : HO} (g : Grow F0 H0 F H) (h0 : H0 p = none) (hf : F p = none) : Grow F0 H0 F (upd H p o) where
  f := g.f
  s := fun b u q => by rw [upd_ne (ne_of_none q hf)]; exact g.s b u q
  h := fun b u q => by rw [upd_ne (ne_of_none q h0)]; exact g.h b u q
  n := g.n

/-! ### kinds of results -/
inductive Kd where
  /-- frozen data -/
  | v (d : D)
  /-- a new list, nobody else's; a new dict -/
  | nl (ds : List D) | nd (kvs : List (Key × D))
  /-- a list, a tuple, a dict to be looked at now -/
  | ll (ds : List D) | sl (ds : List D) | st (ds : List D) | dq (kvs : List (Key × D))
def RK (K : PySem.W.Frag) (B F H : Hp) (x : V) : Kd → Prop
  | .v d => Rep K F d x
  | .nl ds => ∃ a xs, x = .ref a ∧ B a = none ∧ F a = none ∧ H a = some (.lst xs) ∧ Reps K F ds xs
  | .nd kvs => ∃ a vs, x = .ref a ∧ B a = none ∧ F a = none ∧ H a = some (.dK vs) ∧ RepK K F kvs vs
  | .ll ds => ∃ a xs, x = .ref a ∧ H a = some (.lst xs) ∧ Reps K F ds xs
  | .sl ds => ∃ a xs, x = .ref a ∧ SqL K H a xs ∧ Reps K F ds xs
  | .st ds => ∃ a xs, x = .ref a ∧ SqT K H a xs ∧ Reps K F ds xs
  | .dq kvs => ∃ a vs, x = .ref a ∧ H a = some (.dK vs) ∧ RepK K F kvs vs
theorem RK.grow {B : Hp} {x : V} {kd : Kd} (h : RK K B F H x kd) (g : Grow F H F' H') : RK K B F' H' x kd := by
  cases kd with
  | v d => exact Rep.mono g.f d x h
  | nl ds =>
    obtain ⟨a, xs, e, b, f, l, r⟩ := h
    exact ⟨a, xs, e, b, g.n a f (by rw [l]; simp), g.h _ _ l, r.mono g.f⟩
  | nd kvs =>
    obtain ⟨a, xs, e, b, f, l, r⟩ := h
    exact ⟨a, xs, e, b, g.n a f (by rw [l]; simp), g.h _ _ l, r.mono g.f⟩
  | ll ds =>
    obtain ⟨a, xs, e, l, r⟩ := h
    exact ⟨a, xs, e, g.h _ _ l, r.mono g.f⟩
  | sl ds =>
    obtain ⟨a, xs, e, l, r⟩ := h
    exact ⟨a, xs, e, sqL_mono g.h l, r.mono g.f⟩
  | st ds =>
    obtain ⟨a, xs, e, l, r⟩ := h
    exact ⟨a, xs, e, sqT_mono g.h l, r.mono g.f⟩
  | dq kvs =>
    obtain ⟨a, xs, e, l, r⟩ := h
    exact ⟨a, xs, e, g.h _ _ l, r.mono g.f⟩
theorem RK.pre {B B' : Hp} {x : V} {kd : Kd} (h : RK K B F H x kd) (e : ∀ a, B a = none → B' a = none) : RK K B' F H x kd := by
  cases kd with
  | nl ds => obtain ⟨a, xs, r, b, q⟩ := h; exact ⟨a, xs, r, e a b, q⟩
  | nd ds => obtain ⟨a, xs, r, b, q⟩ := h; exact ⟨a, xs, r, e a b, q⟩
  | v d => exact h
  | sl d => exact h
  | ll d => exact h
  | st d => exact h
  | dq d => exact h
abbrev RI (K : PySem.W.Frag) (F H : Hp) (x : V) (kd : Kd) : Prop := RK K (fun _ => none) F H x kd
theorem RK.ri {B : Hp} {x : V} {kd : Kd} (h : RK K B F H x kd) : RI K F H x kd := h.pre fun _ _ => rfl

/-! ### slots -/
inductive Sl where
  | fz (d : D)
  | ol (ds : List D)
  | od (kvs : List (Key × D))
def Sl.own : Sl → Bool
  | .fz _ => false
  | _ => true
abbrev Rho := List (Option Sl)
def SlOk (K : PySem.W.Frag) (H0 F H : Hp) (o : Option (Option V)) : Sl → Prop
  | .fz d => ∃ v, o = some (some v) ∧ Rep K F d v
  | .ol ds => ∃ a xs, o = some (some (.ref a)) ∧ H0 a = none ∧ F a = none ∧ H a = some (.lst xs) ∧ Reps K F ds xs
  | .od kvs => ∃ a vs, o = some (some (.ref a)) ∧ H0 a = none ∧ F a = none ∧ H a = some (.dK vs) ∧ RepK K F kvs vs
structure Stt (K : PySem.W.Frag) (F0 H0 F H : Hp) (σ : L2.St) (ρ : Rho) : Prop where
  gr : Grow F0 H0 F H
  len : σ.length = ρ.length
  ok : ∀ (i : Nat) (s : Sl), ρ[i]? = some (some s) → SlOk K H0 F H σ[i]? s
  dis : ∀ (i j : Nat) (s t : Sl) (a : Addr), ρ[i]? = some (some s) → ρ[j]? = some (some t) → s.own = true → t.own = true → σ[i]? = some (some (.ref a)) → σ[j]? = some (some (.ref a)) → i = j
theorem SlOk.there {o : Option (Option V)} {s : Sl} (h : SlOk K H0 F H o s) (hs : s.own = true) : ∃ a, o = some (some (.ref a)) ∧ H0 a = none ∧ F a = none ∧ H a ≠ none := by
  cases s with
  | fz d => cases hs
  | ol ds => obtain ⟨a, xs, e, b, f, l, _⟩ := h; exact ⟨a, e, b, f, by rw [l]; simp⟩
  | od ds => obtain ⟨a, xs, e, b, f, l, _⟩ := h; exact ⟨a, e, b, f, by rw [l]; simp⟩
theorem SlOk.grow {o : Option (Option V)} {s : Sl} (h : SlOk K H0 F H o s) (g : Grow F H F' H') : SlOk K H0 F' H' o s := by
  cases s with
  | fz d => obtain ⟨v, e, r⟩ := h; exact ⟨v, e, Rep.mono g.f d v r⟩
  | ol ds =>
    obtain ⟨a, xs, e, b, f, l, r⟩ := h
    exact ⟨a, xs, e, b, g.n a f (by rw [l]; simp), g.h _ _ l, r.mono g.f⟩
  | od ds =>
    obtain ⟨a, xs, e, b, f, l, r⟩ := h
    exact ⟨a, xs, e, b, g.n a f (by rw [l]; simp), g.h _ _ l, r.mono g.f⟩
variable {σ : L2.St} {ρ : Rho}
theorem Stt.sub (S : Stt K F0 H0 F H σ ρ) : Same F H := S.gr.s
theorem Stt.grow (S : Stt K F0 H0 F H σ ρ) (g : Grow F H F' H') : Stt K F0 H0 F' H' σ ρ :=
  ⟨S.gr.trans g, S.len, fun i s h => (S.ok i s h).grow g, S.dis⟩
/-- frozen data goes into a slot -/
theorem Stt.put {i : Nat} {d : D} {v : V} (S : Stt K F0 H0 F H σ ρ) (r : Rep K F d v) : Stt K F0 H0 F H (σ.set i (some v)) (ρ.set i (some (.fz d))) := by
  refine ⟨S.gr, by simp [S.len], fun j s h => ?_, fun j k s t a h1 h2 o1 o2 e1 e2 => ?_⟩
  · by_cases hj : i = j
    · subst hj
      have hi : i < ρ.length := by have := (List.getElem?_eq_some_iff.mp h).1; simpa using this
      rw [List.getElem?_set_self hi] at h
      cases h
      exact ⟨v, by rw [List.getElem?_set_self (by rw [S.len]; exact hi)], r⟩
    · rw [List.getElem?_set_ne hj] at h ⊢
      exact S.ok j s h
  · have nj : i ≠ j := fun z => by
      subst z
      have hi : i < ρ.length := by have := (List.getElem?_eq_some_iff.mp h1).1; simpa using this
      rw [List.getElem?_set_self hi] at h1; cases h1; cases o1
    have nk : i ≠ k := fun z => by
      subst z
      have hi : i < ρ.length := by have := (List.getElem?_eq_some_iff.mp h2).1; simpa using this
      rw [List.getElem?_set_self hi] at h2; cases h2; cases o2
    rw [List.getElem?_set_ne nj] at h1 e1
    rw [List.getElem?_set_ne nk] at h2 e2
    exact S.dis j k s t a h1 h2 o1 o2 e1 e2
/-- a slot is forgotten, with its value -/
theorem Stt.lose {i : Nat} {o : Option V} (S : Stt K F0 H0 F H σ ρ) : Stt K F0 H0 F H (σ.set i o) (ρ.set i none) := by
  refine ⟨S.gr, by simp [S.len], fun j s h => ?_, fun j k s t a h1 h2 o1 o2 e1 e2 => ?_⟩
  · by_cases hj : i = j
    · subst hj
      have hi : i < ρ.length := by have := (List.getElem?_eq_some_iff.mp h).1; simpa using this
      rw [List.getElem?_set_self hi] at h; cases h
    · rw [List.getElem?_set_ne hj] at h ⊢
      exact S.ok j s h
  · have nj : i ≠ j := fun z => by
      subst z
      have hi : i < ρ.length := by have := (List.getElem?_eq_some_iff.mp h1).1; simpa using this
      rw [List.getElem?_set_self hi] at h1; cases h1
    have nk : i ≠ k := fun z => by
      subst z
      have hi : i < ρ.length := by have := (List.getElem?_eq_some_iff.mp h2).1; simpa using this
      rw [List.getElem?_set_self hi] at h2; cases h2
    rw [List.getElem?_set_ne nj] at h1 e1
    rw [List.getElem?_set_ne nk] at h2 e2
    exact S.dis j k s t a h1 h2 o1 o2 e1 e2
/-- a new thing goes into a slot, owned: B the heap ahead of its making -/
theorem Stt.putO {i : Nat} {s : Sl} {a : Addr} (S : Stt K F0 H0 F H σ ρ) (ho : s.own = true) (r : SlOk K H0 F H (some (some (.ref a))) s)
    (hn : ∀ (j : Nat) (t : Sl), ρ[j]? = some (some t) → t.own = true → j ≠ i → σ[j]? ≠ some (some (.ref a))) : Stt K F0 H0 F H (σ.set i (some (.ref a))) (ρ.set i (some s)) := by
  have key : ∀ {j : Nat} {t : Sl}, i ≠ j → (ρ.set i (some s))[j]? = some (some t) → ρ[j]? = some (some t) := fun hj h => by rw [List.getElem?_set_ne hj] at h; exact h
  refine ⟨S.gr, by simp [S.len], fun j t h => ?_, fun j k t u b h1 h2 o1 o2 e1 e2 => ?_⟩
  · by_cases hj : i = j
    · subst hj
      have hi : i < ρ.length := by have := (List.getElem?_eq_some_iff.mp h).1; simpa using this
      rw [List.getElem?_set_self hi] at h
      cases h
      rw [List.getElem?_set_self (by rw [S.len]; exact hi)]
      exact r
    · rw [List.getElem?_set_ne hj] at h ⊢
      exact S.ok j t h
  · have at_i : ∀ {x : Option (Option V)}, i < ρ.length → (σ.set i (some (V.ref a)))[i]? = x → x = some (some (.ref a)) := fun hi e => by
      rw [List.getElem?_set_self (by rw [S.len]; exact hi)] at e; exact e.symm
    by_cases nj : i = j
    · subst nj
      have hi : i < ρ.length := by have := (List.getElem?_eq_some_iff.mp h1).1; simpa using this
      have ea := at_i hi e1
      cases ea
      by_cases nk : i = k
      · exact nk
      · rw [List.getElem?_set_ne nk] at h2 e2
        exact absurd e2 (hn k u h2 o2 (Ne.symm nk))
    · by_cases nk : i = k
      · subst nk
        have hi : i < ρ.length := by have := (List.getElem?_eq_some_iff.mp h2).1; simpa using this
        have ea := at_i hi e2
        cases ea
        rw [List.getElem?_set_ne nj] at h1 e1
        exact absurd e1 (hn j t h1 o1 (Ne.symm nj))
      · rw [List.getElem?_set_ne nj] at h1 e1
        rw [List.getElem?_set_ne nk] at h2 e2
        exact S.dis j k t u b h1 h2 o1 o2 e1 e2
/-- the thing in an owned slot changes -/
theorem Stt.mut {i : Nat} {s s' : Sl} {a : Addr} {o : HO} (S : Stt K F0 H0 F H σ ρ) (hi : ρ[i]? = some (some s)) (ho : s.own = true) (ho' : s'.own = true) (ha : σ[i]? = some (some (.ref a)))
    (r : SlOk K H0 F (upd H a o) (some (some (.ref a))) s') : Stt K F0 H0 F (upd H a o) σ (ρ.set i (some s')) := by
  obtain ⟨b, hb, h0, hf, hh⟩ := (S.ok i s hi).there ho
  rw [ha] at hb; cases hb
  have hil : i < ρ.length := (List.getElem?_eq_some_iff.mp hi).1
  have same : σ = σ.set i (some (.ref a)) := by
    apply List.ext_getElem?
    intro j
    by_cases hj : i = j
    · subst hj; rw [List.getElem?_set_self (by rw [S.len]; exact hil), ha]
    · rw [List.getElem?_set_ne hj]
  refine ⟨S.gr.mut h0 hf, by simp [S.len], fun j t h => ?_, fun j k t u c h1 h2 o1 o2 e1 e2 => ?_⟩
  · by_cases hj : i = j
    · subst hj
      rw [List.getElem?_set_self hil] at h
      cases h
      rw [ha]; exact r
    · rw [List.getElem?_set_ne hj] at h
      have q := S.ok j t h
      cases t with
      | fz d => exact q
      | ol ds =>
        obtain ⟨c, xs, e, b1, f1, l1, r1⟩ := q
        have nc : c ≠ a := fun z => by
          subst z
          exact hj (S.dis i j s (.ol ds) c hi h ho rfl ha e)
        exact ⟨c, xs, e, b1, f1, by rw [upd_ne nc]; exact l1, r1⟩
      | od ds =>
        obtain ⟨c, xs, e, b1, f1, l1, r1⟩ := q
        have nc : c ≠ a := fun z => by
          subst z
          exact hj (S.dis i j s (.od ds) c hi h ho rfl ha e)
        exact ⟨c, xs, e, b1, f1, by rw [upd_ne nc]; exact l1, r1⟩
  · have old : ∀ {j : Nat} {t : Sl}, (ρ.set i (some s'))[j]? = some (some t) → t.own = true → ∃ t0, ρ[j]? = some (some t0) ∧ t0.own = true := fun {j t} h o1 => by
      by_cases hj : i = j
      · subst hj; exact ⟨s, hi, ho⟩
      · rw [List.getElem?_set_ne hj] at h; exact ⟨t, h, o1⟩
    obtain ⟨t0, g1, p1⟩ := old h1 o1
    obtain ⟨u0, g2, p2⟩ := old h2 o2
    exact S.dis j k t0 u0 c g1 g2 p1 p2 e1 e2
/-- the list in an owned slot is frozen -/
theorem Stt.frz {i : Nat} {ds : List D} (S : Stt K F0 H0 F H σ ρ) (hi : ρ[i]? = some (some (.ol ds))) : ∃ F', Grow F0 H0 F' H ∧ Same F F' ∧ Stt K F0 H0 F' H σ (ρ.set i (some (.fz (.lst ds)))) := by
  obtain ⟨a, xs, e, h0, hf, l, r⟩ := S.ok i _ hi
  have sm : Same F (upd F a (.lst xs)) := same_new hf
  have G := S.gr.freeze h0 hf l
  refine ⟨_, G, sm, G, by simp [S.len], fun j t h => ?_, fun j k t u c h1 h2 o1 o2 e1 e2 => ?_⟩
  · by_cases hj : i = j
    · subst hj
      rw [List.getElem?_set_self (List.getElem?_eq_some_iff.mp hi).1] at h
      cases h
      exact ⟨.ref a, e, by unfold Rep; exact ⟨a, xs, rfl, upd_same, r.mono sm⟩⟩
    · rw [List.getElem?_set_ne hj] at h
      have q := S.ok j t h
      cases t with
      | fz d => obtain ⟨v, e1, r1⟩ := q; exact ⟨v, e1, Rep.mono sm d v r1⟩
      | ol es =>
        obtain ⟨c, ys, e1, b1, f1, l1, r1⟩ := q
        have nc : c ≠ a := fun z => by subst z; exact hj (S.dis i j _ (.ol es) c hi h rfl rfl e e1)
        exact ⟨c, ys, e1, b1, by rw [upd_ne nc]; exact f1, l1, r1.mono sm⟩
      | od es =>
        obtain ⟨c, ys, e1, b1, f1, l1, r1⟩ := q
        have nc : c ≠ a := fun z => by subst z; exact hj (S.dis i j _ (.od es) c hi h rfl rfl e e1)
        exact ⟨c, ys, e1, b1, by rw [upd_ne nc]; exact f1, l1, r1.mono sm⟩
  · have nj : i ≠ j := fun z => by
      subst z
      rw [List.getElem?_set_self (List.getElem?_eq_some_iff.mp hi).1] at h1; cases h1; cases o1
    have nk : i ≠ k := fun z => by
      subst z
      rw [List.getElem?_set_self (List.getElem?_eq_some_iff.mp hi).1] at h2; cases h2; cases o2
    rw [List.getElem?_set_ne nj] at h1
    rw [List.getElem?_set_ne nk] at h2
    exact S.dis j k t u c h1 h2 o1 o2 e1 e2
/-- less is known -/
def Le (ρ' ρ : Rho) : Prop := ρ'.length = ρ.length ∧ ∀ (i : Nat) (s : Sl), ρ'[i]? = some (some s) → ρ[i]? = some (some s)
theorem Le.refl (ρ : Rho) : Le ρ ρ := ⟨rfl, fun _ _ h => h⟩
theorem Stt.le {ρ' : Rho} (S : Stt K F0 H0 F H σ ρ) (h : Le ρ' ρ) : Stt K F0 H0 F H σ ρ' :=
  ⟨S.gr, S.len.trans h.1.symm, fun i s e => S.ok i s (h.2 i s e), fun i j s t a e1 e2 => S.dis i j s t a (h.2 i s e1) (h.2 j t e2)⟩
end
end DL

end

section
set_option Elab.async false
set_option linter.all false
set_option maxRecDepth 100000
set_option maxHeartbeats 2000000
/-! Judgements over data: expressions, tests, arguments. -/
namespace DL
open PySem PySem.Spec PyProof.Rows L2

/-! ### what a def's names are -/
inductive At {α : Type} : List α → Nat → α → Prop
  | here {x : α} {l : List α} : At (x :: l) 0 x
  | next {x y : α} {l : List α} {i : Nat} : At l i x → At (y :: l) (i + 1) x
theorem At.get {α : Type} {l : List α} {i : Nat} {x : α} (h : At l i x) : l[i]? = some x := by
  induction h with
  | here => rfl
  | next _ ih => simpa using ih
/-- the slot of a name and what stands there -/
inductive Sk : List Str → Rho → Str → Nat → Option Sl → Prop
  | here {x : Str} {N : List Str} {s : Option Sl} {ρ : Rho} : Sk (x :: N) (s :: ρ) x 0 s
  | next {x y : Str} {N : List Str} {s t : Option Sl} {ρ : Rho} {i : Nat} : Sk N ρ x i s → Sk (y :: N) (t :: ρ) x (i + 1) s
theorem Sk.get {N : List Str} {ρ : Rho} {x : Str} {i : Nat} {s : Option Sl} (h : Sk N ρ x i s) : N[i]? = some x ∧ ρ[i]? = some s := by
  induction h with
  | here => exact ⟨rfl, rfl⟩
  | next _ ih => simpa using ih
/-- a name's slot gets s -/
inductive Up : List Str → Rho → Str → Nat → Option Sl → Rho → Prop
  | here {x : Str} {N : List Str} {s t : Option Sl} {ρ : Rho} : Up (x :: N) (t :: ρ) x 0 s (s :: ρ)
  | next {x y : Str} {N : List Str} {s t : Option Sl} {ρ ρ' : Rho} {i : Nat} : Up N ρ x i s ρ' → Up (y :: N) (t :: ρ) x (i + 1) s (t :: ρ')
theorem Up.get {N : List Str} {ρ ρ' : Rho} {x : Str} {i : Nat} {s : Option Sl} (h : Up N ρ x i s ρ') : N[i]? = some x ∧ ρ' = ρ.set i s ∧ i < ρ.length := by
  induction h with
  | here => exact ⟨rfl, rfl, by simp⟩
  | next _ ih =>
    obtain ⟨a, b, c⟩ := ih
    exact ⟨by simpa using a, by rw [b]; rfl, by simp; omega⟩

structure Bd (X : Cx) (N : List Str) (nm : List (Str × NameKind)) : Prop where
  hN : X.N = N
  nd : N.Nodup
  gd : X.A.guards = some []
  lk : ∀ x k, (x, k) ∈ nm → X.env.scope.names.lookup x = some k ∨ (k = .free ∧ X.env.scope.names.lookup x = some .cell)
section
variable {X : Cx} {N : List Str} {nm : List (Str × NameKind)}
/-- x is a name of the frame -/
inductive Vs (nm : List (Str × NameKind)) (x : Str) : Prop
  | l (h : (x, NameKind.local) ∈ nm) : Vs nm x
  | c (h : (x, NameKind.cell) ∈ nm) : Vs nm x
  | f (h : (x, NameKind.free) ∈ nm) : Vs nm x
theorem Bd.vis (B : Bd X N nm) {x : Str} (h : Vs nm x) : Vis X.env.scope x := by
  cases h with
  | l h =>
    rcases B.lk _ _ h with q | ⟨q, _⟩
    · exact .inl q
    · cases q
  | c h =>
    rcases B.lk _ _ h with q | ⟨q, _⟩
    · exact .inr (.inl q)
    · cases q
  | f h =>
    rcases B.lk _ _ h with q | ⟨_, q⟩
    · exact .inr (.inr q)
    · exact .inr (.inl q)
theorem Bd.gl (B : Bd X N nm) {x : Str} (h : (x, NameKind.globalImplicit) ∈ nm) : Gl X x := by
  rcases B.lk _ _ h with q | ⟨q, _⟩
  · exact q
  · cases q
/-- x may be stored -/
inductive Ls (nm : List (Str × NameKind)) (x : Str) : Prop
  | l (h : (x, NameKind.local) ∈ nm) : Ls nm x
  | c (h : (x, NameKind.cell) ∈ nm) : Ls nm x
theorem Bd.loc (B : Bd X N nm) {x : Str} (h : Ls nm x) : Loc X.env.scope x := by
  cases h with
  | l h =>
    rcases B.lk _ _ h with q | ⟨q, _⟩
    · exact .inl q
    · cases q
  | c h =>
    rcases B.lk _ _ h with q | ⟨q, _⟩
    · exact .inr q
    · cases q
theorem Bd.loc0 (B : Bd X N nm) {x : Str} (h : (x, NameKind.local) ∈ nm) : X.env.scope.names.lookup x = some .local := by
  rcases B.lk _ _ h with q | ⟨q, _⟩
  · exact q
  · cases q
end

/-! ### weakest readings -/
def wpE (X : Cx) (e : Expr) : TE := fun σ H Q => ∃ t, PE X e t ∧ t σ H Q
def wpT (X : Cx) (e : Expr) : TT := fun σ H Q => ∃ t, PT X e t ∧ t σ H Q
def wpW (X : Cx) (e : Expr) : TT := fun σ H Q => ∃ t, PW X e t ∧ t σ H Q
def wpA (X : Cx) (es : List Expr) : TA := fun σ H Q => ∃ t, PA X es t ∧ t σ H Q
def wpSs (X : Cx) (ss : List Stmt) : TS := fun D σ H => ∃ t, PSs X ss t ∧ t D σ H
theorem pe_wp {X : Cx} {e : Expr} : PE X e (wpE X e) := ⟨fun pins s σ H Q I ⟨_, h, q⟩ => h.run pins s σ H Q I q⟩
theorem pt_wp {X : Cx} {e : Expr} : PT X e (wpT X e) := ⟨fun pins s σ H Q I ⟨_, h, q⟩ => h.run pins s σ H Q I q⟩
theorem pw_wp {X : Cx} {e : Expr} : PW X e (wpW X e) := ⟨fun wh pins s σ H Q I ⟨_, h, q⟩ => h.run wh pins s σ H Q I q⟩
theorem pa_wp {X : Cx} {es : List Expr} : PA X es (wpA X es) := ⟨fun pos pins s σ H Q I ⟨_, h, q⟩ => h.run pos pins s σ H Q I q⟩
theorem pss_wp {X : Cx} {ss : List Stmt} : PSs X ss (wpSs X ss) := ⟨fun pins s σ H D I ⟨_, h, q⟩ => h.run pins s σ H D I q⟩

/-! ### expressions over data -/
def ED (K : PySem.W.Frag) (ρ : Rho) (t : TE) (kd : Kd) : Prop := ∀ (F0 H0 F H : Hp) (σ : L2.St), Stt K F0 H0 F H σ ρ → ∀ Q : VK, (∀ v F' H', Grow F H F' H' → RK K H F' H' v kd → Q v H') → t σ H Q
def TD (K : PySem.W.Frag) (ρ : Rho) (t : TT) (b : Bool) : Prop := ∀ (F0 H0 F H : Hp) (σ : L2.St), Stt K F0 H0 F H σ ρ → ∀ Q : Bool → Hp → Prop, (∀ F' H', Grow F H F' H' → Q b H') → t σ H Q
def AD (K : PySem.W.Frag) (ρ : Rho) (t : TA) (ds : List D) : Prop := ∀ (F0 H0 F H : Hp) (σ : L2.St), Stt K F0 H0 F H σ ρ → ∀ Q : List V → Hp → Prop, (∀ vs F' H', Grow F H F' H' → Reps K F' ds vs → Q vs H') → t σ H Q
abbrev EV (X : Cx) (ρ : Rho) (e : Expr) (kd : Kd) : Prop := ED X.K ρ (wpE X e) kd
abbrev TV (X : Cx) (ρ : Rho) (e : Expr) (b : Bool) : Prop := TD X.K ρ (wpT X e) b
abbrev WV (X : Cx) (ρ : Rho) (e : Expr) (b : Bool) : Prop := TD X.K ρ (wpW X e) b
abbrev AV (X : Cx) (ρ : Rho) (es : List Expr) (ds : List D) : Prop := AD X.K ρ (wpA X es) ds

section
variable {X : Cx} {N : List Str} {nm : List (Str × NameKind)} {ρ : Rho} {K : PySem.W.Frag} {e a b c : Expr} {kd ka kb kc : Kd} {pos p : Pos} {d : D}
theorem EV.of {t : TE} (h : PE X e t) (hd : ED X.K ρ t kd) : EV X ρ e kd := fun F0 H0 F H σ S Q q => ⟨t, h, hd F0 H0 F H σ S Q q⟩
theorem TV.of {t : TT} {k : Bool} (h : PT X e t) (hd : TD X.K ρ t k) : TV X ρ e k := fun F0 H0 F H σ S Q q => ⟨t, h, hd F0 H0 F H σ S Q q⟩
theorem WV.of {t : TT} {k : Bool} (h : PW X e t) (hd : TD X.K ρ t k) : WV X ρ e k := fun F0 H0 F H σ S Q q => ⟨t, h, hd F0 H0 F H σ S Q q⟩

/-! #### kinds -/
theorem EV.frz {ds : List D} (h : EV X ρ e (.nl ds)) : EV X ρ e (.v (.lst ds)) := fun F0 H0 F H σ S Q q => by
  refine h F0 H0 F H σ S Q fun v F' H' g r => ?_
  obtain ⟨x, xs, rfl, h0, hf, hp, rr⟩ := r
  have sm : Same F' (upd F' x (.lst xs)) := same_new hf
  exact q _ _ H' (g.freeze h0 hf hp) (by show Rep _ _ _ _; unfold Rep; exact ⟨x, xs, rfl, upd_same, rr.mono sm⟩)
theorem EV.frzD {kvs : List (Key × D)} (h : EV X ρ e (.nd kvs)) : EV X ρ e (.v (.dk (kvs.map (·.1)) (kvs.map (·.2)))) := fun F0 H0 F H σ S Q q => by
  refine h F0 H0 F H σ S Q fun v F' H' g r => ?_
  obtain ⟨x, vs, rfl, h0, hf, hp, rr⟩ := r
  have sm : Same F' (upd F' x (.dK vs)) := same_new hf
  have e1 : (kvs.map (·.1)).zip (vs.map (·.2)) = vs := by
    rw [← rr.1]
    clear rr hp sm hf h0
    induction vs with
    | nil => rfl
    | cons u us ih => simp [ih]
  have l1 : (kvs.map (·.1)).length = (vs.map (·.2)).length := by
    have := congrArg List.length rr.1
    simpa using this.symm
  exact q _ _ H' (g.freeze h0 hf hp) (by show Rep _ _ _ _; unfold Rep; exact ⟨x, vs.map (·.2), rfl, by rw [e1]; exact upd_same, l1, rr.2.mono sm⟩)
theorem EV.ll {ds : List D} (h : EV X ρ e (.v (.lst ds))) : EV X ρ e (.ll ds) := fun F0 H0 F H σ S Q q => by
  refine h F0 H0 F H σ S Q fun v F' H' g r => q v F' H' g ?_
  have r' : Rep X.K F' (.lst ds) v := r
  unfold Rep at r'
  obtain ⟨x, xs, rfl, l, rr⟩ := r'
  exact ⟨x, xs, rfl, g.s _ _ l, rr⟩
theorem EV.nll {ds : List D} (h : EV X ρ e (.nl ds)) : EV X ρ e (.ll ds) := fun F0 H0 F H σ S Q q => by
  refine h F0 H0 F H σ S Q fun v F' H' g r => q v F' H' g ?_
  obtain ⟨x, xs, rfl, h0, hf, hp, rr⟩ := r
  exact ⟨x, xs, rfl, hp, rr⟩
theorem EV.sl {ds : List D} (h : EV X ρ e (.ll ds)) : EV X ρ e (.sl ds) := fun F0 H0 F H σ S Q q => by
  refine h F0 H0 F H σ S Q fun v F' H' g r => q v F' H' g ?_
  obtain ⟨x, xs, rfl, hp, rr⟩ := r
  exact ⟨x, xs, rfl, SqL.of hp, rr⟩
theorem EV.sls {ds : List D} (h : EV X ρ e (.v (.scr ds))) : EV X ρ e (.sl ds) := fun F0 H0 F H σ S Q q => by
  refine h F0 H0 F H σ S Q fun v F' H' g r => q v F' H' g ?_
  have r' : Rep X.K F' (.scr ds) v := r
  unfold Rep at r'
  obtain ⟨x, xs, rfl, l, rr⟩ := r'
  exact ⟨x, xs, rfl, sqL_mono g.s l, rr⟩
theorem EV.st {ds : List D} (h : EV X ρ e (.v (.tup ds))) : EV X ρ e (.st ds) := fun F0 H0 F H σ S Q q => by
  refine h F0 H0 F H σ S Q fun v F' H' g r => q v F' H' g ?_
  have r' : Rep X.K F' (.tup ds) v := r
  unfold Rep at r'
  obtain ⟨x, xs, rfl, l, rr⟩ := r'
  exact ⟨x, xs, rfl, sqT_mono g.s l, rr⟩
theorem EV.dqn {kvs : List (Key × D)} (h : EV X ρ e (.nd kvs)) : EV X ρ e (.dq kvs) := fun F0 H0 F H σ S Q q => by
  refine h F0 H0 F H σ S Q fun v F' H' g r => q v F' H' g ?_
  obtain ⟨x, xs, rfl, h0, hf, hp, rr⟩ := r
  exact ⟨x, xs, rfl, hp, rr⟩
theorem EV.as {k' : Kd} (h : EV X ρ e kd) (z : kd = k') : EV X ρ e k' := z ▸ h
theorem TV.as {k k' : Bool} (h : TV X ρ e k) (z : k = k') : TV X ρ e k' := z ▸ h

/-! #### leaves -/
theorem ED.const {v : V} (r : ∀ F : Hp, Rep K F d v) : ED K ρ (tC v) (.v d) := fun F0 H0 F H σ S Q q => q v F H (Grow.refl S.sub) (r F)
theorem ev_int {i : Int} {j : Nat} : EV X ρ (.Constant (.int i) j pos) (.v (.int i)) := EV.of pe_int (ED.const fun _ => by unfold Rep; rfl)
theorem ev_bl {i : Bool} {j : Nat} : EV X ρ (.Constant (.bool i) j pos) (.v (.bl i)) := EV.of pe_bl (ED.const fun _ => by unfold Rep; rfl)
theorem ev_non {j : Nat} : EV X ρ (.Constant .none j pos) (.v .non) := EV.of pe_non (ED.const fun _ => by unfold Rep; rfl)
theorem ev_str {x : Str} {j : Nat} : EV X ρ (.Constant (.str x) j pos) (.v (.str x)) := EV.of pe_str (ED.const fun _ => by unfold Rep; rfl)
theorem ED.var {i : Nat} {s : Sl} (h : ρ[i]? = some (some s)) : ED K ρ (tVar i) (match s with | .fz d => .v d | .ol ds => .ll ds | .od kvs => .dq kvs) := fun F0 H0 F H σ S Q q => by
  have z := S.ok i s h
  cases s with
  | fz d =>
    obtain ⟨v, e, r⟩ := z
    exact ⟨v, e, q v F H (Grow.refl S.sub) r⟩
  | ol ds =>
    obtain ⟨x, xs, e, _, _, l, r⟩ := z
    exact ⟨_, e, q _ F H (Grow.refl S.sub) ⟨x, xs, rfl, l, r⟩⟩
  | od kvs =>
    obtain ⟨x, xs, e, _, _, l, r⟩ := z
    exact ⟨_, e, q _ F H (Grow.refl S.sub) ⟨x, xs, rfl, l, r⟩⟩
theorem pe_nm {x : Str} {i : Nat} {s : Option Sl} (B : Bd X N nm) (h : Sk N ρ x i s) (hv : Vs nm x) (hd : (x == ("__debug__" : Str)) = false := by decide) (hcd : (x == ("__classdict__" : Str)) = false := by decide) : PE X (.Name x p) (tVar i) :=
  pe_var (by rw [B.hN]; exact h.get.1) (B.vis hv) hd hcd
theorem ev_name {x : Str} {i : Nat} (B : Bd X N nm) (h : Sk N ρ x i (some (.fz d))) (hv : Vs nm x) (hd : (x == ("__debug__" : Str)) = false := by decide) (hcd : (x == ("__classdict__" : Str)) = false := by decide) : EV X ρ (.Name x p) (.v d) :=
  EV.of (pe_nm B h hv hd hcd) (ED.var h.get.2)
theorem ev_nameL {x : Str} {i : Nat} {ds : List D} (B : Bd X N nm) (h : Sk N ρ x i (some (.ol ds))) (hv : Vs nm x) (hd : (x == ("__debug__" : Str)) = false := by decide) (hcd : (x == ("__classdict__" : Str)) = false := by decide) : EV X ρ (.Name x p) (.ll ds) :=
  EV.of (pe_nm B h hv hd hcd) (ED.var (s := .ol ds) h.get.2)
theorem ev_nameD {x : Str} {i : Nat} {kvs : List (Key × D)} (B : Bd X N nm) (h : Sk N ρ x i (some (.od kvs))) (hv : Vs nm x) (hd : (x == ("__debug__" : Str)) = false := by decide) (hcd : (x == ("__classdict__" : Str)) = false := by decide) : EV X ρ (.Name x p) (.dq kvs) :=
  EV.of (pe_nm B h hv hd hcd) (ED.var (s := .od kvs) h.get.2)
/-- a module's constant -/
theorem ev_glob {x : Str} {v : V} {u : Value} (B : Bd X N nm) (hg : (x, NameKind.globalImplicit) ∈ nm) (hm : X.mg x = some u) (r : RelV v u) (rd : ∀ F : Hp, Rep X.K F d v) (hd : (x == ("__debug__" : Str)) = false := by decide) : EV X ρ (.Name x p) (.v d) :=
  EV.of (pe_glob (B.gl hg) hm r hd) (ED.const rd)

/-! #### two operands -/
def OpD (K : PySem.W.Frag) (r : R2) (ka kb kc : Kd) : Prop := ∀ (F H : Hp) (x y : V), Same F H → RI K F H x ka → RI K F H y kb → ∀ Q : VK, (∀ v F' H', Grow F H F' H' → RK K H F' H' v kc → Q v H') → r x y H Q
theorem ED.op {ta tb : TE} {r : R2} (ha : ED K ρ ta ka) (hb : ED K ρ tb kb) (hr : OpD K r ka kb kc) : ED K ρ (tOp r ta tb) kc := fun F0 H0 F H σ S Q q => by
  refine ha F0 H0 F H σ S _ fun x F1 H1 g1 r1 => ?_
  refine hb F0 H0 F1 H1 σ (S.grow g1) _ fun y F2 H2 g2 r2 => ?_
  exact hr F2 H2 x y g2.s (r1.grow g2).ri r2.ri Q fun v F3 H3 g3 r3 => q v F3 H3 ((g1.trans g2).trans g3) (r3.pre fun z h => (g1.h.trans g2.h).free h)
theorem ED.un {ta : TE} {r : V → Hp → VK → Prop} (ha : ED K ρ ta ka) (hr : ∀ (F H : Hp) (x : V), Same F H → RI K F H x ka → ∀ Q : VK, (∀ v F' H', Grow F H F' H' → RK K H F' H' v kc → Q v H') → r x H Q) : ED K ρ (tUn r ta) kc := fun F0 H0 F H σ S Q q => by
  refine ha F0 H0 F H σ S _ fun x F1 H1 g1 r1 => ?_
  exact hr F1 H1 x g1.s r1.ri Q fun v F3 H3 g3 r3 => q v F3 H3 (g1.trans g3) (r3.pre fun z h => g1.h.free h)
theorem ev_op {op : Operator} {r : R2} (ho : OpR X (binaryOp op) r) (hr : OpD X.K r ka kb kc) (ha : EV X ρ a ka) (hb : EV X ρ b kb) : EV X ρ (.BinOp a op b pos) kc := EV.of (pe_op ho pe_wp pe_wp) (ED.op ha hb hr)
theorem rep_int {F : Hp} {i : Int} {x : V} : Rep K F (.int i) x ↔ x = .int i := by unfold Rep; exact Iff.rfl
theorem rep_bl {F : Hp} {i : Bool} {x : V} : Rep K F (.bl i) x ↔ x = .bl i := by unfold Rep; exact Iff.rfl
theorem rep_str {F : Hp} {i : Str} {x : V} : Rep K F (.str i) x ↔ x = .str i := by unfold Rep; exact Iff.rfl
theorem rep_non {F : Hp} {x : V} : Rep K F .non x ↔ x = .non := by unfold Rep; exact Iff.rfl
theorem rep_lst {F : Hp} {ds : List D} {x : V} : Rep K F (.lst ds) x ↔ ∃ a xs, x = .ref a ∧ F a = some (.lst xs) ∧ Reps K F ds xs := by
  constructor
  · intro h; unfold Rep at h; exact h
  · intro h; unfold Rep; exact h
theorem rep_tup {F : Hp} {ds : List D} {x : V} : Rep K F (.tup ds) x ↔ ∃ a xs, x = .ref a ∧ SqT K F a xs ∧ Reps K F ds xs := by
  constructor
  · intro h; unfold Rep at h; exact h
  · intro h; unfold Rep; exact h
theorem ri_int {F H : Hp} {i : Int} {x : V} (h : RI K F H x (.v (.int i))) : x = .int i := (rep_int (K := K) (F := F)).mp h
theorem ri_str {F H : Hp} {i : Str} {x : V} (h : RI K F H x (.v (.str i))) : x = .str i := (rep_str (K := K) (F := F)).mp h
theorem ri_bl {F H : Hp} {i : Bool} {x : V} (h : RI K F H x (.v (.bl i))) : x = .bl i := (rep_bl (K := K) (F := F)).mp h
theorem rk_int {B F H : Hp} {i : Int} : RK K B F H (.int i) (.v (.int i)) := by show Rep _ _ _ _; unfold Rep; rfl
theorem rk_bl {B F H : Hp} {i : Bool} : RK K B F H (.bl i) (.v (.bl i)) := by show Rep _ _ _ _; unfold Rep; rfl
theorem rk_str {B F H : Hp} {i : Str} : RK K B F H (.str i) (.v (.str i)) := by show Rep _ _ _ _; unfold Rep; rfl
theorem rk_non {B F H : Hp} : RK K B F H .non (.v .non) := by show Rep _ _ _ _; unfold Rep; rfl
/-- a value that refers to nothing -/
theorem fin_int {F H : Hp} {i : Int} {Q : VK} (e : Same F H) (q : ∀ v F' H', Grow F H F' H' → RK K H F' H' v (.v (.int i)) → Q v H') : Q (.int i) H := q _ F H (Grow.refl e) rk_int
theorem fin_bl {F H : Hp} {i : Bool} {Q : VK} (e : Same F H) (q : ∀ v F' H', Grow F H F' H' → RK K H F' H' v (.v (.bl i)) → Q v H') : Q (.bl i) H := q _ F H (Grow.refl e) rk_bl
theorem fin_str {F H : Hp} {i : Str} {Q : VK} (e : Same F H) (q : ∀ v F' H', Grow F H F' H' → RK K H F' H' v (.v (.str i)) → Q v H') : Q (.str i) H := q _ F H (Grow.refl e) rk_str
theorem opD_I0 {g : Int → Int → Int} {i j : Int} : OpD K (rI0 fun i j => .int (g i j)) (.v (.int i)) (.v (.int j)) (.v (.int (g i j))) := fun F H x y e hx hy Q q => ⟨i, j, ri_int hx, ri_int hy, fin_int e q⟩
theorem opD_B0 {g : Int → Int → Bool} {i j : Int} : OpD K (rI0 fun i j => .bl (g i j)) (.v (.int i)) (.v (.int j)) (.v (.bl (g i j))) := fun F H x y e hx hy Q q => ⟨i, j, ri_int hx, ri_int hy, fin_bl e q⟩
theorem opD_I {C : Int → Int → Prop} {g : Int → Int → Int} {i j : Int} (hc : C i j) : OpD K (rI C fun i j => .int (g i j)) (.v (.int i)) (.v (.int j)) (.v (.int (g i j))) := fun F H x y e hx hy Q q => ⟨i, j, ri_int hx, ri_int hy, hc, fin_int e q⟩
variable {i j : Int}
theorem ev_add (ha : EV X ρ a (.v (.int i))) (hb : EV X ρ b (.v (.int j))) : EV X ρ (.BinOp a .Add b pos) (.v (.int (i + j))) := ev_op op_add opD_I0 ha hb
theorem ev_sub (ha : EV X ρ a (.v (.int i))) (hb : EV X ρ b (.v (.int j))) : EV X ρ (.BinOp a .Sub b pos) (.v (.int (i - j))) := ev_op op_sub opD_I0 ha hb
theorem ev_mul (ha : EV X ρ a (.v (.int i))) (hb : EV X ρ b (.v (.int j))) (hc : CMul i j) : EV X ρ (.BinOp a .Mult b pos) (.v (.int (i * j))) := ev_op op_mul (opD_I hc) ha hb
theorem ev_mod (ha : EV X ρ a (.v (.int i))) (hb : EV X ρ b (.v (.int j))) (hc : 0 < j) : EV X ρ (.BinOp a .Mod b pos) (.v (.int (i % j))) := ev_op op_mod (opD_I (C := fun _ j => 0 < j) hc) ha hb
theorem ev_fdiv (ha : EV X ρ a (.v (.int i))) (hb : EV X ρ b (.v (.int j))) (hc : 0 < j ∧ j < 1073741824) : EV X ρ (.BinOp a .FloorDiv b pos) (.v (.int (i / j))) := ev_op op_fdiv (opD_I (C := CDiv) hc) ha hb
theorem ev_pow (ha : EV X ρ a (.v (.int i))) (hb : EV X ρ b (.v (.int j))) (hc : CPow i j) : EV X ρ (.BinOp a .Pow b pos) (.v (.int (i ^ j.toNat))) := ev_op op_pow (opD_I hc) ha hb
theorem ev_shl (ha : EV X ρ a (.v (.int i))) (hb : EV X ρ b (.v (.int j))) (hc : CPow i j) : EV X ρ (.BinOp a .LShift b pos) (.v (.int (i * 2 ^ j.toNat))) := ev_op op_shl (opD_I hc) ha hb
theorem ev_neg (ha : EV X ρ a (.v (.int i))) : EV X ρ (.UnaryOp .USub a pos) (.v (.int (-i))) :=
  EV.of (pe_un un_neg pe_wp) (ED.un ha fun F H x e hx Q q => ⟨i, ri_int hx, fin_int e q⟩)
theorem ev_addS {s t : Str} (ha : EV X ρ a (.v (.str s))) (hb : EV X ρ b (.v (.str t))) (hl : s.length + t.length ≤ sizeLine) : EV X ρ (.BinOp a .Add b pos) (.v (.str (s ++ t))) :=
  ev_op op_add_str (fun F H x y e hx hy Q q => ⟨s, t, ri_str hx, ri_str hy, hl, fin_str e q⟩) ha hb

/-! #### comparisons -/
theorem ev_cmp {op : CmpOp} {r : R2} (ho : OpR X (compareOp op) r) (hr : OpD X.K r ka kb kc) (ha : EV X ρ a ka) (hb : EV X ρ b kb) (hm : behindInMarks op b = false) : EV X ρ (.Compare a [op] [b] pos) kc := EV.of (pe_cmpR ho pe_wp pe_wp hm) (ED.op ha hb hr)
theorem tv_cmp {op : CmpOp} {r : R2} {k : Bool} (ho : OpR X (compareOp op) r) (hr : OpD X.K r ka kb (.v (.bl k))) (ha : EV X ρ a ka) (hb : EV X ρ b kb) (hm : behindInMarks op b = false) : TV X ρ (.Compare a [op] [b] pos) k :=
  TV.of (pt_cmpR ho pe_wp pe_wp hm) fun F0 H0 F H σ S Q q => ED.op ha hb hr F0 H0 F H σ S _ fun v F' H' g r => ⟨k, ri_bl r.ri, q F' H' g⟩
/-- a comparison's rule, serving values and tests -/
structure Cm (X : Cx) (ρ : Rho) (op : CmpOp) (a b : Expr) (k : Bool) : Prop where
  ex : ∃ (r : R2) (ka kb : Kd), OpR X (compareOp op) r ∧ OpD X.K r ka kb (.v (.bl k)) ∧ EV X ρ a ka ∧ EV X ρ b kb ∧ behindInMarks op b = false
theorem Cm.ev {op : CmpOp} {k : Bool} (h : Cm X ρ op a b k) : EV X ρ (.Compare a [op] [b] pos) (.v (.bl k)) := by
  obtain ⟨r, ka, kb, h1, h2, h3, h4, h5⟩ := h.ex
  exact ev_cmp h1 h2 h3 h4 h5
theorem Cm.tv {op : CmpOp} {k : Bool} (h : Cm X ρ op a b k) : TV X ρ (.Compare a [op] [b] pos) k := by
  obtain ⟨r, ka, kb, h1, h2, h3, h4, h5⟩ := h.ex
  exact tv_cmp h1 h2 h3 h4 h5
theorem cm_lt (ha : EV X ρ a (.v (.int i))) (hb : EV X ρ b (.v (.int j))) : Cm X ρ .Lt a b (decide (i < j)) := ⟨_, _, _, op_lt, opD_B0, ha, hb, nomark _⟩
theorem cm_le (ha : EV X ρ a (.v (.int i))) (hb : EV X ρ b (.v (.int j))) : Cm X ρ .LtE a b (decide (i ≤ j)) := ⟨_, _, _, op_le, opD_B0, ha, hb, nomark _⟩
theorem cm_gt (ha : EV X ρ a (.v (.int i))) (hb : EV X ρ b (.v (.int j))) : Cm X ρ .Gt a b (decide (j < i)) := ⟨_, _, _, op_gt, opD_B0 (g := fun i j => decide (j < i)), ha, hb, nomark _⟩
theorem cm_ge (ha : EV X ρ a (.v (.int i))) (hb : EV X ρ b (.v (.int j))) : Cm X ρ .GtE a b (decide (j ≤ i)) := ⟨_, _, _, op_ge, opD_B0 (g := fun i j => decide (j ≤ i)), ha, hb, nomark _⟩
theorem cm_eqI (ha : EV X ρ a (.v (.int i))) (hb : EV X ρ b (.v (.int j))) : Cm X ρ .Eq a b (decide (i = j)) :=
  ⟨_, _, _, op_eq, fun F H x y e hx hy Q q => ⟨by rw [ri_int hx, ri_int hy]; rfl, by
    have z : decide (x = y) = decide (i = j) := by rw [ri_int hx, ri_int hy, dec_int, Bool.beq_eq_decide_eq]
    rw [z]; exact fin_bl e q⟩, ha, hb, nomark _⟩
theorem cm_neI (ha : EV X ρ a (.v (.int i))) (hb : EV X ρ b (.v (.int j))) : Cm X ρ .NotEq a b (!decide (i = j)) :=
  ⟨_, _, _, op_ne, fun F H x y e hx hy Q q => ⟨by rw [ri_int hx, ri_int hy]; rfl, by
    have z : decide (x = y) = decide (i = j) := by rw [ri_int hx, ri_int hy, dec_int, Bool.beq_eq_decide_eq]
    rw [z]; exact fin_bl e q⟩, ha, hb, nomark _⟩
theorem cm_eqS {s t : Str} (ha : EV X ρ a (.v (.str s))) (hb : EV X ρ b (.v (.str t))) : Cm X ρ .Eq a b (decide (s = t)) :=
  ⟨_, _, _, op_eq, fun F H x y e hx hy Q q => ⟨by rw [ri_str hx, ri_str hy]; rfl, by
    have z : decide (x = y) = decide (s = t) := by rw [ri_str hx, ri_str hy]; simp
    rw [z]; exact fin_bl e q⟩, ha, hb, nomark _⟩
theorem cm_neS {s t : Str} (ha : EV X ρ a (.v (.str s))) (hb : EV X ρ b (.v (.str t))) : Cm X ρ .NotEq a b (!decide (s = t)) :=
  ⟨_, _, _, op_ne, fun F H x y e hx hy Q q => ⟨by rw [ri_str hx, ri_str hy]; rfl, by
    have z : decide (x = y) = decide (s = t) := by rw [ri_str hx, ri_str hy]; simp
    rw [z]; exact fin_bl e q⟩, ha, hb, nomark _⟩
/-- is None -/
def D.isN : D → Bool
  | .non => true
  | .opq v => decide (v = .non)
  | _ => false
theorem rep_isN {F : Hp} {x : V} {d : D} (h : Rep K F d x) : decide (x = .non) = d.isN := by
  cases d with
  | non => rw [rep_non.mp h]; rfl
  | bl _ => rw [rep_bl.mp h]; rfl
  | int _ => rw [rep_int.mp h]; rfl
  | str _ => rw [rep_str.mp h]; rfl
  | lst _ => obtain ⟨_, _, rfl, _⟩ := rep_lst.mp h; rfl
  | scr _ => unfold Rep at h; obtain ⟨_, _, rfl, _⟩ := h; rfl
  | tup _ => obtain ⟨_, _, rfl, _⟩ := rep_tup.mp h; rfl
  | dk _ _ => unfold Rep at h; obtain ⟨_, _, rfl, _⟩ := h; rfl
  | opq v => unfold Rep at h; rw [h]; rfl
  | exc _ _ _ _ => unfold Rep at h; rw [h.1]; rfl
theorem cm_isN (ha : EV X ρ a (.v d)) (hb : EV X ρ b (.v .non)) : Cm X ρ .Is a b d.isN :=
  ⟨_, .v d, .v .non, op_isN, fun F H x y e hx hy Q q => ⟨(rep_non (K := X.K) (F := F)).mp hy, by rw [rep_isN (K := X.K) (F := F) hx]; exact fin_bl e q⟩, ha, hb, nomark _⟩
theorem cm_notN (ha : EV X ρ a (.v d)) (hb : EV X ρ b (.v .non)) : Cm X ρ .IsNot a b (!d.isN) :=
  ⟨_, .v d, .v .non, op_notN, fun F H x y e hx hy Q q => ⟨(rep_non (K := X.K) (F := F)).mp hy, by rw [rep_isN (K := X.K) (F := F) hx]; exact fin_bl e q⟩, ha, hb, nomark _⟩

/-! #### tests -/
theorem tv_val {k : Bool} (h : EV X ρ e (.v (.bl k))) (he : ∀ whole, isTrue e X.env whole = (do let v ← whole; standAt e.pos; holding [v] (truthy v)) := by intro _; rfl) : TV X ρ e k :=
  TV.of (pt_val pe_wp he) fun F0 H0 F H σ S Q q => h F0 H0 F H σ S _ fun v F' H' g r => ⟨k, ri_bl r.ri, q F' H' g⟩
theorem tv_not {k : Bool} (h : TV X ρ a k) : TV X ρ (.UnaryOp .Not a pos) (!k) :=
  TV.of (pt_not pt_wp) fun F0 H0 F H σ S Q q => h F0 H0 F H σ S _ fun F' H' g => q F' H' g
theorem WV.tv {k : Bool} (h : WV X ρ e k) : TV X ρ e k := TV.of (PW.pt pw_wp) h
theorem wv_and1 {k : Bool} (h : TV X ρ a k) : WV X ρ (.BoolOp .And [a] pos) k := WV.of (pw_and1 pt_wp) h
theorem wv_or1 {k : Bool} (h : TV X ρ a k) : WV X ρ (.BoolOp .Or [a] pos) k := WV.of (pw_or1 pt_wp) h
theorem wv_and {k l : Bool} {rest : List Expr} (h : TV X ρ a k) (h2 : k = true → WV X ρ (.BoolOp .And (b :: rest) pos) l) : WV X ρ (.BoolOp .And (a :: b :: rest) pos) (k && l) :=
  WV.of (pw_and pt_wp pw_wp) fun F0 H0 F H σ S Q q => h F0 H0 F H σ S _ fun F' H' g => by
    cases k with
    | true => exact h2 rfl F0 H0 F' H' σ (S.grow g) _ fun F2 H2 g2 => q F2 H2 (g.trans g2)
    | false => exact q F' H' g
theorem wv_or {k l : Bool} {rest : List Expr} (h : TV X ρ a k) (h2 : k = false → WV X ρ (.BoolOp .Or (b :: rest) pos) l) : WV X ρ (.BoolOp .Or (a :: b :: rest) pos) (k || l) :=
  WV.of (pw_or pt_wp pw_wp) fun F0 H0 F H σ S Q q => h F0 H0 F H σ S _ fun F' H' g => by
    cases k with
    | true => exact q F' H' g
    | false => exact h2 rfl F0 H0 F' H' σ (S.grow g) _ fun F2 H2 g2 => q F2 H2 (g.trans g2)
/-- the value of a or b, a and b, not a, where bools stand -/
theorem ev_not {k : Bool} (h : EV X ρ a (.v (.bl k))) : EV X ρ (.UnaryOp .Not a pos) (.v (.bl (!k))) :=
  EV.of (pe_not pe_wp) fun F0 H0 F H σ S Q q => h F0 H0 F H σ S _ fun v F' H' g r => ⟨k, ri_bl r.ri, q _ F' H' g rk_bl⟩
theorem ev_one {op : PySem.BoolOp} (h : EV X ρ a kd) : EV X ρ (.BoolOp op [a] pos) kd := EV.of (pe_one pe_wp) h
theorem ev_and {k l : Bool} {rest : List Expr} (h : EV X ρ a (.v (.bl k))) (h2 : k = true → EV X ρ (.BoolOp .And (b :: rest) pos) (.v (.bl l))) : EV X ρ (.BoolOp .And (a :: b :: rest) pos) (.v (.bl (k && l))) :=
  EV.of (pe_and pe_wp pe_wp) fun F0 H0 F H σ S Q q => h F0 H0 F H σ S _ fun v F' H' g r => ⟨k, ri_bl r.ri, by
    cases k with
    | true => exact h2 rfl F0 H0 F' H' σ (S.grow g) _ fun v2 F2 H2 g2 r2 => q v2 F2 H2 (g.trans g2) (r2.pre fun z h => g.h.free h)
    | false => exact q _ F' H' g rk_bl⟩
theorem ev_or {k l : Bool} {rest : List Expr} (h : EV X ρ a (.v (.bl k))) (h2 : k = false → EV X ρ (.BoolOp .Or (b :: rest) pos) (.v (.bl l))) : EV X ρ (.BoolOp .Or (a :: b :: rest) pos) (.v (.bl (k || l))) :=
  EV.of (pe_or pe_wp pe_wp) fun F0 H0 F H σ S Q q => h F0 H0 F H σ S _ fun v F' H' g r => ⟨k, ri_bl r.ri, by
    cases k with
    | true => exact q _ F' H' g rk_bl
    | false => exact h2 rfl F0 H0 F' H' σ (S.grow g) _ fun v2 F2 H2 g2 r2 => q v2 F2 H2 (g.trans g2) (r2.pre fun z h => g.h.free h)⟩
theorem ev_if {k : Bool} (h : TV X ρ c k) (h1 : k = true → EV X ρ a kd) (h2 : k = false → EV X ρ b kd) : EV X ρ (.IfExp c a b pos) kd :=
  EV.of (pe_ifExp pt_wp pe_wp pe_wp) fun F0 H0 F H σ S Q q => h F0 H0 F H σ S _ fun F' H' g => by
    cases k with
    | true => exact h1 rfl F0 H0 F' H' σ (S.grow g) _ fun v2 F2 H2 g2 r2 => q v2 F2 H2 (g.trans g2) (r2.pre fun z h => g.h.free h)
    | false => exact h2 rfl F0 H0 F' H' σ (S.grow g) _ fun v2 F2 H2 g2 r2 => q v2 F2 H2 (g.trans g2) (r2.pre fun z h => g.h.free h)
end
end DL

end

section
set_option Elab.async false
set_option linter.all false
set_option maxRecDepth 100000
set_option maxHeartbeats 2000000
/-! Arguments, displays, places, built-ins, own defs, comprehensions over data. -/
namespace DL
open PySem PySem.Spec PyProof.Rows L2

section
variable {X : Cx} {N : List Str} {nm : List (Str × NameKind)} {ρ : Rho} {K : PySem.W.Frag} {e a b c : Expr} {es : List Expr} {kd ka kb kc : Kd} {pos p : Pos} {d : D} {ds : List D}

/-! #### argument lists -/
theorem av_nil : AV X ρ [] [] := fun F0 H0 F H σ S Q q => ⟨tNil, pa_nil, q [] F H (Grow.refl S.sub) (reps_nil.mpr rfl)⟩
theorem av_cons (h : EV X ρ e (.v d)) (h2 : AV X ρ es ds) (hs : starEach (e :: es) X.env = (false, eval e X.env) :: starEach es X.env := by rfl) : AV X ρ (e :: es) (d :: ds) := fun F0 H0 F H σ S Q q => by
  refine ⟨_, pa_cons pe_wp pa_wp hs, ?_⟩
  refine h F0 H0 F H σ S _ fun v F1 H1 g1 r1 => ?_
  refine h2 F0 H0 F1 H1 σ (S.grow g1) _ fun vs F2 H2 g2 r2 => ?_
  exact q _ F2 H2 (g1.trans g2) (reps_cons.mpr ⟨v, vs, rfl, Rep.mono g2.f d v r1, r2⟩)
theorem ev_tup {k : Nat} (h : AV X ρ es ds) (hl : ds.length ≤ 1000000) : EV X ρ (.Tuple es k pos) (.v (.tup ds)) := fun F0 H0 F H σ S Q q => by
  refine ⟨_, pe_tup pa_wp, ?_⟩
  refine h F0 H0 F H σ S _ fun vs F1 H1 g1 r1 => ?_
  refine ⟨by rw [r1.length, sizeLine_eq]; omega, fun p hp => ?_⟩
  exact q _ _ _ (g1.trans (Grow.newF g1.s hp)) (rep_tup.mpr ⟨p, vs, rfl, SqT.of upd_same, r1.mono (same_new (g1.s.free hp))⟩)
theorem ev_lst (h : AV X ρ es ds) (hl : ds.length ≤ 1000000) : EV X ρ (.List es pos) (.nl ds) := fun F0 H0 F H σ S Q q => by
  refine ⟨_, pe_lst pa_wp, ?_⟩
  refine h F0 H0 F H σ S _ fun vs F1 H1 g1 r1 => ?_
  refine ⟨by rw [r1.length, sizeLine_eq]; omega, fun p hp => ?_⟩
  exact q _ _ _ (g1.trans (Grow.newO g1.s hp)) ⟨p, vs, rfl, g1.h.free hp, g1.s.free hp, upd_same, r1⟩

/-! #### a value, looked at -/
theorem ri_ll {F H : Hp} {x : V} (h : RI K F H x (.ll ds)) : ∃ a xs, x = .ref a ∧ H a = some (.lst xs) ∧ Reps K F ds xs := h
theorem ri_sl {F H : Hp} {x : V} (h : RI K F H x (.sl ds)) : ∃ a xs, x = .ref a ∧ SqL K H a xs ∧ Reps K F ds xs := h
theorem ri_st {F H : Hp} {x : V} (h : RI K F H x (.st ds)) : ∃ a xs, x = .ref a ∧ SqT K H a xs ∧ Reps K F ds xs := h
theorem ri_dq {F H : Hp} {x : V} {kvs : List (Key × D)} (h : RI K F H x (.dq kvs)) : ∃ a vs, x = .ref a ∧ H a = some (.dK vs) ∧ RepK K F kvs vs := h

theorem ixN_lt {n : Nat} {i : Int} {j : Nat} (h : ixN n i = some j) : j < n := (ixN_seq h).2.1
theorem atI_reps {F : Hp} {xs : List V} {i : Int} (r : Reps K F ds xs) (h : atI ds i = some d) : ∃ x, atI xs i = some x ∧ Rep K F d x := by
  unfold atI at *
  rw [r.length]
  cases e : ixN ds.length i with
  | none => rw [e] at h; cases h
  | some j =>
    rw [e] at h
    exact r.get h
theorem ev_ixL {i : Int} (ha : EV X ρ a (.sl ds)) (hb : EV X ρ b (.v (.int i))) (h : atI ds i = some d) (hs : PlainIx b := by exact fun _ _ => rfl) : EV X ρ (.Subscript a b pos) (.v d) :=
  EV.of (pe_ix ix_list pe_wp pe_wp hs) (ED.op ha hb fun F H x y e hx hy Q q => by
    obtain ⟨l, xs, rfl, hl, r⟩ := ri_sl hx
    obtain ⟨z, h1, h2⟩ := atI_reps r h
    exact ⟨l, xs, i, z, rfl, ri_int hy, hl, h1, q z F H (Grow.refl e) h2⟩)
theorem ev_ixT {i : Int} (ha : EV X ρ a (.st ds)) (hb : EV X ρ b (.v (.int i))) (h : atI ds i = some d) (hs : PlainIx b := by exact fun _ _ => rfl) : EV X ρ (.Subscript a b pos) (.v d) :=
  EV.of (pe_ix ix_tup pe_wp pe_wp hs) (ED.op ha hb fun F H x y e hx hy Q q => by
    obtain ⟨l, xs, rfl, hl, r⟩ := ri_st hx
    obtain ⟨z, h1, h2⟩ := atI_reps r h
    exact ⟨l, xs, i, z, rfl, ri_int hy, hl, h1, q z F H (Grow.refl e) h2⟩)
theorem ev_ixS {i : Int} {s : Str} {k : Nat} (ha : EV X ρ a (.v (.str s))) (hb : EV X ρ b (.v (.int i))) (hl : s.length ≤ sizeLine) (h : atI s.cps.toList i = some k) (hs : PlainIx b := by exact fun _ _ => rfl) : EV X ρ (.Subscript a b pos) (.v (.str ⟨#[k]⟩)) :=
  EV.of (pe_ix ix_str pe_wp pe_wp hs) (ED.op ha hb fun F H x y e hx hy Q q => ⟨s, i, k, ri_str hx, ri_int hy, hl, h, fin_str e q⟩)

/-! #### built-ins of one argument -/
def CbD (K : PySem.W.Frag) (r : List V → Hp → VK → Prop) (ka kc : Kd) : Prop := ∀ (F H : Hp) (x : V), Same F H → RI K F H x ka → ∀ Q : VK, (∀ v F' H', Grow F H F' H' → RK K H F' H' v kc → Q v H') → r [x] H Q
theorem ED.cb {ta : TE} {r : List V → Hp → VK → Prop} (ha : ED K ρ ta ka) (hr : CbD K r ka kc) : ED K ρ (tCB r (tCons ta tNil)) kc := fun F0 H0 F H σ S Q q => by
  refine ha F0 H0 F H σ S _ fun x F1 H1 g1 r1 => ?_
  exact hr F1 H1 x g1.s r1.ri Q fun v F3 H3 g3 r3 => q v F3 H3 (g1.trans g3) (r3.pre fun z h => g1.h.free h)
def CbD2 (K : PySem.W.Frag) (r : List V → Hp → VK → Prop) (ka kb kc : Kd) : Prop := ∀ (F H : Hp) (x y : V), Same F H → RI K F H x ka → RI K F H y kb → ∀ Q : VK, (∀ v F' H', Grow F H F' H' → RK K H F' H' v kc → Q v H') → r [x, y] H Q
theorem ED.cb2 {ta tb : TE} {r : List V → Hp → VK → Prop} (ha : ED K ρ ta ka) (hb : ED K ρ tb kb) (hr : CbD2 K r ka kb kc) : ED K ρ (tCB r (tCons ta (tCons tb tNil))) kc := fun F0 H0 F H σ S Q q => by
  refine ha F0 H0 F H σ S _ fun x F1 H1 g1 r1 => ?_
  refine hb F0 H0 F1 H1 σ (S.grow g1) _ fun y F2 H2 g2 r2 => ?_
  exact hr F2 H2 x y g2.s (r1.grow g2).ri r2.ri Q fun v F3 H3 g3 r3 => q v F3 H3 ((g1.trans g2).trans g3) (r3.pre fun z h => (g1.h.trans g2.h).free h)
/-- f(e), f a built-in function; T(e), T a built-in type -/
theorem ev_cB {x : Str} {id : String} {r : List V → Hp → VK → Prop} (B : Bd X N nm) (hc : CallR X (.builtin id) r) (hr : CbD X.K r ka kc) (hg : (x, NameKind.globalImplicit) ∈ nm) (hm : X.mg x = none) (hv : bootBuiltins x = some (.builtin id)) (ha : EV X ρ e ka)
    (hn : x ≠ "__name__" := by decide) (hdb : (x == ("__debug__" : Str)) = false := by decide) (hs : starEach (e :: []) X.env = (false, eval e X.env) :: starEach [] X.env := by rfl) : EV X ρ (.Call (.Name x p) [e] [] pos) kc :=
  EV.of (pe_callB hc (B.gl hg) hm hv (pa_cons pe_wp pa_nil hs) hn hdb hs) (ED.cb ha hr)
theorem ev_cT {x : Str} {T : String} {r : List V → Hp → VK → Prop} (B : Bd X N nm) (hc : CallR X (.type T) r) (hr : CbD X.K r ka kc) (hg : (x, NameKind.globalImplicit) ∈ nm) (hm : X.mg x = none) (hv : bootBuiltins x = some (.type T)) (ha : EV X ρ e ka)
    (hn : x ≠ "__name__" := by decide) (hdb : (x == ("__debug__" : Str)) = false := by decide) (hs : starEach (e :: []) X.env = (false, eval e X.env) :: starEach [] X.env := by rfl) : EV X ρ (.Call (.Name x p) [e] [] pos) kc :=
  EV.of (pe_callTy hc (B.gl hg) hm hv (pa_cons pe_wp pa_nil hs) hn hdb hs) (ED.cb ha hr)
/-- f(a, b), f a module's name for a built-in function -/
theorem ev_cF2 {x : Str} {id : String} {r : List V → Hp → VK → Prop} (B : Bd X N nm) (hc : CallR X (.builtin id) r) (hr : CbD2 X.K r ka kb kc) (hg : (x, NameKind.globalImplicit) ∈ nm) (hm : X.mg x = some (.builtin id)) (ha : EV X ρ a ka) (hb : EV X ρ b kb)
    (hdb : (x == ("__debug__" : Str)) = false := by decide) (hs : starEach (a :: [b]) X.env = (false, eval a X.env) :: starEach [b] X.env := by rfl) (hs2 : starEach (b :: []) X.env = (false, eval b X.env) :: starEach [] X.env := by rfl)
    (hpl : (backTo pos (starEach [b] X.env)).any (·.1) = false := by rfl) : EV X ρ (.Call (.Name x p) [a, b] [] pos) kc :=
  EV.of (pe_callBfun hc (B.gl hg) hm (pa_cons pe_wp (pa_cons pe_wp pa_nil hs2) hs) hdb hs hpl) (ED.cb2 ha hb hr)
theorem ev_cB2 {x : Str} {id : String} {r : List V → Hp → VK → Prop} (B : Bd X N nm) (hc : CallR X (.builtin id) r) (hr : CbD2 X.K r ka kb kc) (hg : (x, NameKind.globalImplicit) ∈ nm) (hm : X.mg x = none) (hv : bootBuiltins x = some (.builtin id)) (ha : EV X ρ a ka) (hb : EV X ρ b kb)
    (hn : x ≠ "__name__" := by decide) (hdb : (x == ("__debug__" : Str)) = false := by decide) (hs : starEach (a :: [b]) X.env = (false, eval a X.env) :: starEach [b] X.env := by rfl) (hs2 : starEach (b :: []) X.env = (false, eval b X.env) :: starEach [] X.env := by rfl)
    (hpl : (backTo pos (starEach [b] X.env)).any (·.1) = false := by rfl) : EV X ρ (.Call (.Name x p) [a, b] [] pos) kc :=
  EV.of (pe_callB hc (B.gl hg) hm hv (pa_cons pe_wp (pa_cons pe_wp pa_nil hs2) hs) hn hdb hs hpl) (ED.cb2 ha hb hr)

theorem cb_lenL : CbD X.K (fun xs H Q => ∃ p ys, xs = [.ref p] ∧ (SqL X.K H p ys ∨ SqT X.K H p ys) ∧ Q (.int ys.length) H) (.sl ds) (.v (.int ds.length)) := fun F H x e hx Q q => by
  obtain ⟨l, xs, rfl, hl, r⟩ := ri_sl hx
  exact ⟨l, xs, rfl, .inl hl, by rw [r.length]; exact fin_int e q⟩
theorem cb_lenT : CbD X.K (fun xs H Q => ∃ p ys, xs = [.ref p] ∧ (SqL X.K H p ys ∨ SqT X.K H p ys) ∧ Q (.int ys.length) H) (.st ds) (.v (.int ds.length)) := fun F H x e hx Q q => by
  obtain ⟨l, xs, rfl, hl, r⟩ := ri_st hx
  exact ⟨l, xs, rfl, .inr hl, by rw [r.length]; exact fin_int e q⟩
theorem cb_lenS {s : Str} (h : s.length ≤ sizeLine) : CbD X.K (fun xs H Q => ∃ z, xs = [.str z] ∧ z.length ≤ sizeLine ∧ Q (.int z.length) H) (.v (.str s)) (.v (.int s.length)) := fun F H x e hx Q q => ⟨s, by rw [ri_str hx], h, fin_int e q⟩
theorem cb_int {i : Int} : CbD K (fun xs H Q => (∃ i, xs = [.int i] ∧ Q (.int i) H) ∨ ∃ k, xs = [.bl k] ∧ Q (.int (if k then 1 else 0)) H) (.v (.int i)) (.v (.int i)) := fun F H x e hx Q q => .inl ⟨i, by rw [ri_int hx], fin_int e q⟩
theorem cb_intB {k : Bool} : CbD K (fun xs H Q => (∃ i, xs = [.int i] ∧ Q (.int i) H) ∨ ∃ k, xs = [.bl k] ∧ Q (.int (if k then 1 else 0)) H) (.v (.bl k)) (.v (.int (if k then 1 else 0))) := fun F H x e hx Q q => .inr ⟨k, by rw [ri_bl hx], fin_int e q⟩
theorem cb_abs {i : Int} : CbD K (fun xs H Q => ∃ i, xs = [.int i] ∧ Q (.int (if i < 0 then -i else i)) H) (.v (.int i)) (.v (.int (if i < 0 then -i else i))) := fun F H x e hx Q q => ⟨i, by rw [ri_int hx], fin_int e q⟩
theorem cb_str {i : Int} (h : i.natAbs.log2 < 1920) : CbD K (fun xs H Q => ∃ i, xs = [.int i] ∧ i.natAbs.log2 < 1920 ∧ Q (.str (toString i)) H) (.v (.int i)) (.v (.str (toString i))) := fun F H x e hx Q q => ⟨i, by rw [ri_int hx], h, fin_str e q⟩
theorem cb_listL : CbD X.K (fun xs H Q => ∃ p ys, xs = [.ref p] ∧ (SqL X.K H p ys ∨ SqT X.K H p ys) ∧ ∀ l, H l = none → Q (.ref l) (upd H l (.lst ys))) (.sl ds) (.nl ds) := fun F H x e hx Q q => by
  obtain ⟨l, xs, rfl, hl, r⟩ := ri_sl hx
  exact ⟨l, xs, rfl, .inl hl, fun p hp => q _ _ _ (Grow.newO e hp) ⟨p, xs, rfl, hp, e.free hp, upd_same, r⟩⟩
theorem cb_listT : CbD X.K (fun xs H Q => ∃ p ys, xs = [.ref p] ∧ (SqL X.K H p ys ∨ SqT X.K H p ys) ∧ ∀ l, H l = none → Q (.ref l) (upd H l (.lst ys))) (.st ds) (.nl ds) := fun F H x e hx Q q => by
  obtain ⟨l, xs, rfl, hl, r⟩ := ri_st hx
  exact ⟨l, xs, rfl, .inr hl, fun p hp => q _ _ _ (Grow.newO e hp) ⟨p, xs, rfl, hp, e.free hp, upd_same, r⟩⟩
theorem cb_tupL : CbD X.K (fun xs H Q => ∃ p ys, xs = [.ref p] ∧ ((SqL X.K H p ys ∧ ∀ l, H l = none → Q (.ref l) (upd H l (.tup ys))) ∨ (SqT X.K H p ys ∧ Q (.ref p) H))) (.sl ds) (.v (.tup ds)) := fun F H x e hx Q q => by
  obtain ⟨l, xs, rfl, hl, r⟩ := ri_sl hx
  exact ⟨l, xs, rfl, .inl ⟨hl, fun p hp => q _ _ _ (Grow.newF e hp) (rep_tup.mpr ⟨p, xs, rfl, SqT.of upd_same, r.mono (same_new (e.free hp))⟩)⟩⟩
theorem cb_tupT : CbD X.K (fun xs H Q => ∃ p ys, xs = [.ref p] ∧ ((SqL X.K H p ys ∧ ∀ l, H l = none → Q (.ref l) (upd H l (.tup ys))) ∨ (SqT X.K H p ys ∧ Q (.ref p) H))) (.v (.tup ds)) (.v (.tup ds)) := fun F H x e hx Q q => by
  obtain ⟨l, xs, rfl, hl, r⟩ := rep_tup.mp (show Rep X.K F (.tup ds) x from hx)
  exact ⟨l, xs, rfl, .inr ⟨sqT_mono e hl, q _ F H (Grow.refl e) (rep_tup.mpr ⟨l, xs, rfl, hl, r⟩)⟩⟩
theorem cb_sorted {ns ms : List Int} (hp : ∀ ks : List Int, ks.Perm ns → ks.Pairwise (· ≤ ·) → ks = ms) : CbD X.K (rSortedI X.K) (.sl (ns.map D.int)) (.nl (ms.map D.int)) := fun F H x e hx Q q => by
  obtain ⟨l, xs, rfl, hl, r⟩ := ri_sl hx
  have z := r.ints
  subst z
  refine ⟨l, ns, rfl, hl, fun ks p h1 h2 hn => ?_⟩
  have z := hp ks h1 h2
  subst z
  exact q _ _ _ (Grow.newO e hn) ⟨p, _, rfl, hn, e.free hn, upd_same, reps_ints _⟩
theorem cb_min {ns : List Int} {m : Int} (h0 : ns ≠ []) (hm : ∀ k, k ∈ ns → (∀ y, y ∈ ns → k ≤ y) → k = m) : CbD X.K (rMin X.K) (.sl (ns.map D.int)) (.v (.int m)) := fun F H x e hx Q q => by
  obtain ⟨l, xs, rfl, hl, r⟩ := ri_sl hx
  have z := r.ints
  subst z
  refine ⟨l, ns, rfl, hl, List.length_pos_iff.mpr h0, fun k h1 h2 => ?_⟩
  have z := hm k h1 h2
  subst z
  exact fin_int e q
theorem cb_max {ns : List Int} {m : Int} (h0 : ns ≠ []) (hm : ∀ k, k ∈ ns → (∀ y, y ∈ ns → y ≤ k) → k = m) : CbD X.K (rMax X.K) (.sl (ns.map D.int)) (.v (.int m)) := fun F H x e hx Q q => by
  obtain ⟨l, xs, rfl, hl, r⟩ := ri_sl hx
  have z := r.ints
  subst z
  refine ⟨l, ns, rfl, hl, List.length_pos_iff.mpr h0, fun k h1 h2 => ?_⟩
  have z := hm k h1 h2
  subst z
  exact fin_int e q
theorem reps_bls {F : Hp} : ∀ {bs : List Bool} {xs : List V}, Reps K F (bs.map D.bl) xs → xs = bs.map V.bl
  | [], _, h => by rw [List.map_nil, reps_nil] at h; exact h
  | n :: ns, _, h => by
    rw [List.map_cons, reps_cons] at h
    obtain ⟨x, r, rfl, a, t⟩ := h
    rw [rep_bl.mp a, reps_bls t]; rfl
theorem cb_all {bs : List Bool} : CbD X.K (rAll X.K) (.sl (bs.map D.bl)) (.v (.bl (bs.all id))) := fun F H x e hx Q q => by
  obtain ⟨l, xs, rfl, hl, r⟩ := ri_sl hx
  rw [reps_bls r] at hl
  exact ⟨l, bs, rfl, hl, fin_bl e q⟩
theorem cb_any {bs : List Bool} : CbD X.K (rAny X.K) (.sl (bs.map D.bl)) (.v (.bl (bs.any id))) := fun F H x e hx Q q => by
  obtain ⟨l, xs, rfl, hl, r⟩ := ri_sl hx
  rw [reps_bls r] at hl
  exact ⟨l, bs, rfl, hl, fin_bl e q⟩
theorem cb_sum {ns : List Int} : CbD X.K (rSum X.K) (.sl (ns.map D.int)) (.v (.int ns.sum)) := fun F H x e hx Q q => by
  obtain ⟨l, xs, rfl, hl, r⟩ := ri_sl hx
  rw [r.ints] at hl
  exact ⟨l, ns, rfl, hl, fin_int e q⟩
theorem cb_gcd {i j : Int} : CbD2 K rGcd (.v (.int i)) (.v (.int j)) (.v (.int ((Nat.gcd i.natAbs j.natAbs : Nat) : Int))) := fun F H x y e hx hy Q q => ⟨i, j, by rw [ri_int hx, ri_int hy], fin_int e q⟩

/-! #### sequences put together -/
theorem ev_cat {es fs : List D} (ha : EV X ρ a (.ll es)) (hb : EV X ρ b (.ll fs)) (hl : es.length + fs.length ≤ sizeLine) : EV X ρ (.BinOp a .Add b pos) (.nl (es ++ fs)) :=
  ev_op op_cat (fun F H x y e hx hy Q q => by
    obtain ⟨l, xs, rfl, h1, r1⟩ := ri_ll hx
    obtain ⟨m, ys, rfl, h2, r2⟩ := ri_ll hy
    exact ⟨l, m, xs, ys, rfl, rfl, h1, h2, by rw [r1.length, r2.length]; exact hl, fun p hp => q _ _ _ (Grow.newO e hp) ⟨p, _, rfl, hp, e.free hp, upd_same, r1.app r2⟩⟩) ha hb
theorem reps_rep {F : Hp} {xs : List V} (r : Reps K F ds xs) : ∀ n : Nat, Reps K F (List.replicate n ds).flatten (List.replicate n xs).flatten
  | 0 => by simp [reps_nil]
  | n + 1 => by
    rw [List.replicate_succ, List.replicate_succ, List.flatten_cons, List.flatten_cons]
    exact r.app (reps_rep r n)
theorem ev_rep {i : Int} (ha : EV X ρ a (.ll ds)) (hb : EV X ρ b (.v (.int i))) (h1 : i < 2 ^ 62) (h2 : -(2 ^ 62) < i) (hl : ds.length * i.toNat ≤ sizeLine) : EV X ρ (.BinOp a .Mult b pos) (.nl (List.replicate i.toNat ds).flatten) :=
  ev_op op_rep (fun F H x y e hx hy Q q => by
    obtain ⟨l, xs, rfl, h1, r1⟩ := ri_ll hx
    exact ⟨l, i, xs, rfl, ri_int hy, h1, by omega, by omega, by rw [r1.length]; exact hl, fun p hp => q _ _ _ (Grow.newO e hp) ⟨p, _, rfl, hp, e.free hp, upd_same, reps_rep r1 _⟩⟩) ha hb
theorem ev_catT {es fs : List D} (ha : EV X ρ a (.v (.tup es))) (hb : EV X ρ b (.v (.tup fs))) (h0 : es ≠ []) (hl : es.length + fs.length ≤ sizeLine) : EV X ρ (.BinOp a .Add b pos) (.v (.tup (es ++ fs))) :=
  ev_op op_catT (fun F H x y e hx hy Q q => by
    obtain ⟨l, xs, rfl, h1, r1⟩ := rep_tup.mp (show Rep X.K F (.tup es) x from hx)
    obtain ⟨m, ys, rfl, h2, r2⟩ := rep_tup.mp (show Rep X.K F (.tup fs) y from hy)
    refine ⟨l, m, xs, ys, rfl, rfl, sqT_mono e h1, sqT_mono e h2, fun z => h0 (by have := r1.length; rw [z] at this; exact List.length_eq_zero_iff.mp this.symm), by rw [r1.length, r2.length]; exact hl, ?_⟩
    first
      | (refine ⟨fun hy0 => ?_, fun _ p hp => ?_⟩
         · have : fs = [] := by have := r2.length; rw [hy0] at this; exact List.length_eq_zero_iff.mp this.symm
           subst this
           rw [List.append_nil] at q
           exact q _ F H (Grow.refl e) (rep_tup.mpr ⟨l, xs, rfl, h1, r1⟩)
         · exact q _ _ _ (Grow.newF e hp) (rep_tup.mpr ⟨p, _, rfl, SqT.of upd_same, (r1.app r2).mono (same_new (e.free hp))⟩))) ha hb
end
end DL

end

section
set_option Elab.async false
set_option linter.all false
set_option maxRecDepth 100000
set_option maxHeartbeats 2000000
/-! Own defs, comprehensions, repr, deep equality, membership, slices over data. -/
namespace DL
open PySem PySem.Spec PyProof.Rows L2

/-! ### own defs -/
inductive Res where
  | val (kd : Kd)
  | ex (C : Addr) (fs : List (Str × D))
/-- the promise of a def over data: T tells its result -/
def spD (K : PySem.W.Frag) (T : List D → Res → Prop) : Sp := fun vs H Q E => ∃ ds F r, Same F H ∧ Reps K F ds vs ∧ T ds r ∧
  match r with
  | .val kd => ∀ v F' H', Grow F H F' H' → RK K H F' H' v kd → Q v H'
  | .ex C fs => ∀ dd ws F' H', Grow F H F' H' → F' dd = some (.xd ws) → RepF K F' fs ws → E (.ref C) (some dd) H'
structure Fd (P : Program) (w : World) (K : PySem.W.Frag) (mg : Str → Option Value) (base : Heap) (x : Str) (k : Nat) (T : List D → Res → Prop) : Prop where
  ex : ∃ f fd ps, FnG P w K mg base k f fd ps (spD K T) ∧ mg x = some (.ref f) ∧ PySem.W.keepIn K (.ref f) = true ∧ Binds K fd ps []
abbrev FdX (X : Cx) (x : Str) (k : Nat) (T : List D → Res → Prop) : Prop := Fd X.prog X.w X.K X.mg X.base x k T
def tCallG (sp : Sp) (E : L2.St → XK) (t : TA) : TE := fun σ H Q => t σ H fun vs H1 => sp vs H1 Q (E σ)
section
variable {X : Cx} {N : List Str} {nm : List (Str × NameKind)} {ρ : Rho} {K : PySem.W.Frag} {e a b c : Expr} {es : List Expr} {kd ka kb kc : Kd} {pos p : Pos} {d : D} {ds : List D}
theorem pe_callG {x : Str} {f : Addr} {fd : FuncData} {ps : List Str} {sp : Sp} {E : L2.St → XK} {k : Nat} {t : TA} (F : FnG X.prog X.w X.K X.mg X.base k f fd ps sp) (gd : X.A.guards = some []) (hr : Room k X.A) (hg : Gl X x) (hm : X.mg x = some (.ref f))
    (hk : PySem.W.keepIn X.K (.ref f) = true) (hb : Binds X.K fd ps []) (hx : ∀ σ, PassesAt (CX X.prog X.w) X σ (E σ)) (ha : PA X (e :: es) t) (hdb : (x == ("__debug__" : Str)) = false)
    (he : starEach (e :: es) X.env = (false, eval e X.env) :: starEach es X.env) (hpl : (backTo pos (starEach es X.env)).any (·.1) = false) : PE X (.Call (.Name x p) (e :: es) [] pos) (tCallG sp E t) := by
  constructor
  intro pins s σ H Q I h
  apply wpAny_Call_Name_kw
  refine ld_glob I hg hm ?_ hdb
  refine PySem.W.callWith_K (h₀ := X.base) I.ok.mod.kin hk (thn (ha.run pos pins s σ H _ I h) ?_) he hpl
  rintro us s1 ⟨vs, H1, I1, r, q⟩
  have q' : sp (vs ++ []) H1 Q (E σ) := by rw [List.append_nil]; exact q
  exact ⟨I1.kIn, runG F gd hr hb .nil (fun e s' z => hx σ pins H1 s1 e s' I1 z) I1 r q'⟩
theorem pe_callG0 {x : Str} {f : Addr} {fd : FuncData} {ps : List Str} {sp : Sp} {E : L2.St → XK} {k : Nat} (F : FnG X.prog X.w X.K X.mg X.base k f fd ps sp) (gd : X.A.guards = some []) (hr : Room k X.A) (hg : Gl X x) (hm : X.mg x = some (.ref f))
    (hk : PySem.W.keepIn X.K (.ref f) = true) (hb : Binds X.K fd ps []) (hx : ∀ σ, PassesAt (CX X.prog X.w) X σ (E σ)) (hdb : (x == ("__debug__" : Str)) = false) : PE X (.Call (.Name x p) [] [] pos) (tCallG sp E tNil) := by
  constructor
  intro pins s σ H Q I h
  apply wpAny_Call_Name_kw
  refine ld_glob I hg hm ?_ hdb
  have q' : sp ([] ++ []) H Q (E σ) := h
  exact PySem.W.callWith_K0 I.kIn hk (runG (us := []) F gd hr hb .nil (fun e s' z => hx σ pins H s e s' I z) I .nil q')
theorem passNone {σ : L2.St} : PassesAt (CX X.prog X.w) X σ E0 := fun _ _ _ _ _ _ h => by
  obtain ⟨_, _, _, _, _, _, _, _, _, _, _, _, z⟩ := h
  exact z.elim
/-- f(..), f an own def that gives a value here -/
theorem ev_call {x : Str} {k m : Nat} {T : List D → Res → Prop} (G : FdX X x k T) (B : Bd X N nm) (hr : Room m X.A) (hkm : k ≤ m) (hg : (x, NameKind.globalImplicit) ∈ nm) (ha : AV X ρ (e :: es) ds) (ht : T ds (.val kd))
    (hdb : (x == ("__debug__" : Str)) = false := by decide) (he : starEach (e :: es) X.env = (false, eval e X.env) :: starEach es X.env := by rfl) (hpl : (backTo pos (starEach es X.env)).any (·.1) = false := by rfl) :
    EV X ρ (.Call (.Name x p) (e :: es) [] pos) kd := by
  obtain ⟨f, fd, ps, F, hm, hk, hb⟩ := G.ex
  refine EV.of (pe_callG (E := fun _ => E0) F B.gd (hr.mono hkm) (B.gl hg) hm hk hb (fun σ => passNone) pa_wp hdb he hpl) fun F0 H0 F H σ S Q q => ?_
  refine ha F0 H0 F H σ S _ fun vs F1 H1 g1 r1 => ?_
  exact ⟨ds, F1, .val kd, g1.s, r1, ht, fun v F2 H2 g2 r2 => q v F2 H2 (g1.trans g2) (r2.pre fun z h => g1.h.free h)⟩
theorem ev_call0 {x : Str} {k m : Nat} {T : List D → Res → Prop} (G : FdX X x k T) (B : Bd X N nm) (hr : Room m X.A) (hkm : k ≤ m) (hg : (x, NameKind.globalImplicit) ∈ nm) (ht : T [] (.val kd))
    (hdb : (x == ("__debug__" : Str)) = false := by decide) : EV X ρ (.Call (.Name x p) [] [] pos) kd := by
  obtain ⟨f, fd, ps, F, hm, hk, hb⟩ := G.ex
  refine EV.of (pe_callG0 (E := fun _ => E0) F B.gd (hr.mono hkm) (B.gl hg) hm hk hb (fun σ => passNone) hdb) fun F0 H0 F H σ S Q q => ?_
  exact ⟨[], F, .val kd, S.sub, reps_nil.mpr rfl, ht, fun v F2 H2 g2 r2 => q v F2 H2 g2 r2⟩

/-! ### what a for walks -/
/-- iter walks the items ds -/
def IV (X : Cx) (ρ : Rho) (tg e : Expr) (ds : List D) : Prop := ∃ wi : TI, PI X tg e wi ∧ ∀ (F0 H0 F H : Hp) (σ : L2.St), Stt X.K F0 H0 F H σ ρ → ∀ R : It → Hp → Prop,
  (∀ (J : It) F1 H1, Grow F H F1 H1 →
    (∀ i F2 H2, Same F1 F2 → Same F2 H2 → i < ds.length → J.go i H2 ∧ ∀ x H', J.yld i H2 x H' → H' = H2 ∧ ∃ d, ds[i]? = some d ∧ Rep X.K F2 d x) →
    (∀ F2 H2, Same F1 F2 → Same F2 H2 → J.stop ds.length H2) → R J H1) → wi σ H R
theorem iv_list {tg : Expr} (h : EV X ρ e (.v (.lst ds))) : IV X ρ tg e ds := by
  refine ⟨iList X.K (wpE X e), pi_list pe_wp, fun F0 H0 F H σ S R q => ?_⟩
  refine h F0 H0 F H σ S _ fun v F1 H1 g r => ?_
  obtain ⟨x, xs, rfl, hl, rr⟩ := rep_lst.mp (show Rep X.K F1 (.lst ds) v from r)
  have hs : ∀ {F2 H2 : Hp}, Same F1 F2 → Same F2 H2 → SqL X.K H2 x xs := fun a b => SqL.of (b _ _ (a _ _ hl))
  refine ⟨x, rfl, ⟨xs, hs (Same.refl _) g.s⟩, q _ F1 H1 g (fun i F2 H2 sf sh hi => ?_) fun F2 H2 sf sh => ⟨xs, hs sf sh, by rw [rr.length]; exact Nat.le_refl _⟩⟩
  have hx : i < xs.length := by rw [rr.length]; exact hi
  refine ⟨⟨xs, xs[i], hs sf sh, by simp [hx]⟩, fun y H' yy => ⟨yy.1, ?_⟩⟩
  obtain ⟨d, h1, h2⟩ := rr.getV (yy.2 xs (hs sf sh))
  exact ⟨d, h1, Rep.mono sf d y h2⟩
theorem iv_scr {tg : Expr} (h : EV X ρ e (.v (.scr ds))) : IV X ρ tg e ds := by
  refine ⟨iList X.K (wpE X e), pi_list pe_wp, fun F0 H0 F H σ S R q => ?_⟩
  refine h F0 H0 F H σ S _ fun v F1 H1 g r => ?_
  have r' : Rep X.K F1 (.scr ds) v := r
  unfold Rep at r'
  obtain ⟨x, xs, rfl, hl, rr⟩ := r'
  have hs : ∀ {F2 H2 : Hp}, Same F1 F2 → Same F2 H2 → SqL X.K H2 x xs := fun a b => sqL_mono b (sqL_mono a hl)
  refine ⟨x, rfl, ⟨xs, hs (Same.refl _) g.s⟩, q _ F1 H1 g (fun i F2 H2 sf sh hi => ?_) fun F2 H2 sf sh => ⟨xs, hs sf sh, by rw [rr.length]; exact Nat.le_refl _⟩⟩
  have hx : i < xs.length := by rw [rr.length]; exact hi
  refine ⟨⟨xs, xs[i], hs sf sh, by simp [hx]⟩, fun y H' yy => ⟨yy.1, ?_⟩⟩
  obtain ⟨d, h1, h2⟩ := rr.getV (yy.2 xs (hs sf sh))
  exact ⟨d, h1, Rep.mono sf d y h2⟩
theorem iv_tup {tg : Expr} (h : EV X ρ e (.v (.tup ds))) : IV X ρ tg e ds := by
  refine ⟨iTup X.K (wpE X e), pi_tup pe_wp, fun F0 H0 F H σ S R q => ?_⟩
  refine h F0 H0 F H σ S _ fun v F1 H1 g r => ?_
  obtain ⟨x, xs, rfl, hl, rr⟩ := rep_tup.mp (show Rep X.K F1 (.tup ds) v from r)
  have hs : ∀ {F2 H2 : Hp}, Same F1 F2 → Same F2 H2 → SqT X.K H2 x xs := fun a b => sqT_mono b (sqT_mono a hl)
  refine ⟨x, rfl, ⟨xs, hs (Same.refl _) g.s⟩, q _ F1 H1 g (fun i F2 H2 sf sh hi => ?_) fun F2 H2 sf sh => ⟨xs, hs sf sh, by rw [rr.length]; exact Nat.le_refl _⟩⟩
  have hx : i < xs.length := by rw [rr.length]; exact hi
  refine ⟨⟨xs, xs[i], hs sf sh, by simp [hx]⟩, fun y H' yy => ⟨yy.1, ?_⟩⟩
  obtain ⟨d, h1, h2⟩ := rr.getV (yy.2 xs (hs sf sh))
  exact ⟨d, h1, Rep.mono sf d y h2⟩
/-- lo, lo + 1, .. -/
def rng (lo : Int) : Nat → List D
  | 0 => []
  | n + 1 => .int lo :: rng (lo + 1) n
theorem rng_length (lo : Int) : ∀ n, (rng lo n).length = n
  | 0 => rfl
  | n + 1 => by unfold rng; rw [List.length_cons, rng_length _ n]
theorem rng_get : ∀ (n i : Nat) (lo : Int), i < n → (rng lo n)[i]? = some (.int (lo + i))
  | 0, _, _, h => absurd h (Nat.not_lt_zero _)
  | n + 1, 0, lo, _ => by unfold rng; simp
  | n + 1, i + 1, lo, h => by
    unfold rng
    rw [List.getElem?_cons_succ, rng_get n i (lo + 1) (by omega)]
    congr 2
    omega
theorem iv_itr {tg : Expr} {lo : Int} {n : Nat} {wi : TI} (hp : PI X tg e wi) (hw : ∀ (F0 H0 F H : Hp) (σ : L2.St), Stt X.K F0 H0 F H σ ρ → ∀ R : It → Hp → Prop, (∀ F1 H1, Grow F H F1 H1 → R (Itr lo n) H1) → wi σ H R) : IV X ρ tg e (rng lo n) := by
  refine ⟨wi, hp, fun F0 H0 F H σ S R q => hw F0 H0 F H σ S R fun F1 H1 g => q _ F1 H1 g (fun i F2 H2 sf sh hi => ?_) fun F2 H2 _ _ => ?_⟩
  · rw [rng_length] at hi
    exact ⟨hi, fun x H' yy => ⟨yy.1, _, rng_get n i lo hi, rep_int.mpr yy.2⟩⟩
  · rw [rng_length]; exact Nat.le_refl n
theorem iv_range1 {tg : Expr} {j : Int} (B : Bd X N nm) (hg : (("range" : Str), NameKind.globalImplicit) ∈ nm) (hm : X.mg "range" = none) (h : EV X ρ a (.v (.int j))) (h1 : -(2 ^ 62) ≤ j) (h2 : j < 2 ^ 62) (hs : starEach [a] X.env = [(false, eval a X.env)] := by rfl) :
    IV X ρ tg (.Call (.Name "range" p) [a] [] pos) (rng 0 j.toNat) :=
  iv_itr (pi_range1 (B.gl hg) hm (pa_cons pe_wp pa_nil hs) hs) fun F0 H0 F H σ S R q => by
    refine h F0 H0 F H σ S _ fun v F1 H1 g r => ?_
    exact ⟨j, by rw [ri_int r.ri], h1, h2, q F1 H1 g⟩
theorem iv_range2 {tg : Expr} {i j : Int} (B : Bd X N nm) (hg : (("range" : Str), NameKind.globalImplicit) ∈ nm) (hm : X.mg "range" = none) (ha : EV X ρ a (.v (.int i))) (hb : EV X ρ b (.v (.int j))) (hz : -(2 ^ 62) ≤ i ∧ i < 2 ^ 62 ∧ -(2 ^ 62) ≤ j ∧ j < 2 ^ 62)
    (hs : starEach [a, b] X.env = [(false, eval a X.env), (false, eval b X.env)] := by rfl) (hs2 : starEach [b] X.env = [(false, eval b X.env)] := by rfl) :
    IV X ρ tg (.Call (.Name "range" p) [a, b] [] pos) (rng i (j - i).toNat) :=
  iv_itr (pi_range2 (B.gl hg) hm (pa_cons pe_wp (pa_cons pe_wp pa_nil hs2) (by rw [hs, hs2])) hs hs2) fun F0 H0 F H σ S R q => by
    refine ha F0 H0 F H σ S _ fun v F1 H1 g r => ?_
    refine hb F0 H0 F1 H1 σ (S.grow g) _ fun u F2 H2 g2 r2 => ?_
    exact ⟨i, j, by rw [ri_int r.ri, ri_int r2.ri], hz, q F2 H2 (g.trans g2)⟩

/-! ### list comprehensions -/
def wipeR (ρ : Rho) : List Nat → Rho
  | [] => ρ
  | v :: vs => (wipeR ρ vs).set v none
theorem Stt.wipe {F0 H0 F H : Hp} {σ : L2.St} (S : Stt K F0 H0 F H σ ρ) : ∀ vs : List Nat, Stt K F0 H0 F H (L2.wipe σ vs) (wipeR ρ vs)
  | [] => S
  | v :: vs => by unfold L2.wipe wipeR; exact (S.wipe vs).lose
/-- the target of a comprehension or a for: what it makes of the slots -/
inductive Tg (N : List Str) : Expr → D → Rho → Rho → Prop
  | nm {x : Str} {q : Pos} {d : D} {ρ ρ' : Rho} {i : Nat} (h : Up N ρ x i (some (.fz d)) ρ') : Tg N (.Name x q) d ρ ρ'
/-- the names of a comprehension's block -/
theorem lk_relS {sc scope : Scope} (hu : ∀ y ∈ scope.names, scope.names.lookup y.1 = some y.2) : ∀ x k, (x, k) ∈ scope.names → (relS scope sc).names.lookup x = some k ∨ (k = .free ∧ (relS scope sc).names.lookup x = some .cell) := by
  intro x k hm
  have h0 : scope.names.lookup x = some k := hu _ hm
  by_cases hk : k = .free
  · subst hk
    have key : ∀ (l : List (Str × NameKind)), l.lookup x = some .free →
        (l.map fun (n, k) => if (k == NameKind.free && sc.kind == .function && sc.names.lookup n == some .cell) then (n, NameKind.cell) else (n, k)).lookup x = some .free ∨
        (l.map fun (n, k) => if (k == NameKind.free && sc.kind == .function && sc.names.lookup n == some .cell) then (n, NameKind.cell) else (n, k)).lookup x = some .cell := by
      intro l
      induction l with
      | nil => intro h; simp at h
      | cons y r ih =>
        obtain ⟨n, k⟩ := y
        intro h
        rw [List.lookup_cons] at h
        rw [List.map_cons]
        cases hx : x == n with
        | true =>
          simp only [hx] at h
          cases h
          by_cases hc : (NameKind.free == NameKind.free && sc.kind == .function && sc.names.lookup n == some .cell) = true
          · right
            simp only [if_pos hc, List.lookup_cons, hx]
          · left
            simp only [if_neg hc, List.lookup_cons, hx]
        | false =>
          simp only [hx] at h
          have q := ih h
          by_cases hc : (k == NameKind.free && sc.kind == .function && sc.names.lookup n == some .cell) = true
          · simp only [if_pos hc, List.lookup_cons, hx]; exact q
          · simp only [if_neg hc, List.lookup_cons, hx]; exact q
    rcases key scope.names h0 with q | q
    · exact .inl q
    · exact .inr ⟨rfl, q⟩
  · exact .inl (lookup_relS_keep hk h0)
/-- X' is the context of a block of X -/
structure Bk (X X' : Cx) (N : List Str) (scope : Scope) : Prop where
  bd : Bd X' N scope.names
  prog : X'.prog = X.prog
  w : X'.w = X.w
  K : X'.K = X.K
  mg : X'.mg = X.mg
  base : X'.base = X.base
  A : X'.A = X.A
  calm : X'.calm = X.calm
theorem Fd.blk {X X' : Cx} {N : List Str} {scope : Scope} (k : Bk X X' N scope) {x : Str} {l : Nat} {T : List D → Res → Prop} (h : FdX X x l T) : FdX X' x l T := by
  unfold FdX
  rw [k.prog, k.w, k.K, k.mg, k.base]
  exact h
/-- the tests of a clause -/
def TsV (X : Cx) (ρ : Rho) (ifs : List Expr) (k : Bool) : Prop := TD X.K ρ (fun σ H Q => ∃ t, PTs X ifs t ∧ t σ H Q) k
theorem tsv_nil : TsV X ρ [] true := fun F0 H0 F H σ S Q q => ⟨tYes, pts_nil, q F H (Grow.refl S.sub)⟩
theorem tsv_one {k : Bool} (h : TV X ρ c k) : TsV X ρ [c] k := fun F0 H0 F H σ S Q q => ⟨_, pts_one pt_wp, h F0 H0 F H σ S Q q⟩
theorem pts_wp {ifs : List Expr} : PTs X ifs (fun σ H Q => ∃ t, PTs X ifs t ∧ t σ H Q) := ⟨fun pins s σ H Q I ⟨_, h, q⟩ => h.run pins s σ H Q I q⟩
def mapIf (ks : List Bool) (gs : List D) : List D := ((ks.zip gs).filter (·.1)).map (·.2)
end
end DL

end

section
set_option Elab.async false
set_option linter.all false
set_option maxRecDepth 100000
set_option maxHeartbeats 2000000
/-! Targets, list comprehensions over data. -/
namespace DL
open PySem PySem.Spec PyProof.Rows L2

theorem wipe_get {σ : L2.St} {i : Nat} : ∀ {vs : List Nat}, (L2.wipe σ vs)[i]? = if i ∈ vs then (σ[i]?).map (fun _ => none) else σ[i]?
  | [] => by simp [L2.wipe]
  | v :: vs => by
    unfold L2.wipe
    by_cases h : v = i
    · subst h
      by_cases hl : v < (L2.wipe σ vs).length
      · rw [List.getElem?_set_self hl]
        have hl' : v < σ.length := by rw [L2.wipe_length] at hl; exact hl
        simp [hl']
      · have hl' : ¬ v < σ.length := by rw [L2.wipe_length] at hl; exact hl
        rw [List.getElem?_eq_none (by simpa using hl)]
        simp [List.getElem?_eq_none (Nat.le_of_not_lt hl')]
    · rw [List.getElem?_set_ne h, wipe_get (vs := vs)]
      have : i ≠ v := fun z => h z.symm
      simp [this]
theorem wipe_wipe (σ : L2.St) (vs : List Nat) : L2.wipe (L2.wipe σ vs) vs = L2.wipe σ vs := by
  apply List.ext_getElem?
  intro i
  rw [wipe_get, wipe_get]
  by_cases h : i ∈ vs
  · simp only [h, if_true, Option.map_map]
    cases σ[i]? <;> rfl
  · simp [h]
theorem wipe_set {σ : L2.St} {vs : List Nat} {i : Nat} {o : Option V} (h : i ∈ vs) : L2.wipe (σ.set i o) vs = L2.wipe σ vs := by
  apply List.ext_getElem?
  intro j
  rw [wipe_get, wipe_get]
  by_cases hj : j ∈ vs
  · simp only [hj, if_true]
    by_cases e : i = j
    · subst e
      by_cases hl : i < σ.length
      · rw [List.getElem?_set_self hl]
        simp [hl]
      · rw [List.getElem?_eq_none (by simpa using hl), List.getElem?_eq_none (by simpa using hl)]
    · rw [List.getElem?_set_ne e]
  · have e : i ≠ j := fun z => hj (z ▸ h)
    simp only [hj, if_false]
    rw [List.getElem?_set_ne e]

/-! ### targets -/
def wpG (X : Cx) (tg : Expr) : TG := fun v σ H Q => ∃ g, PG X tg g ∧ g v σ H Q
theorem pg_wp {X : Cx} {tg : Expr} : PG X tg (wpG X tg) := ⟨fun pins s σ H v u Q I r ⟨_, h, q⟩ => h.run pins s σ H v u Q I r q⟩
/-- d goes to the target tg: the slots become ρ'; none but those at vs change -/
def TgV (X : Cx) (tg : Expr) (d : D) (ρ ρ' : Rho) (vs : List Nat) : Prop := ∀ (F0 H0 F H : Hp) (σ : L2.St), Stt X.K F0 H0 F H σ ρ → ∀ v, Rep X.K F d v → ∀ Q : L2.St → Hp → Prop,
  (∀ σ', L2.wipe σ' vs = L2.wipe σ vs → Stt X.K F0 H0 F H σ' ρ' → Q σ' H) → wpG X tg v σ H Q
/-- several targets, one after another -/
def wpGs (X : Cx) (ts : List Expr) : TGs := fun vs σ H Q => ∃ g, PGs X ts g ∧ g vs σ H Q
theorem pgs_wp {X : Cx} {ts : List Expr} : PGs X ts (wpGs X ts) := ⟨fun pins s σ H vs us Q I r ⟨_, h, q⟩ => h.run pins s σ H vs us Q I r q⟩
def TgsV (X : Cx) (ts : List Expr) (ds : List D) (ρ ρ' : Rho) (vs : List Nat) : Prop := ∀ (F0 H0 F H : Hp) (σ : L2.St), Stt X.K F0 H0 F H σ ρ → ∀ xs, Reps X.K F ds xs → ∀ Q : L2.St → Hp → Prop,
  (∀ σ', L2.wipe σ' vs = L2.wipe σ vs → Stt X.K F0 H0 F H σ' ρ' → Q σ' H) → wpGs X ts xs σ H Q
section
variable {X : Cx} {N : List Str} {nm : List (Str × NameKind)} {ρ ρ' ρ'' : Rho} {pos p : Pos} {d : D} {ds : List D} {vs : List Nat}
/-- x is stored as the block stores its own -/
theorem fn_ok {x : Str} (B : Bd X N nm) (hx : (x, NameKind.local) ∈ nm) : X.fn x = true ∨ X.env.scope.names.lookup x = some .local := .inr (B.loc0 hx)
theorem tg_name {x : Str} {i : Nat} (B : Bd X N nm) (h : Up N ρ x i (some (.fz d)) ρ') (hx : (x, NameKind.local) ∈ nm) (hv : i ∈ vs) : TgV X (.Name x p) d ρ ρ' vs := fun F0 H0 F H σ S v r Q q => by
  obtain ⟨h1, rfl, h3⟩ := h.get
  refine ⟨gName i, pg_name (by rw [B.hN]; exact B.nd) (by rw [B.hN]; exact h1) (B.loc (.l hx)) (fn_ok B hx), ?_⟩
  exact q _ (wipe_set hv) (S.put r)
theorem tgs_nil : TgsV X [] [] ρ ρ vs := fun F0 H0 F H σ S xs r Q q => ⟨gNil, pgs_nil, reps_nil.mp r, q σ rfl S⟩
theorem tgs_cons {t : Expr} {ts : List Expr} (h : TgV X t d ρ ρ' vs) (h2 : TgsV X ts ds ρ' ρ'' vs) (hs : (assignEach (t :: ts) X.env).map (·.2) = assign t X.env :: (assignEach ts X.env).map (·.2) := by rfl) : TgsV X (t :: ts) (d :: ds) ρ ρ'' vs := fun F0 H0 F H σ S xs r Q q => by
  obtain ⟨x, ys, rfl, r1, r2⟩ := reps_cons.mp r
  refine ⟨_, pgs_cons pg_wp pgs_wp hs, x, ys, rfl, ?_⟩
  refine h F0 H0 F H σ S x r1 _ fun σ1 w1 S1 => ?_
  exact h2 F0 H0 F H σ1 S1 ys r2 _ fun σ2 w2 S2 => q σ2 (w2.trans w1) S2
/-- (a, b, ..) gets a tuple -/
theorem tg_tup {ts : List Expr} {k : Nat} (hc : X.calm = true) (h : TgsV X ts ds ρ ρ' vs) (hn : (assignEach ts X.env).length = ds.length := by rfl) (hst : (assignEach ts X.env).findIdx? (·.1) = none := by rfl) : TgV X (.Tuple ts k p) (.tup ds) ρ ρ' vs := fun F0 H0 F H σ S v r Q q => by
  obtain ⟨a, xs, rfl, hl, rr⟩ := rep_tup.mp r
  exact ⟨_, pg_tup hc pgs_wp hn hst, a, xs, rfl, sqT_mono S.sub hl, rr.length, h F0 H0 F H σ S xs rr Q q⟩
end

/-! ### list comprehensions -/
def blkN (N : List Str) (nm : List (Str × NameKind)) (scope : Scope) (own : List (Str × Nat)) : Bool :=
  (match scope.kind with | .function => true | _ => false) && (scope.names.all fun y => decide (scope.names.lookup y.1 = some y.2)) && (own.all fun p => decide (N[p.2]? = some p.1)) &&
    (scope.names.all fun y => match y.2 with
      | .free => decide ((y.1, NameKind.cell) ∈ nm) || decide ((y.1, NameKind.free) ∈ nm)
      | .local => decide (y.1 ∈ own.map (·.1)) || decide (y.1 ∉ N)
      | .cell => decide (y.1 ∈ own.map (·.1)) || decide (y.1 ∉ N)
      | _ => true)
section
variable {X : Cx} {N : List Str} {nm : List (Str × NameKind)} {ρ : Rho}
theorem blkN_ok {scope : Scope} {own : List (Str × Nat)} (B : Bd X N nm) (h : blkN N nm scope own = true) : BlkOk X.N X.env.scope scope own ∧ ∀ y ∈ scope.names, scope.names.lookup y.1 = some y.2 := by
  unfold blkN at h
  simp only [Bool.and_eq_true, List.all_eq_true, decide_eq_true_eq] at h
  obtain ⟨⟨⟨h1, h2⟩, h3⟩, h4⟩ := h
  refine ⟨⟨?_, h2, fun p hp => by rw [B.hN]; exact h3 p hp, fun y hy e => ?_, fun y hy e => ?_⟩, h2⟩
  · revert h1
    cases scope.kind <;> simp
  · have q := h4 y hy
    simp only [e, Bool.or_eq_true, decide_eq_true_eq] at q
    rcases q with q | q
    · rcases B.lk _ _ q with z | ⟨z, _⟩
      · exact .inl z
      · cases z
    · rcases B.lk _ _ q with z | ⟨_, z⟩
      · exact .inr z
      · exact .inl z
  · have q := h4 y hy
    rw [B.hN]
    rcases e with e | e <;> (simp only [e, Bool.or_eq_true, decide_eq_true_eq] at q; exact q)
theorem bk_mk {s : Shared} {H : Hp} {scope : Scope} {C : Addr} {cl : List (Str × Addr)} {fp : List Addr} (B : Bd X N nm) (hu : ∀ y ∈ scope.names, scope.names.lookup y.1 = some y.2) : Bk X (X.blk s H scope (compEnvC scope cl C X.env) fp) N scope :=
  ⟨⟨B.hN, B.nd, B.gd, lk_relS hu⟩, rfl, rfl, rfl, rfl, rfl, rfl, rfl⟩

variable {α : Type} {elt tg iter : Expr} {ifs : List Expr} {scope : Scope} {own : List (Str × Nat)} {pos : Pos} {xs : List α} {φ f : α → D} {pr : α → Bool}
/-- the readings of the parts, in every block -/
def lcG (X : Cx) (N : List Str) (scope : Scope) (tg : Expr) : TG := fun v σ H Q => ∀ X', Bk X X' N scope → wpG X' tg v σ H Q
def lcT (X : Cx) (N : List Str) (scope : Scope) (ifs : List Expr) : TT := fun σ H Q => ∀ X', Bk X X' N scope → ∃ t, PTs X' ifs t ∧ t σ H Q
def lcE (X : Cx) (N : List Str) (scope : Scope) (elt : Expr) : TE := fun σ H Q => ∀ X', Bk X X' N scope → wpE X' elt σ H Q
theorem take_last {l : List α} {i : Nat} {x : α} (h : l[i]? = some x) : l.take (i + 1) = l.take i ++ [x] := by
  obtain ⟨hi, e⟩ := List.getElem?_eq_some_iff.mp h
  rw [List.take_succ_eq_append_getElem hi, e]
/-- what the parts of a comprehension do at an item -/
def LcAt (X : Cx) (N : List Str) (scope : Scope) (tg : Expr) (ifs : List Expr) (elt : Expr) (vs : List Nat) (ρ : Rho) (d : D) (k : Bool) (z : D) : Prop :=
  ∃ ρ', ∀ X', Bk X X' N scope → TgV X' tg d (wipeR ρ vs) ρ' vs ∧ TsV X' ρ' ifs k ∧ (k = true → EV X' ρ' elt (.v z))
theorem lc_turn {vs : List Nat} {d z : D} {k : Bool} (h : LcAt X N scope tg ifs elt vs ρ d k z) {F0 H0 F H : Hp} {σ : L2.St} (S : Stt X.K F0 H0 F H σ ρ) {x : V} (r : Rep X.K F d x) {Dd : Addr} {Nx : Hp → Prop}
    (yes : k = true → ∀ y F' H', Grow F H F' H' → Rep X.K F' z y → ∃ acc, H' Dd = some (.lst acc) ∧ acc.length < sizeLine ∧ Nx (upd H' Dd (.lst (acc ++ [y])))) (no : k = false → ∀ F' H', Grow F H F' H' → Nx H') :
    lcG X N scope tg x (L2.wipe σ vs) H fun σ2 H2 => L2.wipe σ2 vs = L2.wipe σ vs ∧ lcT X N scope ifs σ2 H2 fun b H3 =>
      if b = true then lcE X N scope elt σ2 H3 fun y H4 => ∃ acc, H4 Dd = some (.lst acc) ∧ acc.length < sizeLine ∧ Nx (upd H4 Dd (.lst (acc ++ [y]))) else Nx H3 := by
  obtain ⟨ρ', h⟩ := h
  intro X' k'
  have h1 := (h X' k').1
  unfold TgV at h1
  rw [k'.K] at h1
  refine h1 F0 H0 F H _ (S.wipe vs) x r _ fun σ2 w2 S2 => ⟨by rw [w2, wipe_wipe], fun X2 k2 => ?_⟩
  have h2 := (h X2 k2).2.1
  unfold TsV TD at h2
  rw [k2.K] at h2
  refine h2 F0 H0 F H σ2 S2 _ fun F3 H3 g3 => ?_
  cases k with
  | false => exact no rfl F3 H3 g3
  | true =>
    show lcE X N scope elt σ2 H3 _
    intro X4 k4
    have h3 := (h X4 k4).2.2 rfl
    unfold EV ED at h3
    rw [k4.K] at h3
    exact h3 F0 H0 F3 H3 σ2 (S2.grow g3) _ fun y F4 H4 g4 r4 => yes rfl y F4 H4 (g3.trans g4) r4
theorem ed_lc {wi : TI} (hw : ∀ (F0 H0 F H : Hp) (σ : L2.St), Stt X.K F0 H0 F H σ ρ → ∀ R : It → Hp → Prop,
      (∀ (J : It) F1 H1, Grow F H F1 H1 →
        (∀ i F2 H2, Same F1 F2 → Same F2 H2 → i < (xs.map φ).length → J.go i H2 ∧ ∀ x H', J.yld i H2 x H' → H' = H2 ∧ ∃ d, (xs.map φ)[i]? = some d ∧ Rep X.K F2 d x) →
        (∀ F2 H2, Same F1 F2 → Same F2 H2 → J.stop (xs.map φ).length H2) → R J H1) → wi σ H R)
    (hz : xs.length ≤ sizeLine) (ht : ∀ x ∈ xs, LcAt X N scope tg ifs elt (own.map (·.2)) ρ (φ x) (pr x) (f x)) :
    ED X.K ρ (tLc wi (lcG X N scope tg) (lcT X N scope ifs) (lcE X N scope elt) (own.map (·.2))) (.nl ((xs.filter pr).map f)) := by
  intro F0 H0 F H σ S Q q
  refine hw F0 H0 F H σ S _ fun J F1 H1 g1 hgo hstop Dd hD => ?_
  have hlen : (xs.map φ).length = xs.length := List.length_map ..
  let Pv : Nat → Hp → Prop := fun i H2 => ∃ F2 acc, Grow F1 H1 F2 H2 ∧ F2 Dd = none ∧ H2 Dd = some (.lst acc) ∧ Reps X.K F2 (((xs.take i).filter pr).map f) acc
  refine ⟨fun i m H2 => m = xs.length - i ∧ i ≤ xs.length ∧ Pv i H2, ⟨xs.length, by simp, Nat.zero_le _, F1, [], Grow.newO g1.s hD, g1.s.free hD, upd_same, by simp [reps_nil]⟩, ?_⟩
  rintro i m H2 ⟨rfl, hi, F2, acc, g2, f2, l2, r2⟩
  by_cases hlt : i < xs.length
  · right
    obtain ⟨go, yl⟩ := hgo i F2 H2 g2.f g2.s (by rw [hlen]; exact hlt)
    refine ⟨go, Pv (i + 1), fun H' p' => ⟨xs.length - (i + 1), by omega, rfl, hlt, p'⟩, fun x H' y => ?_⟩
    obtain ⟨e, d, hd, rd⟩ := yl x H' y
    subst e
    have hx : xs[i]? = some xs[i] := List.getElem?_eq_getElem hlt
    rw [List.getElem?_map, hx] at hd
    have hd' : φ xs[i] = d := Option.some.inj hd
    subst hd'
    have tk : xs.take (i + 1) = xs.take i ++ [xs[i]] := take_last hx
    refine lc_turn (ht xs[i] (List.getElem_mem hlt)) ((S.grow g1).grow g2) rd (fun hk y F4 H4 g4 r4 => ?_) fun hk F4 H4 g4 => ?_
    · have l4 : H4 Dd = some (.lst acc) := g4.h _ _ l2
      have f4 : F4 Dd = none := g4.n Dd f2 (by rw [l2]; simp)
      have ra := r2.mono g4.f
      have la : acc.length < sizeLine := by
        rw [r2.length, List.length_map]
        have := List.length_filter_le pr (xs.take i)
        rw [List.length_take] at this
        omega
      refine ⟨acc, l4, la, F4, _, (g2.trans g4).mut hD f4, f4, upd_same, ?_⟩
      rw [tk, List.filter_append, List.map_append]
      have e1 : ([xs[i]].filter pr).map f = [f xs[i]] := by simp [hk]
      rw [e1]
      exact ra.app (reps_one r4)
    · have l4 : H4 Dd = some (.lst acc) := g4.h _ _ l2
      have f4 : F4 Dd = none := g4.n Dd f2 (by rw [l2]; simp)
      refine ⟨F4, acc, g2.trans g4, f4, l4, ?_⟩
      rw [tk, List.filter_append, List.map_append]
      have e1 : ([xs[i]].filter pr).map f = [] := by simp [hk]
      rw [e1, List.append_nil]
      exact r2.mono g4.f
  · left
    have e : i = xs.length := by omega
    subst e
    rw [List.take_length] at r2
    refine ⟨by rw [← hlen]; exact hstop F2 H2 g2.f g2.s, q _ F2 H2 (g1.trans g2) ⟨Dd, acc, rfl, g1.h.free hD, f2, l2, r2⟩⟩
theorem ev_lc (B : Bd X N nm) (hc : X.calm = true) (own : List (Str × Nat)) (hb : blkN N nm scope own = true) (hi : IV X ρ tg iter (xs.map φ)) (hz : xs.length ≤ sizeLine)
    (ht : ∀ x ∈ xs, LcAt X N scope tg ifs elt (own.map (·.2)) ρ (φ x) (pr x) (f x)) (hs : ∀ x, foldedSetIterable iter X.env x = pure x := by intro _; rfl) :
    EV X ρ (.ListComp elt [⟨tg, iter, ifs, 0⟩] scope pos) (.nl ((xs.filter pr).map f)) := by
  obtain ⟨wi, hp, hw⟩ := hi
  obtain ⟨ok, hu⟩ := blkN_ok B hb
  exact EV.of (pe_lc hc (by rw [B.hN]; exact B.nd) hp ok
    (fun s H C cl fp => ⟨fun pins s1 σ H1 v u Q I r h => (h _ (bk_mk B hu)).elim fun g hg => hg.1.run pins s1 σ H1 v u Q I r hg.2⟩)
    (fun s H C cl fp => ⟨fun pins s1 σ H1 Q I h => (h _ (bk_mk B hu)).elim fun g hg => hg.1.run pins s1 σ H1 Q I hg.2⟩)
    (fun s H C cl fp => ⟨fun pins s1 σ H1 Q I h => (h _ (bk_mk B hu)).elim fun g hg => hg.1.run pins s1 σ H1 Q I hg.2⟩) hs) (ed_lc hw hz ht)
end
end DL

end

section
set_option Elab.async false
set_option linter.all false
set_option maxRecDepth 100000
set_option maxHeartbeats 2000000
/-! Statements over data. -/
namespace DL
open PySem PySem.Spec PyProof.Rows L2

/-- how a block ends -/
inductive Out where
  | nx (ρ : Rho) | bk (ρ : Rho) | ct (ρ : Rho)
  | rt (kd : Kd)
  | ex (C : Addr) (fs : List (Str × D)) (ρ : Rho)
/-- what is wished for behind every end that P lets -/
structure EOk (K : PySem.W.Frag) (F0 H0 : Hp) (Z : Ends) (W : WX) (P : Out → Prop) : Prop where
  nx : ∀ ρ F H σ, Stt K F0 H0 F H σ ρ → P (.nx ρ) → Z.nx σ H
  bk : ∀ ρ F H σ, Stt K F0 H0 F H σ ρ → P (.bk ρ) → Z.bk σ H
  ct : ∀ ρ F H σ, Stt K F0 H0 F H σ ρ → P (.ct ρ) → Z.ct σ H
  rt : ∀ kd v F H, Grow F0 H0 F H → RK K H0 F H v kd → P (.rt kd) → Z.rt v H
  ex : ∀ C fs dd ws ρ F H σ, Stt K F0 H0 F H σ ρ → F dd = some (.xd ws) → RepF K F fs ws → P (.ex C fs ρ) → W (.ref C) (some dd) σ H
def wpS (X : Cx) (s : Stmt) : TS := fun D σ H => ∃ t, PS X s t ∧ t D σ H
theorem ps_wp {X : Cx} {s : Stmt} : PS X s (wpS X s) := ⟨fun pins s σ H D I ⟨_, h, q⟩ => h.run pins s σ H D I q⟩
def SD (X : Cx) (W : WX) (ρ : Rho) (ss : List Stmt) (P : Out → Prop) : Prop := ∀ (F0 H0 F H : Hp) (σ : L2.St) (Z : Ends), Stt X.K F0 H0 F H σ ρ → EOk X.K F0 H0 Z W P → wpSs X ss Z σ H
def SS (X : Cx) (W : WX) (ρ : Rho) (s : Stmt) (P : Out → Prop) : Prop := ∀ (F0 H0 F H : Hp) (σ : L2.St) (Z : Ends), Stt X.K F0 H0 F H σ ρ → EOk X.K F0 H0 Z W P → wpS X s Z σ H
/-- a body's surroundings -/
structure Sx (X : Cx) (W : WX) : Prop where
  tk : Takes X W
  po : PassesOwn (model X.prog X.w) X.A X.env X.xe
  calm : X.calm = true
  fn : ∀ x, X.fn x = true
  hs : X.stack = X.env :: X.outer
  hf : X.env.frame = some X.env.locals
def Then (X : Cx) (W : WX) (rest : List Stmt) (P : Out → Prop) : Out → Prop
  | .nx ρ => SD X W ρ rest P
  | o => P o
/-- a turn's end in a loop -/
def LoopP (J : Rho → Prop) (P : Out → Prop) : Out → Prop
  | .nx ρ => ∃ ρw, Le ρw ρ ∧ J ρw
  | .ct ρ => ∃ ρw, Le ρw ρ ∧ J ρw
  | .bk ρ => P (.nx ρ)
  | .rt kd => P (.rt kd)
  | .ex C fs ρ => P (.ex C fs ρ)
section
variable {X : Cx} {W : WX} {N : List Str} {nm : List (Str × NameKind)} {ρ ρ' : Rho} {e a b c : Expr} {s : Stmt} {ss t u body : List Stmt} {kd ka kb kc : Kd} {pos p p' : Pos} {d : D} {ds : List D} {P : Out → Prop}
theorem EOk.imp {K : PySem.W.Frag} {F0 H0 : Hp} {Z : Ends} {P' : Out → Prop} (h : EOk K F0 H0 Z W P) (i : ∀ o, P' o → P o) : EOk K F0 H0 Z W P' :=
  ⟨fun ρ F H σ S q => h.nx ρ F H σ S (i _ q), fun ρ F H σ S q => h.bk ρ F H σ S (i _ q), fun ρ F H σ S q => h.ct ρ F H σ S (i _ q), fun kd v F H g r q => h.rt kd v F H g r (i _ q), fun C fs dd ws ρ F H σ S h1 h2 q => h.ex C fs dd ws ρ F H σ S h1 h2 (i _ q)⟩
theorem SD.imp {P' : Out → Prop} (h : SD X W ρ ss P') (i : ∀ o, P' o → P o) : SD X W ρ ss P := fun F0 H0 F H σ Z S E => h F0 H0 F H σ Z S (E.imp i)
theorem SD.le (h : SD X W ρ' ss P) (l : Le ρ' ρ) : SD X W ρ ss P := fun F0 H0 F H σ Z S E => h F0 H0 F H σ Z (S.le l) E
theorem sd_nil (q : P (.nx ρ)) : SD X W ρ [] P := fun F0 H0 F H σ Z S E => ⟨_, pss_nil, E.nx ρ F H σ S q⟩
theorem sd_seq (h : SS X W ρ s (Then X W ss P)) : SD X W ρ (s :: ss) P := fun F0 H0 F H σ Z S E => by
  refine ⟨_, pss_cons ps_wp pss_wp, ?_⟩
  refine h F0 H0 F H σ _ S ⟨fun ρ1 F1 H1 σ1 S1 q => ?_, E.bk, E.ct, E.rt, E.ex⟩
  exact (show SD X W ρ1 ss P from q) F0 H0 F1 H1 σ1 Z S1 E
theorem SS.of {tr : TS} (h : PS X s tr) (q : ∀ (F0 H0 F H : Hp) (σ : L2.St) (Z : Ends), Stt X.K F0 H0 F H σ ρ → EOk X.K F0 H0 Z W P → tr Z σ H) : SS X W ρ s P := fun F0 H0 F H σ Z S E => ⟨tr, h, q F0 H0 F H σ Z S E⟩
/-- a list that a slot owns is let go to be read by all -/
theorem sd_frz {x : Str} {i : Nat} (B : Bd X N nm) (hi : Sk N ρ x i (some (.ol ds))) (hu : Up N ρ x i (some (.fz (.lst ds))) ρ') (h : SD X W ρ' ss P) : SD X W ρ ss P := fun F0 H0 F H σ Z S E => by
  obtain ⟨_, rfl, _⟩ := hu.get
  obtain ⟨F', _, _, S'⟩ := S.frz hi.get.2
  exact h F0 H0 F' H σ Z S' E
theorem sd_drop {i : Nat} (x : Str) (B : Bd X N nm) (hu : Up N ρ x i none ρ') (h : SD X W ρ' ss P) : SD X W ρ ss P := by
  obtain ⟨_, rfl, _⟩ := hu.get
  refine h.le ⟨by simp, fun j s e => ?_⟩
  by_cases hj : i = j
  · subst hj
    have hl : i < ρ.length := by have := (List.getElem?_eq_some_iff.mp e).1; simpa using this
    rw [List.getElem?_set_self hl] at e; cases e
  · rw [List.getElem?_set_ne hj] at e; exact e

/-! ### small ones -/
theorem ss_pass (q : P (.nx ρ)) : SS X W ρ (.Pass pos) P := SS.of ps_pass fun F0 H0 F H σ Z S E => E.nx ρ F H σ S q
theorem ss_break (q : P (.bk ρ)) : SS X W ρ (.Break pos) P := SS.of ps_break fun F0 H0 F H σ Z S E => E.bk ρ F H σ S q
theorem ss_cont (q : P (.ct ρ)) : SS X W ρ (.Continue pos) P := SS.of ps_continue fun F0 H0 F H σ Z S E => E.ct ρ F H σ S q
theorem ss_expr (h : EV X ρ e kd) (q : P (.nx ρ)) (hs : swapsWith e none pos.line X.env = pure false := by rfl) : SS X W ρ (.Expr e pos) P :=
  SS.of (ps_expr pe_wp hs) fun F0 H0 F H σ Z S E => h F0 H0 F H σ S _ fun v F1 H1 g _ => E.nx ρ F1 H1 σ (S.grow g) q
theorem ss_ret (h : EV X ρ e kd) (q : P (.rt kd)) : SS X W ρ (.Return (some e) pos) P :=
  SS.of (ps_ret pe_wp) fun F0 H0 F H σ Z S E => h F0 H0 F H σ S _ fun v F1 H1 g r => E.rt kd v F1 H1 (S.gr.trans g) (r.pre fun z hz => S.gr.h.free hz) q
theorem ss_retN (q : P (.rt (.v .non))) : SS X W ρ (.Return none pos) P :=
  SS.of ps_retN fun F0 H0 F H σ Z S E => E.rt _ _ F H S.gr rk_non q
/-- the owned list of a slot is handed out -/
theorem ss_retO {x : Str} {i : Nat} (B : Bd X N nm) (hi : Sk N ρ x i (some (.ol ds))) (hv : Vs nm x) (q : P (.rt (.nl ds))) (hd : (x == ("__debug__" : Str)) = false := by decide) (hcd : (x == ("__classdict__" : Str)) = false := by decide) : SS X W ρ (.Return (some (.Name x p)) pos) P :=
  SS.of (ps_ret (pe_nm B hi hv hd hcd)) fun F0 H0 F H σ Z S E => by
    obtain ⟨y, xs, e, h0, hf, l, r⟩ := S.ok i _ hi.get.2
    exact ⟨_, e, E.rt (.nl ds) _ F H S.gr ⟨y, xs, rfl, h0, hf, l, r⟩ q⟩
theorem ss_retOD {x : Str} {i : Nat} {kvs : List (Key × D)} (B : Bd X N nm) (hi : Sk N ρ x i (some (.od kvs))) (hv : Vs nm x) (q : P (.rt (.nd kvs))) (hd : (x == ("__debug__" : Str)) = false := by decide) (hcd : (x == ("__classdict__" : Str)) = false := by decide) : SS X W ρ (.Return (some (.Name x p)) pos) P :=
  SS.of (ps_ret (pe_nm B hi hv hd hcd)) fun F0 H0 F H σ Z S E => by
    obtain ⟨y, xs, e, h0, hf, l, r⟩ := S.ok i _ hi.get.2
    exact ⟨_, e, E.rt (.nd kvs) _ F H S.gr ⟨y, xs, rfl, h0, hf, l, r⟩ q⟩
theorem ss_if {k : Bool} (h : TV X ρ c k) (h1 : k = true → SD X W ρ t P) (h2 : k = false → SD X W ρ u P) : SS X W ρ (.If c t u pos) P :=
  SS.of (ps_if pt_wp pss_wp pss_wp) fun F0 H0 F H σ Z S E => h F0 H0 F H σ S _ fun F1 H1 g => by
    cases k with
    | true => exact h1 rfl F0 H0 F1 H1 σ Z (S.grow g) E
    | false => exact h2 rfl F0 H0 F1 H1 σ Z (S.grow g) E

/-! ### stores -/
theorem Up.stt {K : PySem.W.Frag} {x : Str} {i : Nat} {F0 H0 F H : Hp} {σ : L2.St} {v : V} (hu : Up N ρ x i (some (.fz d)) ρ') (S : Stt K F0 H0 F H σ ρ) (r : Rep K F d v) : Stt K F0 H0 F H (σ.set i (some v)) ρ' := by
  obtain ⟨_, rfl, _⟩ := hu.get
  exact S.put r
/-- something new goes into a slot -/
theorem Up.sttO {K : PySem.W.Frag} {x : Str} {i : Nat} {F0 H0 F H F1 H1 : Hp} {σ : L2.St} {a : Addr} {s : Sl} (hu : Up N ρ x i (some s) ρ') (S : Stt K F0 H0 F H σ ρ) (g : Grow F H F1 H1) (hn : H a = none) (ho : s.own = true)
    (r : SlOk K H0 F1 H1 (some (some (.ref a))) s) : Stt K F0 H0 F1 H1 (σ.set i (some (.ref a))) ρ' := by
  obtain ⟨_, rfl, _⟩ := hu.get
  refine (S.grow g).putO ho r fun j t hj ht _ e => ?_
  obtain ⟨b, e2, _, _, hh⟩ := (S.ok j t hj).there ht
  rw [e] at e2
  cases e2
  exact hh hn
theorem ss_set {x : Str} {i : Nat} (Z : Sx X W) (B : Bd X N nm) (h : EV X ρ e (.v d)) (hu : Up N ρ x i (some (.fz d)) ρ') (hx : Ls nm x) (q : P (.nx ρ')) (hs : swapsWith e (some (.Name x p')) pos.line X.env = pure false := by rfl) : SS X W ρ (.Assign [.Name x p'] e pos) P :=
  SS.of (ps_set (by rw [B.hN]; exact B.nd) (by rw [B.hN]; exact hu.get.1) (B.loc hx) pe_wp hs (.inl (Z.fn x))) fun F0 H0 F H σ Zz S E => h F0 H0 F H σ S _ fun v F1 H1 g r => E.nx ρ' F1 H1 _ (hu.stt (S.grow g) r) q
theorem ss_setL {x : Str} {i : Nat} (Z : Sx X W) (B : Bd X N nm) (h : EV X ρ e (.nl ds)) (hu : Up N ρ x i (some (.ol ds)) ρ') (hx : Ls nm x) (q : P (.nx ρ')) (hs : swapsWith e (some (.Name x p')) pos.line X.env = pure false := by rfl) : SS X W ρ (.Assign [.Name x p'] e pos) P :=
  SS.of (ps_set (by rw [B.hN]; exact B.nd) (by rw [B.hN]; exact hu.get.1) (B.loc hx) pe_wp hs (.inl (Z.fn x))) fun F0 H0 F H σ Zz S E => h F0 H0 F H σ S _ fun v F1 H1 g r => by
    obtain ⟨l, xs, rfl, hb, hf, hl, rr⟩ := r
    exact E.nx ρ' F1 H1 _ (hu.sttO S g hb rfl ⟨l, xs, rfl, S.gr.h.free hb, hf, hl, rr⟩) q
theorem ss_setD {x : Str} {i : Nat} {kvs : List (Key × D)} (Z : Sx X W) (B : Bd X N nm) (h : EV X ρ e (.nd kvs)) (hu : Up N ρ x i (some (.od kvs)) ρ') (hx : Ls nm x) (q : P (.nx ρ')) (hs : swapsWith e (some (.Name x p')) pos.line X.env = pure false := by rfl) : SS X W ρ (.Assign [.Name x p'] e pos) P :=
  SS.of (ps_set (by rw [B.hN]; exact B.nd) (by rw [B.hN]; exact hu.get.1) (B.loc hx) pe_wp hs (.inl (Z.fn x))) fun F0 H0 F H σ Zz S E => h F0 H0 F H σ S _ fun v F1 H1 g r => by
    obtain ⟨l, xs, rfl, hb, hf, hl, rr⟩ := r
    exact E.nx ρ' F1 H1 _ (hu.sttO S g hb rfl ⟨l, xs, rfl, S.gr.h.free hb, hf, hl, rr⟩) q
/-- a target of any form -/
theorem ss_asg {tg : Expr} {vs : List Nat} (h : EV X ρ e (.v d)) (ht : TgV X tg d ρ ρ' vs) (q : P (.nx ρ')) (hs : swapsWithSole [tg] e pos.line X.env = pure false := by rfl) (hw : swappedStores [tg] e X.env = pure none := by rfl)
    (h1 : (assignEach [tg] X.env).map (·.2) = [assign tg X.env] := by rfl) : SS X W ρ (.Assign [tg] e pos) P :=
  SS.of (ps_asg pe_wp pg_wp hs hw h1) fun F0 H0 F H σ Z S E => h F0 H0 F H σ S _ fun v F1 H1 g r => by
    refine ht F0 H0 F1 H1 σ (S.grow g) v r _ fun σ2 _ S2 => E.nx ρ' F1 H1 σ2 S2 q
/-- y = [.. for ..] -/
theorem ss_setC {α : Type} {elt tg iter : Expr} {ifs : List Expr} {scope : Scope} {own : List (Str × Nat)} {xs : List α} {φ f : α → D} {pr : α → Bool} {x : Str} {i : Nat} (Z : Sx X W) (B : Bd X N nm) (hb : blkN N nm scope own = true) (hi : IV X ρ tg iter (xs.map φ)) (hz : xs.length ≤ sizeLine)
    (ht : ∀ x ∈ xs, LcAt X N scope tg ifs elt (own.map (·.2)) ρ (φ x) (pr x) (f x)) (hx : (x, NameKind.local) ∈ nm) (hu : Up N ρ x i (some (.ol ((xs.filter pr).map f))) ρ') (q : P (.nx ρ')) (hl : (p'.line == p.line) = true := by rfl) (ha : (scope.names.any fun (n, k) => n == x && (k == .local || k == .cell)) = false := by decide +kernel)
    (hs : ∀ x, foldedSetIterable iter X.env x = pure x := by intro _; rfl) (hk : X.env.scope.kind = .function) :
    SS X W ρ (.Assign [.Name x p'] (.ListComp elt [⟨tg, iter, ifs, 0⟩] scope p) pos) P := by
  obtain ⟨wi, hp, hw⟩ := hi
  obtain ⟨ok, hun⟩ := blkN_ok B hb
  exact SS.of (ps_setLc Z.calm (by rw [B.hN]; exact B.nd) (by rw [B.hN]; exact hu.get.1) (B.loc0 hx) (sw_true hk (B.loc0 hx) hl ha) hp ok
    (fun s H C cl fp => ⟨fun pins s1 σ H1 v u Q I r h => (h _ (bk_mk B hun)).elim fun g hg => hg.1.run pins s1 σ H1 v u Q I r hg.2⟩)
    (fun s H C cl fp => ⟨fun pins s1 σ H1 Q I h => (h _ (bk_mk B hun)).elim fun g hg => hg.1.run pins s1 σ H1 Q I hg.2⟩)
    (fun s H C cl fp => ⟨fun pins s1 σ H1 Q I h => (h _ (bk_mk B hun)).elim fun g hg => hg.1.run pins s1 σ H1 Q I hg.2⟩) hs) fun F0 H0 F H σ Zz S E => ed_lc hw hz ht F0 H0 F H σ S _ fun v F1 H1 g r => by
      obtain ⟨l, ys, rfl, hbb, hf, hll, rr⟩ := r
      exact E.nx ρ' F1 H1 _ (hu.sttO S g hbb rfl ⟨l, ys, rfl, S.gr.h.free hbb, hf, hll, rr⟩) q
/-- a, b = e1, e2 with local names -/
theorem ss_par {x y : Str} {i j : Nat} {ρ1 : Rho} {d1 d2 : D} {px py pt : Pos} {kt k2 : Nat} {pt2 : Pos} (Z : Sx X W) (B : Bd X N nm) (ha : EV X ρ a (.v d1)) (hb : EV X ρ b (.v d2)) (hx : (x, NameKind.local) ∈ nm) (hy : (y, NameKind.local) ∈ nm) (hij : i ≠ j)
    (hu : Up N ρ x i (some (.fz d1)) ρ1) (hv : Up N ρ1 y j (some (.fz d2)) ρ') (q : P (.nx ρ')) (hw : swappedStores [.Tuple [.Name x px, .Name y py] kt pt] (.Tuple [a, b] k2 pt2) X.env = pure (some [x, y]))
    (hs : swapsWithSole [.Tuple [.Name x px, .Name y py] kt pt] (.Tuple [a, b] k2 pt2) pos.line X.env = pure false := by rfl)
    (hs1 : starEach (a :: [b]) X.env = (false, eval a X.env) :: starEach [b] X.env := by rfl) (hs2 : starEach (b :: []) X.env = (false, eval b X.env) :: starEach [] X.env := by rfl) :
    SS X W ρ (.Assign [.Tuple [.Name x px, .Name y py] kt pt] (.Tuple [a, b] k2 pt2) pos) P :=
  SS.of (ps_par (i := i) (j := j) Z.calm (by rw [B.hN]; exact B.nd) (by rw [B.hN]; exact hu.get.1) (by rw [B.hN]; exact hv.get.1) hij (B.loc0 hx) (B.loc0 hy) (pa_cons pe_wp (pa_cons pe_wp pa_nil hs2) hs1) hw hs) fun F0 H0 F H σ Zz S E => by
    refine ha F0 H0 F H σ S _ fun v F1 H1 g1 r1 => ?_
    refine hb F0 H0 F1 H1 σ (S.grow g1) _ fun w F2 H2 g2 r2 => ?_
    exact ⟨v, w, rfl, E.nx ρ' F2 H2 _ (hv.stt (hu.stt ((S.grow g1).grow g2) (Rep.mono g2.f d1 v r1)) r2) q⟩
/-- x += e, ints -/
theorem ss_augI {x : Str} {i : Nat} {f : Int → Int → Int} {op : Operator} {m n : Int} (Z : Sx X W) (B : Bd X N nm) (ho : PIp X op (ipI f)) (hi : Sk N ρ x i (some (.fz (.int m)))) (h : EV X ρ e (.v (.int n))) (hu : Up N ρ x i (some (.fz (.int (f m n)))) ρ') (hx : Ls nm x) (q : P (.nx ρ')) : SS X W ρ (.AugAssign (.Name x p') op e pos) P :=
  SS.of (ps_aug (by rw [B.hN]; exact B.nd) (by rw [B.hN]; exact hi.get.1) (B.loc hx) pe_wp ho (.inl (Z.fn x))) fun F0 H0 F H σ Zz S E => by
    obtain ⟨v, e1, r⟩ := S.ok i _ hi.get.2
    refine ⟨v, e1, h F0 H0 F H σ S _ fun w F1 H1 g r1 => ⟨m, n, rep_int.mp r, ri_int r1.ri, ?_⟩⟩
    have ei : (some (V.int (f m n))) = some (.int (f m n)) := rfl
    have e2 := hu.get.1
    have e3 := hi.get.1
    exact E.nx ρ' F1 H1 _ (hu.stt (S.grow g) (rep_int.mpr rfl)) q
theorem ss_addI {x : Str} {i : Nat} {m n : Int} (Z : Sx X W) (B : Bd X N nm) (hi : Sk N ρ x i (some (.fz (.int m)))) (h : EV X ρ e (.v (.int n))) (hu : Up N ρ x i (some (.fz (.int (m + n)))) ρ') (hx : Ls nm x) (q : P (.nx ρ')) : SS X W ρ (.AugAssign (.Name x p') .Add e pos) P := ss_augI Z B ip_add hi h hu hx q
theorem ss_subI {x : Str} {i : Nat} {m n : Int} (Z : Sx X W) (B : Bd X N nm) (hi : Sk N ρ x i (some (.fz (.int m)))) (h : EV X ρ e (.v (.int n))) (hu : Up N ρ x i (some (.fz (.int (m - n)))) ρ') (hx : Ls nm x) (q : P (.nx ρ')) : SS X W ρ (.AugAssign (.Name x p') .Sub e pos) P := ss_augI Z B ip_sub hi h hu hx q
/-- x.append(e), x's list owned -/
theorem ss_app {x : Str} {i : Nat} {apos cpos : Pos} (B : Bd X N nm) (hi : Sk N ρ x i (some (.ol ds))) (hv : Vs nm x) (h : EV X ρ e (.v d)) (hl : ds.length < sizeLine) (hu : Up N ρ x i (some (.ol (ds ++ [d]))) ρ') (q : P (.nx ρ'))
    (hd : (x == ("__debug__" : Str)) = false := by decide) (hcd : (x == ("__classdict__" : Str)) = false := by decide)
    (hs : swapsWith (.Call (.Attribute (.Name x p) "append" apos) [e] [] cpos) none pos.line X.env = pure false := by rfl)
    (hbase : attributeBase (.Name x p) "append" X.env (eval (.Name x p) X.env) = eval (.Name x p) X.env := by rfl)
    (hfew : ((backTo cpos (starEach [e] X.env)).all (fun x => !x.1) && (backToKw cpos (keywordEach [] X.env)).all (fun x => x.1.isSome)
      && decide (([e] : List Expr).length + ([] : List Keyword).length + (if ([] : List Keyword).isEmpty then 0 else 1) < 30)) = true := by rfl)
    (hline : (apos.endLine == cpos.line) = true := by rfl) (hse : starEach (e :: []) X.env = (false, eval e X.env) :: starEach [] X.env := by rfl) :
    SS X W ρ (.Expr (.Call (.Attribute (.Name x p) "append" apos) [e] [] cpos) pos) P :=
  SS.of (ps_expr (pe_bm PySem.F.plainAttrs_list PySem.F.slot_list_append PySem.F.type_list_append mt_append (pe_nm B hi hv hd hcd) (pa_cons pe_wp pa_nil hse) hbase hfew hline hse) hs) fun F0 H0 F H σ Zz S E => by
    obtain ⟨y, xs, e1, h0, hf, l, r⟩ := S.ok i _ hi.get.2
    refine ⟨_, e1, .inl ⟨rfl, _, SqL.of l⟩, h F0 H0 F H σ S _ fun v F1 H1 g r1 => ?_⟩
    have S1 := S.grow g
    have l1 : H1 y = some (.lst xs) := g.h _ _ l
    refine ⟨y, xs, v, rfl, rfl, l1, by rw [r.length]; exact hl, ?_⟩
    obtain ⟨_, rfl, _⟩ := hu.get
    exact E.nx _ F1 _ σ (S1.mut (s' := .ol (ds ++ [d])) hi.get.2 rfl rfl e1 ⟨y, _, rfl, h0, g.n y hf (by rw [l]; simp), upd_same, (r.mono g.f).app (reps_one r1)⟩) q
/-- x[b] = e, x's list owned -/
theorem ss_put {x : Str} {i j : Nat} {m : Int} {px : Pos} (B : Bd X N nm) (hi : Sk N ρ x i (some (.ol ds))) (hv : Vs nm x) (h : EV X ρ e (.v d)) (hb : EV X ρ b (.v (.int m))) (hj : ixN ds.length m = some j) (hu : Up N ρ x i (some (.ol (ds.set j d))) ρ') (q : P (.nx ρ'))
    (hd : (x == ("__debug__" : Str)) = false := by decide) (hcd : (x == ("__classdict__" : Str)) = false := by decide)
    (hs : swapsWithSole [.Subscript (.Name x px) b p] e pos.line X.env = pure false := by rfl) (hw : swappedStores [.Subscript (.Name x px) b p] e X.env = pure none := by rfl) (h1 : (assignEach [.Subscript (.Name x px) b p] X.env).map (·.2) = [assign (.Subscript (.Name x px) b p) X.env] := by rfl)
    (ha : ∀ v, assign (.Subscript (.Name x px) b p) X.env v = (do
      let ov ← holding [v] (eval (.Name x px) X.env)
      let iv ← holding [v, ov] (eval b X.env)
      standAt p
      holding [v, ov, iv] (setItem ov iv v)
      release [v, ov, iv] []) := by intro _; rfl) : SS X W ρ (.Assign [.Subscript (.Name x px) b p] e pos) P :=
  SS.of (ps_asg pe_wp (pg_sub (pe_nm B hi hv hd hcd) pe_wp set_list ha) hs hw h1) fun F0 H0 F H σ Zz S E => by
    refine h F0 H0 F H σ S _ fun v F1 H1 g1 r1 => ?_
    obtain ⟨y, xs, e1, h0, hf, l, r⟩ := (S.grow g1).ok i _ hi.get.2
    refine ⟨_, e1, hb F0 H0 F1 H1 σ (S.grow g1) _ fun w F2 H2 g2 r2 => ?_⟩
    have S2 := (S.grow g1).grow g2
    have l2 : H2 y = some (.lst xs) := g2.h _ _ l
    refine ⟨y, xs, m, j, rfl, ri_int r2.ri, l2, by rw [r.length]; exact hj, ?_⟩
    obtain ⟨_, rfl, _⟩ := hu.get
    exact E.nx _ F2 _ σ (S2.mut (s' := .ol (ds.set j d)) hi.get.2 rfl rfl e1 ⟨y, _, rfl, h0, g2.n y hf (by rw [l]; simp), upd_same, (r.mono g2.f).set j (Rep.mono g2.f d v r1)⟩) q
end
end DL

end

section
set_option Elab.async false
set_option linter.all false
set_option maxRecDepth 100000
set_option maxHeartbeats 2000000
/-! Loops, calls that may raise, defs over data. -/
namespace DL
open PySem PySem.Spec PyProof.Rows L2

section
variable {X : Cx} {W : WX} {N : List Str} {nm : List (Str × NameKind)} {ρ ρ' : Rho} {e a b c : Expr} {es : List Expr} {s : Stmt} {ss t u body : List Stmt} {kd ka kb kc : Kd} {pos p p' : Pos} {d : D} {ds : List D} {P : Out → Prop}
/-- the addresses that the slots own -/
def Owns (ρ : Rho) (σ : L2.St) (y : Addr) : Prop := ∃ (i : Nat) (s : Sl), ρ[i]? = some (some s) ∧ s.own = true ∧ σ[i]? = some (some (.ref y))
open Classical in
noncomputable def mask (ρ : Rho) (σ : L2.St) (H : Hp) : Hp := fun y => if Owns ρ σ y then none else H y
theorem mask_not {σ : L2.St} {H : Hp} {y : Addr} (h : ¬ Owns ρ σ y) : mask ρ σ H y = H y := by unfold mask; rw [if_neg h]
theorem mask_own {σ : L2.St} {H : Hp} {y : Addr} (h : Owns ρ σ y) : mask ρ σ H y = none := by unfold mask; rw [if_pos h]
theorem Owns.free {K : PySem.W.Frag} {F0 H0 F H : Hp} {σ : L2.St} (S : Stt K F0 H0 F H σ ρ) {y : Addr} (h : Owns ρ σ y) : H0 y = none ∧ F y = none := by
  obtain ⟨i, s, h1, h2, h3⟩ := h
  obtain ⟨z, e, a, b, _⟩ := (S.ok i s h1).there h2
  rw [h3] at e
  cases e
  exact ⟨a, b⟩
/-- what is frozen at the start stays so -/
theorem SD.keep (h : SD X W ρ ss P) {F0 H0 F H : Hp} {σ : L2.St} {Z : Ends} (S : Stt X.K F0 H0 F H σ ρ)
    (nx : ∀ ρ F' H σ, Same F F' → Stt X.K F0 H0 F' H σ ρ → P (.nx ρ) → Z.nx σ H) (bk : ∀ ρ F' H σ, Same F F' → Stt X.K F0 H0 F' H σ ρ → P (.bk ρ) → Z.bk σ H) (ct : ∀ ρ F' H σ, Same F F' → Stt X.K F0 H0 F' H σ ρ → P (.ct ρ) → Z.ct σ H)
    (rt : ∀ kd v F H, Grow F0 H0 F H → RK X.K H0 F H v kd → P (.rt kd) → Z.rt v H)
    (ex : ∀ C fs dd ws ρ F H σ, Stt X.K F0 H0 F H σ ρ → F dd = some (.xd ws) → RepF X.K F fs ws → P (.ex C fs ρ) → W (.ref C) (some dd) σ H) : wpSs X ss Z σ H := by
  have sm : Same H0 (mask ρ σ H) := fun y o e => by
    have : ¬ Owns ρ σ y := fun z => by rw [(z.free S).1] at e; cases e
    rw [mask_not this]
    exact S.gr.h y o e
  have mh : Same (mask ρ σ H) H := fun y o e => by
    by_cases z : Owns ρ σ y
    · rw [mask_own z] at e; cases e
    · rw [mask_not z] at e; exact e
  have S' : Stt X.K F (mask ρ σ H) F H σ ρ := ⟨⟨Same.refl _, S.sub, mh, fun y a _ => a⟩, S.len, fun i s hi => by
    have q := S.ok i s hi
    cases s with
    | fz d => exact q
    | ol ds => obtain ⟨y, xs, e, a, b, r⟩ := q; exact ⟨y, xs, e, mask_own ⟨i, _, hi, rfl, e⟩, b, r⟩
    | od ds => obtain ⟨y, xs, e, a, b, r⟩ := q; exact ⟨y, xs, e, mask_own ⟨i, _, hi, rfl, e⟩, b, r⟩, S.dis⟩
  have gr : ∀ {F2 H2 : Hp}, Grow F (mask ρ σ H) F2 H2 → Grow F0 H0 F2 H2 := fun {F2 H2} g => ⟨S.gr.f.trans g.f, g.s, sm.trans g.h, fun y h1 h2 => g.n y (S.gr.n y h1 h2) (by
    cases e : H0 y with
    | none => exact absurd e h2
    | some o => rw [sm y o e]; simp)⟩
  have st : ∀ {F2 H2 : Hp} {σ2 : L2.St} {ρ2 : Rho}, Stt X.K F (mask ρ σ H) F2 H2 σ2 ρ2 → Stt X.K F0 H0 F2 H2 σ2 ρ2 := fun {F2 H2 σ2 ρ2} S2 => ⟨gr S2.gr, S2.len, fun i s hi => by
    have q := S2.ok i s hi
    cases s with
    | fz d => exact q
    | ol ds => obtain ⟨y, xs, e, a, b, r⟩ := q; exact ⟨y, xs, e, sm.free a, b, r⟩
    | od ds => obtain ⟨y, xs, e, a, b, r⟩ := q; exact ⟨y, xs, e, sm.free a, b, r⟩, S2.dis⟩
  exact h F (mask ρ σ H) F H σ Z S' ⟨fun ρ2 F2 H2 σ2 S2 q => nx ρ2 F2 H2 σ2 S2.gr.f (st S2) q, fun ρ2 F2 H2 σ2 S2 q => bk ρ2 F2 H2 σ2 S2.gr.f (st S2) q, fun ρ2 F2 H2 σ2 S2 q => ct ρ2 F2 H2 σ2 S2.gr.f (st S2) q,
    fun kd v F2 H2 g r q => rt kd v F2 H2 (gr g) (r.pre fun y hy => sm.free hy) q, fun C fs dd ws ρ2 F2 H2 σ2 S2 h1 h2 q => ex C fs dd ws ρ2 F2 H2 σ2 (st S2) h1 h2 q⟩
/-! ### while -/
theorem ss_while (Z : Sx X W) (Inv : Nat → Rho → Prop) (h0 : ∃ m ρw, Le ρw ρ ∧ Inv m ρw)
    (turn : ∀ m ρ', Inv m ρ' → ∃ k, TV X ρ' c k ∧ (k = true → SD X W ρ' body (LoopP (fun ρw => ∃ m', m' < m ∧ Inv m' ρw) P)) ∧ (k = false → P (.nx ρ'))) : SS X W ρ (.While c body [] pos) P :=
  SS.of (ps_while Z.po pt_wp pss_wp) fun F0 H0 F H σ Zz S E => by
    obtain ⟨m, ρw, le, i0⟩ := h0
    refine ⟨fun m σ H => ∃ ρ' F', Inv m ρ' ∧ Stt X.K F0 H0 F' H σ ρ', ⟨m, ρw, F, i0, S.le le⟩, ?_⟩
    rintro m σ2 H2 ⟨ρ2, F2, i2, S2⟩
    obtain ⟨k, ht, h1, h2⟩ := turn m ρ2 i2
    refine ht F0 H0 F2 H2 σ2 S2 _ fun F3 H3 g3 => ?_
    have S3 := S2.grow g3
    cases k with
    | false => exact E.nx ρ2 F3 H3 σ2 S3 (h2 rfl)
    | true =>
      refine ⟨fun σ4 H4 => ∃ m', m' < m ∧ ∃ ρ' F', Inv m' ρ' ∧ Stt X.K F0 H0 F' H4 σ4 ρ', fun _ _ q => q, ?_⟩
      refine h1 rfl F0 H0 F3 H3 σ2 _ S3 ⟨fun ρ4 F4 H4 σ4 S4 q => ?_, fun ρ4 F4 H4 σ4 S4 q => E.nx ρ4 F4 H4 σ4 S4 q, fun ρ4 F4 H4 σ4 S4 q => ?_, E.rt, E.ex⟩
      · obtain ⟨ρw, l4, m', hm, im⟩ := q
        exact ⟨m', hm, ρw, F4, im, S4.le l4⟩
      · obtain ⟨ρw, l4, m', hm, im⟩ := q
        exact ⟨m', hm, ρw, F4, im, S4.le l4⟩
/-! ### for -/
theorem ss_for {α : Type} {tg iter : Expr} {xs : List α} {φ : α → D} (Z : Sx X W) (hi : IV X ρ tg iter (xs.map φ)) (Inv : Nat → Rho → Prop) (h0 : ∃ ρw, Le ρw ρ ∧ Inv 0 ρw)
    (turn : ∀ i x ρ', xs[i]? = some x → Inv i ρ' → ∃ ρ'' vs, TgV X tg (φ x) ρ' ρ'' vs ∧ SD X W ρ'' body (LoopP (Inv (i + 1)) P)) (done : ∀ ρ', Inv xs.length ρ' → P (.nx ρ'))
    (hs : ∀ x, foldedSetIterable iter X.env x = pure x := by intro _; rfl) : SS X W ρ (.For tg iter body [] pos) P := by
  obtain ⟨wi, hp, hw⟩ := hi
  refine SS.of (ps_for Z.po Z.calm hp pg_wp pss_wp hs) fun F0 H0 F H σ Zz S E => ?_
  refine hw F0 H0 F H σ S _ fun J F1 H1 g1 hgo hstop => ?_
  obtain ⟨ρw, le, i0⟩ := h0
  have hlen : (xs.map φ).length = xs.length := List.length_map ..
  refine ⟨fun i m σ H => m = xs.length - i ∧ i ≤ xs.length ∧ ∃ ρ' F', Inv i ρ' ∧ Same F1 F' ∧ Stt X.K F0 H0 F' H σ ρ', ⟨xs.length, by simp, Nat.zero_le _, ρw, F1, i0, Same.refl _, (S.grow g1).le le⟩, ?_⟩
  rintro i m σ2 H2 ⟨rfl, hil, ρ2, F2, i2, s2, S2⟩
  by_cases hlt : i < xs.length
  · right
    obtain ⟨go, yl⟩ := hgo i F2 H2 s2 S2.sub (by rw [hlen]; exact hlt)
    refine ⟨go, fun σ4 H4 => ∃ ρ' F', Inv (i + 1) ρ' ∧ Same F1 F' ∧ Stt X.K F0 H0 F' H4 σ4 ρ', fun σ' H' q => ⟨xs.length - (i + 1), by omega, rfl, hlt, q⟩, fun x H' y => ?_⟩
    obtain ⟨e1, d, hd, rd⟩ := yl x H' y
    subst e1
    have hx : xs[i]? = some xs[i] := List.getElem?_eq_getElem hlt
    rw [List.getElem?_map, hx] at hd
    have hd' : φ xs[i] = d := Option.some.inj hd
    subst hd'
    obtain ⟨ρ3, vs, htg, hb⟩ := turn i xs[i] ρ2 hx i2
    refine htg F0 H0 F2 _ σ2 S2 x rd _ fun σ3 _ S3 => ?_
    refine hb.keep S3 (fun ρ4 F4 H4 σ4 s4 S4 q => ?_) (fun ρ4 F4 H4 σ4 s4 S4 q => E.nx ρ4 F4 H4 σ4 S4 q) (fun ρ4 F4 H4 σ4 s4 S4 q => ?_) E.rt E.ex
    · obtain ⟨ρw, l4, im⟩ := q
      exact ⟨ρw, F4, im, s2.trans s4, S4.le l4⟩
    · obtain ⟨ρw, l4, im⟩ := q
      exact ⟨ρw, F4, im, s2.trans s4, S4.le l4⟩
  · left
    have e1 : i = xs.length := by omega
    subst e1
    exact ⟨by rw [← hlen]; exact hstop F2 H2 s2 S2.sub, E.nx ρ2 F2 H2 σ2 S2 (done ρ2 i2)⟩

/-! ### what may raise -/
/-- e gives a value, or raises, as R lets -/
def XV (X : Cx) (W : WX) (ρ : Rho) (e : Expr) (R : Res → Prop) : Prop := ∀ (F0 H0 F H : Hp) (σ : L2.St), Stt X.K F0 H0 F H σ ρ → ∀ Q : VK, (∀ kd v F' H', Grow F H F' H' → RK X.K H F' H' v kd → R (.val kd) → Q v H') →
  (∀ C fs dd ws F' H', Grow F H F' H' → F' dd = some (.xd ws) → RepF X.K F' fs ws → R (.ex C fs) → W (.ref C) (some dd) σ H') → wpE X e σ H Q
theorem xv_of {R : Res → Prop} (h : EV X ρ e kd) (q : R (.val kd)) : XV X W ρ e R := fun F0 H0 F H σ S Q k1 _ => h F0 H0 F H σ S Q fun v F1 H1 g r => k1 kd v F1 H1 g r q
theorem xv_call {x : Str} {k m : Nat} {T : List D → Res → Prop} {R : Res → Prop} {r : Res} (Z : Sx X W) (G : FdX X x k T) (B : Bd X N nm) (hr : Room m X.A) (hkm : k ≤ m) (hg : (x, NameKind.globalImplicit) ∈ nm) (ha : AV X ρ (e :: es) ds) (ht : T ds r) (q : R r)
    (hdb : (x == ("__debug__" : Str)) = false := by decide) (he : starEach (e :: es) X.env = (false, eval e X.env) :: starEach es X.env := by rfl) (hpl : (backTo pos (starEach es X.env)).any (·.1) = false := by rfl) :
    XV X W ρ (.Call (.Name x p) (e :: es) [] pos) R := fun F0 H0 F H σ S Q k1 k2 => by
  obtain ⟨f, fd, ps, Fn, hm, hk, hb⟩ := G.ex
  refine ⟨_, pe_callG (E := WE W) Fn B.gd (hr.mono hkm) (B.gl hg) hm hk hb (fun σ => passAt Z.tk σ) pa_wp hdb he hpl, ?_⟩
  refine ha F0 H0 F H σ S _ fun vs F1 H1 g1 r1 => ?_
  refine ⟨ds, F1, r, g1.s, r1, ht, ?_⟩
  cases r with
  | val kd => exact fun v F2 H2 g2 r2 => k1 kd v F2 H2 (g1.trans g2) (r2.pre fun z h => g1.h.free h) q
  | ex C fs => exact fun dd ws F2 H2 g2 h1 h2 => k2 C fs dd ws F2 H2 (g1.trans g2) h1 h2 q
theorem ss_retX {R : Res → Prop} (h : XV X W ρ e R) (q1 : ∀ kd, R (.val kd) → P (.rt kd)) (q2 : ∀ C fs, R (.ex C fs) → P (.ex C fs ρ)) : SS X W ρ (.Return (some e) pos) P :=
  SS.of (ps_ret pe_wp) fun F0 H0 F H σ Z S E => h F0 H0 F H σ S _ (fun kd v F1 H1 g r q => E.rt kd v F1 H1 (S.gr.trans g) (r.pre fun z hz => S.gr.h.free hz) (q1 kd q)) fun C fs dd ws F1 H1 g h1 h2 q => E.ex C fs dd ws ρ F1 H1 σ (S.grow g) h1 h2 (q2 C fs q)
theorem ss_exprX {R : Res → Prop} (h : XV X W ρ e R) (q1 : ∀ kd, R (.val kd) → P (.nx ρ)) (q2 : ∀ C fs, R (.ex C fs) → P (.ex C fs ρ)) (hs : swapsWith e none pos.line X.env = pure false := by rfl) : SS X W ρ (.Expr e pos) P :=
  SS.of (ps_expr pe_wp hs) fun F0 H0 F H σ Z S E => h F0 H0 F H σ S _ (fun kd v F1 H1 g r q => E.nx ρ F1 H1 σ (S.grow g) (q1 kd q)) fun C fs dd ws F1 H1 g h1 h2 q => E.ex C fs dd ws ρ F1 H1 σ (S.grow g) h1 h2 (q2 C fs q)
/-- (a, f(..)) where the last item may raise -/
theorem xv_tup2 {k : Nat} {R : Res → Prop} {Rb : Res → Prop} (ha : EV X ρ a (.v d)) (hb : XV X W ρ b Rb) (q1 : ∀ kd, Rb (.val kd) → ∃ d2, kd = .v d2 ∧ R (.val (.v (.tup [d, d2])))) (q2 : ∀ C fs, Rb (.ex C fs) → R (.ex C fs))
    (hs1 : starEach (a :: [b]) X.env = (false, eval a X.env) :: starEach [b] X.env := by rfl) (hs2 : starEach (b :: []) X.env = (false, eval b X.env) :: starEach [] X.env := by rfl) : XV X W ρ (.Tuple [a, b] k pos) R := fun F0 H0 F H σ S Q k1 k2 => by
  refine ⟨_, pe_tup (pa_cons pe_wp (pa_cons pe_wp pa_nil hs2) hs1), ?_⟩
  refine ha F0 H0 F H σ S _ fun v F1 H1 g1 r1 => ?_
  refine hb F0 H0 F1 H1 σ (S.grow g1) _ (fun kd w F2 H2 g2 r2 q => ?_) fun C fs dd ws F2 H2 g2 h1 h2 q => k2 C fs dd ws F2 H2 (g1.trans g2) h1 h2 (q2 C fs q)
  obtain ⟨d2, rfl, qr⟩ := q1 kd q
  refine ⟨by show 2 ≤ sizeLine; decide, fun p hp => ?_⟩
  have g3 := (g1.trans g2).trans (Grow.newF (p := p) (o := .tup [v, w]) g2.s hp)
  exact k1 (.v (.tup [d, d2])) _ _ _ g3 (rep_tup.mpr ⟨p, [v, w], rfl, SqT.of upd_same, reps_cons.mpr ⟨v, _, rfl, Rep.mono (g2.f.trans (same_new (g2.s.free hp))) d v r1, reps_one (Rep.mono (same_new (g2.s.free hp)) d2 w r2)⟩⟩) qr
end

/-! ### a def by its body -/
def PostR (r : Res) : Out → Prop
  | .rt kd => r = .val kd
  | .nx _ => r = .val (.v .non)
  | .ex C fs _ => r = .ex C fs
  | _ => False
section
variable {P : Program} {w : World} {K : PySem.W.Frag} {mg : Str → Option Value} {base : Heap}
/-- the slots at a def's entry -/
def startR (N : List Str) (ds : List D) : Rho := ds.map (fun d => some (.fz d)) ++ List.replicate (N.length - ds.length) none
theorem start_stt {N : List Str} {ds : List D} {vs : List V} {F H : Hp} (sb : Same F H) (r : Reps K F ds vs) : Stt K F H F H (L2.start N vs) (startR N ds) := by
  have hl := r.length
  refine ⟨Grow.refl sb, by simp [L2.start, startR, hl], fun i s h => ?_, fun i j s t y h1 h2 o1 => ?_⟩
  · unfold startR at h
    by_cases hi : i < ds.length
    · rw [List.getElem?_append_left (by simpa using hi), List.getElem?_map, List.getElem?_eq_getElem hi] at h
      cases h
      obtain ⟨x, hx, rx⟩ := r.get (List.getElem?_eq_getElem hi)
      refine ⟨x, ?_, rx⟩
      unfold L2.start
      rw [List.getElem?_append_left (by simp; omega), List.getElem?_map, hx]
      rfl
    · rw [List.getElem?_append_right (by simpa using hi), List.getElem?_replicate] at h
      split at h <;> cases h
  · unfold startR at h1
    by_cases hi : i < ds.length
    · rw [List.getElem?_append_left (by simpa using hi), List.getElem?_map, List.getElem?_eq_getElem hi] at h1
      cases h1
      cases o1
    · rw [List.getElem?_append_right (by simpa using hi), List.getElem?_replicate] at h1
      split at h1 <;> cases h1
def nmOk (sc : Scope) (nm : List (Str × NameKind)) : Bool := nm.all fun p => decide (sc.names.lookup p.1 = some p.2)
theorem fd_of {x : Str} {st : Stmt} {f : Addr} {fd : FuncData} {N ps : List Str} {nm : List (Str × NameKind)} {k : Nat} {T : List D → Res → Prop} (F : Fun K x x st f fd) (S : FnScope N ps (defScope st)) (hb : Binds K fd ps []) (hm : mg x = some (.ref f)) (hn : nmOk (defScope st) nm = true)
    (len : ∀ ds r, T ds r → ds.length = ps.length)
    (body : ∀ (X : Cx) (W : WX), X.prog = P → X.w = w → X.K = K → X.mg = mg → X.base = base → X.env.scope = defScope st → Sx X W → Bd X N nm → Room k X.A → ∀ ds r, T ds r → SD X W (startR N ds) (defBody st) (PostR r)) :
    Fd P w K mg base x (k + 1) T := by
  refine ⟨f, fd, ps, fnG_of F S (fun vs H Q E h => ?_) (fun cdv A hg outer s H vs Q E hr h => ⟨_, pss_wp, ?_⟩), hm, F.kp, hb⟩
  · obtain ⟨ds, Fz, r, _, rr, ht, _⟩ := h
    rw [rr.length]
    exact len ds r ht
  · obtain ⟨ds, Fz, r, sb, rr, ht, q⟩ := h
    have lk : ∀ y kk, (y, kk) ∈ nm → (defScope st).names.lookup y = some kk := fun y kk hy => by
      unfold nmOk at hn
      rw [List.all_eq_true] at hn
      exact of_decide_eq_true (hn (y, kk) hy)
    refine body (cxOf (L2.CX P w) P w K mg base N x (defScope st) f cdv A outer s H E) (fun cls d _ H => E cls d H) rfl rfl rfl rfl rfl rfl ⟨takes_of rfl rfl rfl rfl, passes_of rfl, rfl, fun _ => rfl, rfl, rfl⟩
      ⟨rfl, S.nd, hg, fun y kk hy => .inl (lk y kk hy)⟩ hr ds r ht Fz H Fz H (L2.start N vs) _ (start_stt sb rr) ⟨fun ρ F1 H1 σ S1 z => ?_, fun ρ F1 H1 σ S1 z => z.elim, fun ρ F1 H1 σ S1 z => z.elim, fun kd v F1 H1 g r1 z => ?_, fun C fs dd ws ρ F1 H1 σ S1 h1 h2 z => ?_⟩
    · have z' : r = .val (.v .non) := z
      subst z'
      exact q _ F1 H1 S1.gr rk_non
    · have z' : r = .val kd := z
      subst z'
      exact q v F1 H1 g r1
    · have z' : r = .ex C fs := z
      subst z'
      exact q dd ws F1 H1 S1.gr h1 h2
end
end DL

end

section
set_option Elab.async false
set_option linter.all false
set_option maxRecDepth 100000
set_option maxHeartbeats 2000000
/-! repr, deep equality, truth, membership, dicts over data. -/
namespace DL
open PySem PySem.Spec PyProof.Rows L2

mutual
def D.py : D → PyData
  | .bl b => .bool b
  | .int i => .int i
  | .str x => .str x
  | .lst ds => .list (pyAll ds)
  | .scr ds => .list (pyAll ds)
  | .tup ds => .tuple (pyAll ds)
  | .non => .none
  | .dk _ _ => .none
  | .opq _ => .none
  | .exc _ _ _ _ => .none
def pyAll : List D → List PyData
  | [] => []
  | d :: ds => d.py :: pyAll ds
end
mutual
/-- data that the interpreter's repr and == are told of -/
def D.plain : D → Bool
  | .lst ds => plainAll ds
  | .scr ds => plainAll ds
  | .tup ds => plainAll ds
  | .dk _ _ => false
  | .opq _ => false
  | .exc _ _ _ _ => false
  | _ => true
def plainAll : List D → Bool
  | [] => true
  | d :: ds => d.plain && plainAll ds
end
section
variable {K : PySem.W.Frag} {F H : Hp}
mutual
theorem Rep.dp (sb : Same F H) : ∀ (d : D) (v : V), d.plain = true → Rep K F d v → Dp K H v d.py
  | .non, v, _, r => by unfold Rep at r; subst r; unfold D.py; exact .non
  | .bl b, v, _, r => by unfold Rep at r; subst r; unfold D.py; exact .bl b
  | .int b, v, _, r => by unfold Rep at r; subst r; unfold D.py; exact .int b
  | .str b, v, _, r => by unfold Rep at r; subst r; unfold D.py; exact .str b
  | .lst ds, v, p, r => by
    unfold Rep at r
    unfold D.plain at p
    obtain ⟨a, xs, rfl, l, rr⟩ := r
    unfold D.py
    exact .lst (SqL.of (sb _ _ l)) (Reps.dp sb ds xs p rr)
  | .scr ds, v, p, r => by
    unfold Rep at r
    unfold D.plain at p
    obtain ⟨a, xs, rfl, l, rr⟩ := r
    unfold D.py
    exact .lst (sqL_mono sb l) (Reps.dp sb ds xs p rr)
  | .tup ds, v, p, r => by
    unfold Rep at r
    unfold D.plain at p
    obtain ⟨a, xs, rfl, l, rr⟩ := r
    unfold D.py
    exact .tup (sqT_mono sb l) (Reps.dp sb ds xs p rr)
  | .dk _ _, v, p, r => by unfold D.plain at p; cases p
  | .opq _, v, p, r => by unfold D.plain at p; cases p
  | .exc _ _ _ _, v, p, r => by unfold D.plain at p; cases p
theorem Reps.dp (sb : Same F H) : ∀ (ds : List D) (xs : List V), plainAll ds = true → Reps K F ds xs → DpAll K H xs (pyAll ds)
  | [], xs, _, r => by rw [reps_nil] at r; subst r; unfold pyAll; exact .nil
  | d :: ds, xs, p, r => by
    rw [reps_cons] at r
    unfold plainAll at p
    obtain ⟨p1, p2⟩ := Bool.and_eq_true_iff.mp p
    obtain ⟨x, ys, rfl, r1, r2⟩ := r
    unfold pyAll
    exact .cons (Rep.dp sb d x p1 r1) (Reps.dp sb ds ys p2 r2)
end
/-- the data that a look tells -/
def Kd.dat : Kd → Option D
  | .v d => some d
  | .nl ds => some (.lst ds)
  | .ll ds => some (.lst ds)
  | .sl ds => some (.scr ds)
  | .st ds => some (.tup ds)
  | _ => none
theorem ri_dp {x : V} {kd : Kd} {d : D} (sb : Same F H) (h : RI K F H x kd) (hd : kd.dat = some d) (hp : d.plain = true) : Dp K H x d.py := by
  cases kd with
  | v d' =>
    cases hd
    exact Rep.dp sb d x hp h
  | nl ds =>
    cases hd
    obtain ⟨a, xs, rfl, _, _, l, rr⟩ := h
    unfold D.plain at hp
    unfold D.py
    exact .lst (SqL.of l) (Reps.dp sb ds xs hp rr)
  | ll ds =>
    cases hd
    obtain ⟨a, xs, rfl, l, rr⟩ := h
    unfold D.plain at hp
    unfold D.py
    exact .lst (SqL.of l) (Reps.dp sb ds xs hp rr)
  | sl ds =>
    cases hd
    obtain ⟨a, xs, rfl, l, rr⟩ := h
    unfold D.plain at hp
    unfold D.py
    exact .lst l (Reps.dp sb ds xs hp rr)
  | st ds =>
    cases hd
    obtain ⟨a, xs, rfl, l, rr⟩ := h
    unfold D.plain at hp
    unfold D.py
    exact .tup l (Reps.dp sb ds xs hp rr)
  | nd _ => cases hd
  | dq _ => cases hd
end

section
variable {X : Cx} {N : List Str} {nm : List (Str × NameKind)} {ρ ρ' : Rho} {K : PySem.W.Frag} {e a b c : Expr} {es : List Expr} {kd ka kb kc : Kd} {pos p p' : Pos} {d d2 : D} {ds : List D}
/-! ### repr -/
/-- repr of d is told, and short enough -/
structure Shw (d : D) : Prop where
  pl : d.plain = true
  sh : d.py.showable = true
  nd : d.py.hasDict = false
  sz : d.py.shown.length ≤ sizeLine
  dp : d.py.depth ≤ 50
def rRepr (K : PySem.W.Frag) : List V → Hp → VK → Prop := fun vs H Q => ∃ x d, vs = [x] ∧ Dp K H x d ∧ d.showable = true ∧ d.hasDict = false ∧ d.shown.length ≤ sizeLine ∧ d.depth ≤ 50 ∧ Q (.str d.shown) H
theorem cr_repr {k : Nat} (gd : X.A.guards = some []) (hr : Room k X.A) : CallR X (.builtin "repr") (rRepr X.K) := by
  intro pins s σ H xs us Q I r h
  obtain ⟨x, d, rfl, hd, hs, hn, hz, hdp, q⟩ := h
  obtain ⟨u, rfl, rx⟩ := vals1 r
  obtain ⟨as, rd⟩ := Dp.reads I d x u hd rx
  have hu := hr.units
  cases d with
  | none =>
    cases rd
    exact PySem.P.repr_of_none ⟨.str "None", H, I.tok _, ⟨_, rfl⟩, by simpa only [PyData.shown] using q⟩
  | bool b =>
    cases rd
    exact PySem.P.repr_of_bool ⟨.str (if b then "True" else "False"), H, I.tok _, ⟨_, rfl⟩, by simpa only [PyData.shown] using q⟩
  | int i =>
    cases rd
    exact PySem.P.repr_of_int (by simpa [PyData.showable] using hs) ⟨.str (toString i), H, I.tok _, ⟨_, rfl⟩, by simpa only [PyData.shown] using q⟩
  | str y =>
    cases rd
    exact PySem.P.repr_of_str (hsz := by simpa only [PyData.shown] using hz) ⟨.str (reprText y), H, I.tok _, ⟨_, rfl⟩, by simpa only [PyData.shown] using q⟩
  | list ys =>
    cases hd with
    | lst _ _ =>
      cases rx
      exact repr_of_reads' rd hs (PyData.noDict_hsm hn) gd (by omega) (fun _ _ z => z) (fun h' u' tk kk => ⟨.str _, H, I.kept kk, ⟨_, rfl⟩, q⟩) hz
  | tuple ys =>
    cases hd with
    | tup _ _ =>
      cases rx
      exact repr_of_reads' rd hs (PyData.noDict_hsm hn) gd (by omega) (fun _ _ z => z) (fun h' u' tk kk => ⟨.str _, H, I.kept kk, ⟨_, rfl⟩, q⟩) hz
  | dict _ => cases hd
theorem ev_repr {k : Nat} (B : Bd X N nm) (hr : Room k X.A) (hg : (("repr" : Str), NameKind.globalImplicit) ∈ nm) (hm : X.mg "repr" = none) (h : EV X ρ e kd) (hd : kd.dat = some d) (hs : Shw d)
    (hse : starEach (e :: []) X.env = (false, eval e X.env) :: starEach [] X.env := by rfl) : EV X ρ (.Call (.Name "repr" p) [e] [] pos) (.v (.str d.py.shown)) :=
  ev_cB B (cr_repr B.gd hr) (fun F H x sb hx Q q => ⟨x, d.py, rfl, ri_dp sb hx hd hs.pl, hs.sh, hs.nd, hs.sz, hs.dp, fin_str sb q⟩) hg hm (by decide +kernel) h (by decide) (by decide) hse
/-! ### == of data -/
structure Eqb (d : D) : Prop where
  pl : d.plain = true
  sh : SeqAt.shaped d.py = true
theorem cm_eqD {k : Nat} (hr : Room k X.A) (ha : EV X ρ a ka) (hb : EV X ρ b kb) (h1 : ka.dat = some d) (h2 : kb.dat = some d2) (e1 : Eqb d) (e2 : Eqb d2) : Cm X ρ .Eq a b (PyData.eqv d.py d2.py) :=
  ⟨_, ka, kb, op_eqD hr.units, fun F H x y sb hx hy Q q => ⟨d.py, d2.py, ri_dp sb hx h1 e1.pl, ri_dp sb hy h2 e2.pl, e1.sh, e2.sh, fin_bl sb q⟩, ha, hb, nomark _⟩
theorem cm_neD {k : Nat} (hr : Room k X.A) (ha : EV X ρ a ka) (hb : EV X ρ b kb) (h1 : ka.dat = some d) (h2 : kb.dat = some d2) (e1 : Eqb d) (e2 : Eqb d2) : Cm X ρ .NotEq a b (!PyData.eqv d.py d2.py) :=
  ⟨_, ka, kb, op_neD hr.units, fun F H x y sb hx hy Q q => ⟨d.py, d2.py, ri_dp sb hx h1 e1.pl, ri_dp sb hy h2 e2.pl, e1.sh, e2.sh, fin_bl sb q⟩, ha, hb, nomark _⟩
/-! ### truth -/
theorem tv_tru {k : Bool} (h : EV X ρ e kd) (ht : ∀ F H x, Same F H → RI X.K F H x kd → TruV X.K x H k) (he : ∀ whole, isTrue e X.env whole = (do let v ← whole; standAt e.pos; holding [v] (truthy v)) := by intro _; rfl) : TV X ρ e k :=
  TV.of (pt_truth pe_wp he) fun F0 H0 F H σ S Q q => h F0 H0 F H σ S _ fun v F1 H1 g r => ⟨k, ht F1 H1 v g.s r.ri, q F1 H1 g⟩
theorem isEmpty_reps {F : Hp} {xs : List V} (r : Reps K F ds xs) : xs.isEmpty = ds.isEmpty := by
  cases ds with
  | nil => rw [reps_nil] at r; subst r; rfl
  | cons d ds => obtain ⟨x, ys, rfl, _⟩ := reps_cons.mp r; rfl
theorem tv_truL (h : EV X ρ e (.sl ds)) (he : ∀ whole, isTrue e X.env whole = (do let v ← whole; standAt e.pos; holding [v] (truthy v)) := by intro _; rfl) : TV X ρ e (!ds.isEmpty) :=
  tv_tru h (fun F H x sb hx => by
    obtain ⟨l, xs, rfl, hl, r⟩ := ri_sl hx
    exact .inl ⟨xs, hl, by rw [isEmpty_reps r]⟩) he
theorem tv_truT (h : EV X ρ e (.st ds)) (he : ∀ whole, isTrue e X.env whole = (do let v ← whole; standAt e.pos; holding [v] (truthy v)) := by intro _; rfl) : TV X ρ e (!ds.isEmpty) :=
  tv_tru h (fun F H x sb hx => by
    obtain ⟨l, xs, rfl, hl, r⟩ := ri_st hx
    exact .inr (.inl ⟨xs, hl, by rw [isEmpty_reps r]⟩)) he
theorem tv_truD {kvs : List (Key × D)} (h : EV X ρ e (.dq kvs)) (he : ∀ whole, isTrue e X.env whole = (do let v ← whole; standAt e.pos; holding [v] (truthy v)) := by intro _; rfl) : TV X ρ e (!kvs.isEmpty) :=
  tv_tru h (fun F H x sb hx => by
    obtain ⟨l, vs, rfl, hl, r⟩ := ri_dq hx
    refine .inr (.inr ⟨vs, hl, ?_⟩)
    have := congrArg List.length r.1
    simp only [List.length_map] at this
    cases vs <;> cases kvs <;> simp at this ⊢) he
/-! ### in -/
def D.toV : D → V
  | .bl b => .bl b
  | .int i => .int i
  | .str x => .str x
  | _ => .non
def D.flat : D → Bool
  | .bl _ => true
  | .int _ => true
  | .str _ => true
  | .non => true
  | _ => false
theorem rep_toV {F : Hp} {x : V} (h : Rep K F d x) (hf : d.flat = true) : x = d.toV ∧ flatV x = true := by
  cases d with
  | non => rw [rep_non.mp h]; exact ⟨rfl, rfl⟩
  | bl _ => rw [rep_bl.mp h]; exact ⟨rfl, rfl⟩
  | int _ => rw [rep_int.mp h]; exact ⟨rfl, rfl⟩
  | str _ => rw [rep_str.mp h]; exact ⟨rfl, rfl⟩
  | _ => cases hf
theorem reps_toV {F : Hp} : ∀ {ds : List D} {xs : List V}, Reps K F ds xs → ds.all D.flat = true → xs = ds.map D.toV ∧ xs.all flatV = true
  | [], _, h, _ => by rw [reps_nil] at h; subst h; exact ⟨rfl, rfl⟩
  | d :: ds, _, h, hf => by
    rw [reps_cons] at h
    obtain ⟨x, r, rfl, a, t⟩ := h
    rw [List.all_cons, Bool.and_eq_true] at hf
    obtain ⟨e1, f1⟩ := rep_toV a hf.1
    obtain ⟨e2, f2⟩ := reps_toV t hf.2
    rw [e2] at f2
    refine ⟨by rw [e1, e2]; rfl, by rw [List.all_cons, f1, e2, f2]; rfl⟩
theorem opD_in {neg : Bool} {kb : Kd} (hk : kb = .sl ds ∨ kb = .st ds) (hf : d.flat = true) (hfs : ds.all D.flat = true) : OpD K (rIn K neg) (.v d) kb (.v (.bl (if neg then !inV d.toV (ds.map D.toV) else inV d.toV (ds.map D.toV)))) := fun F H x y sb hx hy Q q => by
  obtain ⟨e1, f1⟩ := rep_toV (show Rep K F d x from hx) hf
  rcases hk with rfl | rfl
  · obtain ⟨l, xs, rfl, hl, r⟩ := ri_sl hy
    obtain ⟨e2, f2⟩ := reps_toV r hfs
    exact ⟨l, xs, rfl, .inl hl, f1, f2, by rw [e1, e2]; exact fin_bl sb q⟩
  · obtain ⟨l, xs, rfl, hl, r⟩ := ri_st hy
    obtain ⟨e2, f2⟩ := reps_toV r hfs
    exact ⟨l, xs, rfl, .inr hl, f1, f2, by rw [e1, e2]; exact fin_bl sb q⟩
theorem cm_in (ha : EV X ρ a (.v d)) (hb : EV X ρ b kb) (hk : kb = .sl ds ∨ kb = .st ds) (hf : d.flat = true) (hfs : ds.all D.flat = true) (hm : behindInMarks .In b = false := by rfl) : Cm X ρ .In a b (inV d.toV (ds.map D.toV)) := ⟨_, _, kb, op_in_seq, opD_in (neg := false) hk hf hfs, ha, hb, hm⟩
theorem cm_notIn (ha : EV X ρ a (.v d)) (hb : EV X ρ b kb) (hk : kb = .sl ds ∨ kb = .st ds) (hf : d.flat = true) (hfs : ds.all D.flat = true) (hm : behindInMarks .NotIn b = false := by rfl) : Cm X ρ .NotIn a b (!inV d.toV (ds.map D.toV)) := ⟨_, _, kb, op_notIn_seq, opD_in (neg := true) hk hf hfs, ha, hb, hm⟩
theorem inV_ints {i : Int} : ∀ {ns : List Int}, inV (.int i) (ns.map V.int) = decide (i ∈ ns)
  | [] => by simp [inV]
  | n :: ns => by
    have ih := inV_ints (i := i) (ns := ns)
    unfold inV at ih ⊢
    rw [List.map_cons, List.any_cons, ih]
    by_cases h : n = i
    · subst h; simp [eqV]
    · have : ¬ i = n := fun z => h z.symm
      simp [eqV, h, this]

/-! ### dicts -/
def valD (kvs : List (Key × D)) (k : Key) : Option D := (kvs.find? fun kv => decide (kv.1 = k)).map (·.2)
def putD (kvs : List (Key × D)) (k : Key) (v : D) : List (Key × D) :=
  if (kvs.any fun kv => decide (kv.1 = k)) = true then kvs.map (fun kv => if kv.1 = k then (kv.1, v) else kv) else kvs ++ [(k, v)]
theorem repK_nil {F : Hp} : RepK K F [] [] := ⟨rfl, reps_nil.mpr rfl⟩
theorem repK_cons {F : Hp} {k : Key} {kvs : List (Key × D)} {vs : List (Key × V)} : RepK K F ((k, d) :: kvs) vs ↔ ∃ x r, vs = (k, x) :: r ∧ Rep K F d x ∧ RepK K F kvs r := by
  constructor
  · rintro ⟨h1, h2⟩
    cases vs with
    | nil => simp at h1
    | cons u us =>
      obtain ⟨k', x⟩ := u
      simp only [List.map_cons, List.cons.injEq] at h1 h2
      obtain ⟨y, ys, e, r1, r2⟩ := reps_cons.mp h2
      cases e
      exact ⟨x, us, by rw [h1.1], r1, h1.2, r2⟩
  · rintro ⟨x, r, rfl, r1, h1, r2⟩
    exact ⟨by simp [h1], reps_cons.mpr ⟨x, _, rfl, r1, r2⟩⟩
theorem RepK.val {F : Hp} : ∀ {kvs : List (Key × D)} {vs : List (Key × V)} {k : Key}, RepK K F kvs vs → (match valD kvs k with | some d => ∃ x, valV vs k = some x ∧ Rep K F d x | none => valV vs k = none)
  | [], vs, k, h => by
    have : vs = [] := by have := h.1; simpa using this
    subst this
    rfl
  | (k1, d1) :: kvs, vs, k, h => by
    obtain ⟨x, r, rfl, r1, h2⟩ := repK_cons.mp h
    have ih := RepK.val (k := k) h2
    by_cases e : k1 = k
    · subst e
      have e1 : valD ((k1, d1) :: kvs) k1 = some d1 := by simp [valD]
      rw [e1]
      exact ⟨x, by simp [valV], r1⟩
    · have e1 : valD ((k1, d1) :: kvs) k = valD kvs k := by simp [valD, e]
      have e2 : valV ((k1, x) :: r) k = valV r k := by simp [valV, e]
      rw [e1, e2]
      exact ih
theorem RepK.any {F : Hp} {kvs : List (Key × D)} {vs : List (Key × V)} {k : Key} (h : RepK K F kvs vs) : (vs.any fun kv => decide (kv.1 = k)) = (kvs.any fun kv => decide (kv.1 = k)) := by
  have e1 : (vs.any fun kv => decide (kv.1 = k)) = ((vs.map (·.1)).any fun y => decide (y = k)) := by rw [List.any_map]; rfl
  have e2 : (kvs.any fun kv => decide (kv.1 = k)) = ((kvs.map (·.1)).any fun y => decide (y = k)) := by rw [List.any_map]; rfl
  rw [e1, e2, h.1]
theorem RepK.app {F : Hp} {kvs kvs' : List (Key × D)} {vs vs' : List (Key × V)} (h : RepK K F kvs vs) (h' : RepK K F kvs' vs') : RepK K F (kvs ++ kvs') (vs ++ vs') :=
  ⟨by rw [List.map_append, List.map_append, h.1, h'.1], by rw [List.map_append, List.map_append]; exact h.2.app h'.2⟩
theorem RepK.repl {F : Hp} {k : Key} {y : V} (ry : Rep K F d y) : ∀ {kvs : List (Key × D)} {vs : List (Key × V)}, RepK K F kvs vs → RepK K F (kvs.map fun kv => if kv.1 = k then (kv.1, d) else kv) (vs.map fun kv => if kv.1 = k then (kv.1, y) else kv)
  | [], vs, h => by
    have : vs = [] := by have := h.1; simpa using this
    subst this
    exact repK_nil
  | (k1, d1) :: kvs, vs, h => by
    obtain ⟨x, r, rfl, r1, h2⟩ := repK_cons.mp h
    have ih := RepK.repl (k := k) ry h2
    rw [List.map_cons, List.map_cons]
    by_cases e : k1 = k
    · simp only [if_pos e]
      exact repK_cons.mpr ⟨y, _, rfl, ry, ih⟩
    · simp only [if_neg e]
      exact repK_cons.mpr ⟨x, _, rfl, r1, ih⟩
theorem RepK.put {F : Hp} {kvs : List (Key × D)} {vs : List (Key × V)} {k : Key} {y : V} (h : RepK K F kvs vs) (ry : Rep K F d y) : RepK K F (putD kvs k d) (putK vs k y) := by
  unfold putD putK
  rw [h.any (k := k)]
  split
  · exact h.repl ry
  · exact h.app (repK_cons.mpr ⟨y, [], rfl, ry, repK_nil⟩)
theorem RepK.length {F : Hp} {kvs : List (Key × D)} {vs : List (Key × V)} (h : RepK K F kvs vs) : vs.length = kvs.length := by
  have := congrArg List.length h.1
  simpa using this
/-- the key that data is -/
def D.key : D → Option Key
  | .int i => some (.inl i)
  | .str x => some (.inr x)
  | _ => none
theorem rep_key {F : Hp} {x : V} {k : Key} (h : Rep K F d x) (hk : d.key = some k) : x = kV k := by
  cases d with
  | int _ => cases hk; exact rep_int.mp h
  | str _ => cases hk; exact rep_str.mp h
  | _ => cases hk
theorem tv_din {m : Nat} {kvs : List (Key × D)} {k : Key} (hr : Room m X.A) (ha : EV X ρ a (.v d)) (hk : d.key = some k) (hb : EV X ρ b (.dq kvs)) (hm : behindInMarks .In b = false := by rfl) : TV X ρ (.Compare a [.In] [b] pos) (valD kvs k).isSome :=
  TV.of (pt_cmp (pc_din (hu_of hr) pe_wp pe_wp) hm) fun F0 H0 F H σ S Q q => by
    refine ha F0 H0 F H σ S _ fun x F1 H1 g1 r1 => ?_
    refine hb F0 H0 F1 H1 σ (S.grow g1) _ fun y F2 H2 g2 r2 => ?_
    obtain ⟨l, vs, rfl, hl, rr⟩ := r2
    have ex := rep_key (show Rep X.K F1 d x from r1) hk
    subst ex
    refine ⟨l, _, rfl, DGet.k hl, (valD kvs k).isSome, ?_, q F2 H2 (g1.trans g2)⟩
    have z := rr.val (k := k)
    cases e : valD kvs k with
    | some d' => rw [e] at z; obtain ⟨u, hu, _⟩ := z; rw [hu]; rfl
    | none => rw [e] at z; rw [z]; rfl
theorem tv_dnotin {m : Nat} {kvs : List (Key × D)} {k : Key} (hr : Room m X.A) (ha : EV X ρ a (.v d)) (hk : d.key = some k) (hb : EV X ρ b (.dq kvs)) (hm : behindInMarks .NotIn b = false := by rfl) : TV X ρ (.Compare a [.NotIn] [b] pos) (!(valD kvs k).isSome) :=
  TV.of (pt_cmp (pc_dnotin (hu_of hr) pe_wp pe_wp) hm) fun F0 H0 F H σ S Q q => by
    refine ha F0 H0 F H σ S _ fun x F1 H1 g1 r1 => ?_
    refine hb F0 H0 F1 H1 σ (S.grow g1) _ fun y F2 H2 g2 r2 => ?_
    obtain ⟨l, vs, rfl, hl, rr⟩ := r2
    have ex := rep_key (show Rep X.K F1 d x from r1) hk
    subst ex
    refine ⟨l, _, rfl, DGet.k hl, !(valD kvs k).isSome, ?_, q F2 H2 (g1.trans g2)⟩
    have z := rr.val (k := k)
    cases e : valD kvs k with
    | some d' => rw [e] at z; obtain ⟨u, hu, _⟩ := z; rw [hu]; rfl
    | none => rw [e] at z; rw [z]; rfl
theorem ev_dget {m : Nat} {kvs : List (Key × D)} {k : Key} {dv : D} (hr : Room m X.A) (hb : EV X ρ b (.dq kvs)) (ha : EV X ρ a (.v d)) (hk : d.key = some k) (hv : valD kvs k = some dv) (hs : NoSl a := by exact fun _ _ => rfl) : EV X ρ (.Subscript b a pos) (.v dv) :=
  EV.of (pe_dget (hu_of hr) pe_wp pe_wp hs) fun F0 H0 F H σ S Q q => by
    refine hb F0 H0 F H σ S _ fun y F1 H1 g1 r1 => ?_
    refine ha F0 H0 F1 H1 σ (S.grow g1) _ fun x F2 H2 g2 r2 => ?_
    obtain ⟨l, vs, rfl, hl, rr⟩ := r1.grow g2
    have ex := rep_key (show Rep X.K F2 d x from r2) hk
    subst ex
    have z := rr.val (k := k)
    rw [hv] at z
    obtain ⟨u, hu, ru⟩ := z
    exact ⟨l, u, rfl, by rw [← hu]; exact DGet.k hl, q u F2 H2 (g1.trans g2) ru⟩
/-- {k: v} -/
theorem ev_disp1 {k : Key} {dv : D} (ha : EV X ρ a (.v d)) (hk : d.key = some k) (hb : EV X ρ b (.v dv)) : EV X ρ (.Dict [some a] [b] pos) (.nd [(k, dv)]) :=
  EV.of (pe_disp (pps_cons pe_wp pe_wp pps_nil) (by rfl) (by rfl) (fun z => by cases z) (by show 1 ≤ 15; decide)) fun F0 H0 F H σ S Q q => by
    intro l hl
    have g0 : Grow F H F (upd H l (.dK [])) := Grow.newO S.sub hl
    refine ha F0 H0 F _ σ (S.grow g0) _ fun x F1 H1 g1 r1 => ?_
    refine hb F0 H0 F1 H1 σ ((S.grow g0).grow g1) _ fun y F2 H2 g2 r2 => ?_
    have ex := rep_key (show Rep X.K F1 d x from r1) hk
    subst ex
    have l2 : H2 l = some (.dK []) := g2.h _ _ (g1.h _ _ upd_same)
    have f2 : F2 l = none := (g1.trans g2).n l (S.sub.free hl) (by rw [upd_same]; simp)
    refine ⟨l2, [(k, y)], rfl, by show 1 ≤ 15; decide, q _ F2 _ (((g0.trans g1).trans g2).mut hl f2) ⟨l, [(k, y)], rfl, hl, f2, ?_, repK_cons.mpr ⟨y, [], rfl, r2, repK_nil⟩⟩⟩
    rw [upd_same]
    rfl
theorem ev_dict0 : EV X ρ (.Dict [] [] pos) (.nd []) := EV.of pe_dnewK fun F0 H0 F H σ S Q q => fun l hl => q _ F _ (Grow.newO S.sub hl) ⟨l, [], rfl, hl, S.sub.free hl, upd_same, repK_nil⟩
end
section
variable {X : Cx} {W : WX} {N : List Str} {nm : List (Str × NameKind)} {ρ ρ' : Rho} {e a b c : Expr} {pos p p' : Pos} {d d2 : D} {ds : List D} {P : Out → Prop}
/-- x[b] = e, x's dict owned -/
theorem ss_dput {x : Str} {i m : Nat} {kvs : List (Key × D)} {k : Key} {px : Pos} (B : Bd X N nm) (hr : Room m X.A) (hi : Sk N ρ x i (some (.od kvs))) (hv : Vs nm x) (h : EV X ρ e (.v d)) (hb : EV X ρ b (.v d2)) (hk : d2.key = some k) (hl : kvs.length < sizeLine) (hu : Up N ρ x i (some (.od (putD kvs k d))) ρ') (q : P (.nx ρ'))
    (hd : (x == ("__debug__" : Str)) = false := by decide) (hcd : (x == ("__classdict__" : Str)) = false := by decide) (hs : swapsWith e (some (.Subscript (.Name x px) b p)) pos.line X.env = pure false := by rfl) : SS X W ρ (.Assign [.Subscript (.Name x px) b p] e pos) P :=
  SS.of (ps_dput (hu_of hr) (pe_nm B hi hv hd hcd) pe_wp pe_wp hs) fun F0 H0 F H σ Zz S E => by
    refine h F0 H0 F H σ S _ fun v F1 H1 g1 r1 => ?_
    obtain ⟨y, vs, e1, h0, hf, l, r⟩ := (S.grow g1).ok i _ hi.get.2
    refine ⟨_, e1, hb F0 H0 F1 H1 σ (S.grow g1) _ fun w F2 H2 g2 r2 => ?_⟩
    have ew := rep_key (show Rep X.K F2 d2 w from r2) hk
    subst ew
    have S2 := (S.grow g1).grow g2
    have l2 : H2 y = some (.dK vs) := g2.h _ _ l
    refine ⟨y, _, rfl, DPut.k l2 (by rw [r.length]; exact hl), ?_⟩
    obtain ⟨_, rfl, _⟩ := hu.get
    exact E.nx _ F2 _ σ (S2.mut (s' := .od (putD kvs k d)) hi.get.2 rfl rfl e1 ⟨y, _, rfl, h0, g2.n y hf (by rw [l]; simp), upd_same, (r.mono g2.f).put (Rep.mono g2.f d v r1)⟩) q
end
end DL

end

section
set_option Elab.async false
set_option linter.all false
set_option maxRecDepth 100000
set_option maxHeartbeats 4000000
/-! Set comprehensions of ints; sorted of a set of any size below the line of scans. -/
namespace DL
open PySem PySem.Spec PyProof.Rows L2 PpSet

section
variable {X : Cx}
/-- {elt for target in iter if ..}, elt an int; Dd the new set -/
def tScI (w : World) (wi : TI) (g : TG) (tt : TT) (te : TE) (vs : List Nat) : TE := fun σ H Q => wi σ H fun J H1 => ∀ Dd, H1 Dd = none →
  ∃ W : Nat → Nat → Hp → Prop, (∃ m, W 0 m (upd H1 Dd (SetO w Dd (fun _ => false) 0))) ∧ ∀ i m H, W i m H →
    (J.stop i H ∧ Q (.ref Dd) H) ∨ (J.go i H ∧ ∃ Nx : Hp → Prop, (∀ H', Nx H' → ∃ m', m' < m ∧ W (i + 1) m' H') ∧ ∀ x H', J.yld i H x H' → g x (L2.wipe σ vs) H' fun σ2 H2 => L2.wipe σ2 vs = L2.wipe σ vs ∧
      tt σ2 H2 fun b H3 => if b = true then te σ2 H3 fun y H4 => ∃ (c : Int) (S : Int → Bool) (n : Nat), y = .int c ∧ H4 Dd = some (SetO w Dd S n) ∧ n + 1 < scanBound ∧
        Nx (upd H4 Dd (SetO w Dd (fun j => S j || decide (j = c)) (if S c = true then n else n + 1))) else Nx H3)
theorem addI {pins : List (Addr × Obj)} {σ : L2.St} {H : Hp} {s : Shared} {E : Value → Shared → Prop} {a : Addr} {S : Int → Bool} {n : Nat} {c : Int} {tk : Tok} {Q : Value → Shared → Prop} (I : Inv X pins σ H s) (ha : H a = some (SetO X.w a S n)) (room : n + 1 < scanBound)
    (h : ∀ s', Inv X pins σ (upd H a (SetO X.w a (fun j => S j || decide (j = c)) (if S c = true then n else n + 1))) s' → Q .none s') : wpAny (model X.prog X.w) X.A (call (.builtin "set.add") [.ref a, .int c tk]) Q E s := by
  apply setR_add (setO_get I ha) room
  intro h' sb new
  have there : ∃ u, h'.get? a = some u := new.elim fun o z => by
    obtain ⟨_, _, _, ho, _⟩ := z
    exact ⟨o, ho⟩
  apply h
  exact I.write (e := a) (t' := s.toks + 1) (by rw [ha]; trivial) (.inl rfl) (fun b u hb hu => (sb.2 b hb).trans hu) there (setO_new new)
theorem pe_scI {elt tg iter : Expr} {ifs : List Expr} {scope : Scope} {own : List (Str × Nat)} {pos : Pos} {wi : TI} {g : TG} {tt : TT} {te : TE} (hc : X.calm = true) (hN : X.N.Nodup) (hi : PI X tg iter wi) (ok : BlkOk X.N X.env.scope scope own)
    (hg : ∀ (s : Shared) (H : Hp) (C : Addr) (cl : List (Str × Addr)) (fp : List Addr), PG (X.blk s H scope (compEnvC scope cl C X.env) fp) tg g)
    (ht : ∀ (s : Shared) (H : Hp) (C : Addr) (cl : List (Str × Addr)) (fp : List Addr), PTs (X.blk s H scope (compEnvC scope cl C X.env) fp) ifs tt)
    (he : ∀ (s : Shared) (H : Hp) (C : Addr) (cl : List (Str × Addr)) (fp : List Addr), PE (X.blk s H scope (compEnvC scope cl C X.env) fp) elt te)
    (hs : ∀ x, foldedSetIterable iter X.env x = pure x) : PE X (.SetComp elt [⟨tg, iter, ifs, 0⟩] scope pos) (tScI X.w wi g tt te (own.map (·.2))) := by
  constructor
  intro pins s σ H Q I h
  rw [eval_SetComp]
  have hfree : ∀ y ∈ scope.names, y.2 = .free → ∃ c, X.env.cells.lookup y.1 = some c := by
    intro y hy e
    have z := ok.free y hy e
    rcases z with z | z
    · exact I.ok.has _ (.inl z)
    · exact I.ok.has _ (.inr z)
  refine wpAny_comprehension_free (use := none) rfl hs (closure_ok hfree) ok.kind (fun y hy e => by rw [ok.uniq y hy, e]) (thn (hi.run pins s σ H _ I h) ?_)
  intro xv s1 hx
  refine thn hx ?_
  rintro itv s2 ⟨it, fp, tn, J, H2, rfl, I2, T, st2, f2, q⟩
  apply newSet_ok
  apply newEnv_comp
  obtain ⟨Dd, hD⟩ : ∃ Dd, s2.heap.objs.size = Dd := ⟨_, rfl⟩
  rw [hD]
  have hDn : H2 Dd = none := I2.hok.fresh (Nat.le_of_eq hD)
  obtain ⟨W, ⟨m0, w0⟩, turn⟩ := q Dd hDn
  obtain ⟨s3, hs3⟩ : ∃ s3 : Shared, s3 = { s2 with heap := s2.heap.push { cls := .type "set", dict := none, data := .set #[] 0 (.fresh 0 0 (!X.w.params.followText "set-order")) } } := ⟨_, rfl⟩
  have e3 : s3.heap = s2.heap.push { cls := .type "set", dict := none, data := .set #[] 0 (.fresh 0 0 (!X.w.params.followText "set-order")) } := by rw [hs3]
  have z3 : s3.heap.objs.size = s2.heap.objs.size + 1 := by rw [e3, Heap.size_push]
  have I3 : Inv X pins σ (upd H2 Dd (SetO X.w Dd (fun _ => false) 0)) s3 := by
    subst hs3
    subst hD
    exact I2.laid (t' := s2.toks) (fun b o e => Heap.get?_push_of_some _ e) (Nat.le_refl _) (setO_new (setR_fresh X.w))
  obtain ⟨H3, hH3⟩ : ∃ H3, H3 = upd H2 Dd (SetO X.w Dd (fun _ => false) 0) := ⟨_, rfl⟩
  rw [← hH3] at I3 w0
  have old : ∀ b ∈ fp, b < s2.heap.objs.size := by
    intro b hb
    obtain ⟨o, e, _⟩ := T.obj _ _ st2 b hb
    exact Heap.lt_size e
  have f3 : ∀ b ∈ fp, FpOk X pins H3 b ∧ b < s3.heap.objs.size := by
    intro b hb
    have lt := old b hb
    have nb : H3 b = none := by rw [hH3, upd_ne (by rw [← hD]; exact Nat.ne_of_lt lt)]; exact (f2 b hb).1
    exact ⟨⟨nb, (f2 b hb).2⟩, by rw [z3]; exact Nat.lt_succ_of_lt lt⟩
  have st3 : tn 0 s3.heap := by
    refine T.keep _ _ _ st2 ?_
    intro b _ o e
    rw [e3]
    exact Heap.get?_push_of_some _ e
  have I4 := block_start I3 ok hN f3
  obtain ⟨cl, hcl⟩ : ∃ cl, cl = cellsFrom (s3.heap.objs.size + 1) scope.names (cloFrom X.env.cells scope.names []) := ⟨_, rfl⟩
  rw [← hcl] at I4
  have pg := hg s3 H3 s3.heap.objs.size cl fp
  have pt := ht s3 H3 s3.heap.objs.size cl fp
  have pe := he s3 H3 s3.heap.objs.size cl fp
  obtain ⟨ce, hce⟩ : ∃ ce, ce = compEnvC scope cl s3.heap.objs.size X.env := ⟨_, rfl⟩
  rw [← hce] at I4 pg pt pe
  have cL : ce.locals = s3.heap.objs.size := by rw [hce]; rfl
  obtain ⟨s4, hs4⟩ : ∃ s4 : Shared, s4 = { s3 with heap := pushCells (s3.heap.push { cls := .type "dict", data := .dict #[] }) scope.names } := ⟨_, rfl⟩
  rw [← hs4] at I4
  have st4 : tn 0 s4.heap := by
    refine T.keep _ _ _ st3 ?_
    intro b _ o e
    rw [hs4]
    exact pushCells_keeps _ _ _ _ (Heap.get?_push_of_some _ e)
  have goal : codeAny (model X.prog X.w) X.A (.compStart (.SetComp elt [⟨tg, iter, ifs, 0⟩] scope pos) 0 (.ref it) (.ref Dd) ce) (compPost (model X.prog X.w) X.A X.xe none (EP X pins σ Q) (.ref Dd) s3.heap.objs.size) s4 := by
    have stay : ∀ {σ' : L2.St} {H' : Hp} {s' : Shared}, Inv (X.blk s3 H3 scope ce fp) [] σ' H' s' → (∀ b ∈ fp, H' b = none) → ∀ b ∈ fp, FpOk (X.blk s3 H3 scope ce fp) [] H' b := by
      intro σ' H' s' I' hn b hb
      have y := I'.ok.exf b hb
      exact ⟨hn b hb, y.1, I'.ok.exfs b hb, .inl hb, fun x c e => y.2 x c e, fun p hp => absurd (show p ∈ ([] : List (Addr × Obj)) ++ [] from hp) (by simp)⟩
    have loop : codeAny (model X.prog X.w) X.A (.compLoop (.SetComp elt [⟨tg, iter, ifs, 0⟩] scope pos) 0 (.ref it) (.ref Dd) ce) (compPost (model X.prog X.w) X.A X.xe none (EP X pins σ Q) (.ref Dd) s3.heap.objs.size) s4 := by
      refine compLoopS_any (fun n s' => ∃ i H', Inv (X.blk s3 H3 scope ce fp) [] (L2.wipe σ (own.map (·.2))) H' s' ∧ tn i s'.heap ∧ (∀ b ∈ fp, H' b = none) ∧ W i n H') ?_ m0 ⟨0, H3, I4, st4, fun b hb => (f3 b hb).1.1, w0⟩
      rintro n s5 ⟨i, H5, I5, st5, n5, w5⟩
      rcases turn i n H5 w5 with ⟨stop, qq⟩ | ⟨go, Nx, hNx, step⟩
      · refine thnF (T.done (X.blk s3 H3 scope ce fp) rfl rfl rfl hc i [] s5 _ H5 (fun _ _ => False) I5 (stay I5 n5) st5 stop) ?_
        rintro r s6 ⟨rfl, I6⟩
        have I7 : Inv X pins σ H5 s6 := by
          refine I3.call' (ch := fp) I6.os I6.base I6.hok I6.bare ?_
          intro b hb
          have y := (f3 b hb).1.2
          exact ⟨y.2.2.1, y.1, y.2.2.2.1, y.2.2.2.2⟩
        have nC : H5 s3.heap.objs.size = none := by
          have z : H5 ce.locals = none := I6.free
          rwa [cL] at z
        obtain ⟨m, hn, _⟩ := I6.loc
        have hn' : s6.heap.Ns ce.locals m := hn
        rw [cL] at hn'
        obtain ⟨f0, f1, f2', f3', f4, f5⟩ := I3.fpOk (Nat.le_refl _) nC
        refine ⟨m, hn', ?_⟩
        intro h'' sb
        exact ⟨.ref Dd, H5, I7.turned (t' := s6.toks) (fun b o hb e => (sb.2 b hb).trans e) f0 f1 f3' f4 f5, rfl, qq⟩
      · refine thnF (T.item (X.blk s3 H3 scope ce fp) rfl rfl rfl hc i [] s5 _ H5 (fun _ _ => False) I5 (stay I5 n5) st5 go) ?_
        rintro r s6 ⟨u, rfl, h6⟩
        refine thnF h6 ?_
        rintro _ s7 ⟨x, H7, I7, r7, y7, st7, n7⟩
        have J7 := I7.pinned (stay I7 n7) (T.obj _ _ st7)
        refine thnF (pg.run _ s7 _ H7 x u _ J7 r7 (step x H7 y7)) ?_
        rintro _ s8 ⟨σ8, H8, I8, hw8, q8⟩
        refine thnF (pt.run _ s8 σ8 H8 _ I8 q8) ?_
        rintro b s9 ⟨H9, I9, q9⟩
        have fin : ∀ {s' : Shared} {H' : Hp}, Inv (X.blk s3 H3 scope ce fp) ([] ++ pinsAt fp s7.heap) σ8 H' s' → Nx H' →
            ∃ m, m < n ∧ ∃ i H', Inv (X.blk s3 H3 scope ce fp) [] (L2.wipe σ (own.map (·.2))) H' s' ∧ tn i s'.heap ∧ (∀ b ∈ fp, H' b = none) ∧ W i m H' := by
          intro s' H' I' nx
          obtain ⟨m', hm, w'⟩ := hNx H' nx
          have pin' : ∀ b ∈ fp, ∀ o, s7.heap.get? b = some o → s'.heap.get? b = some o ∧ H' b = none := by
            intro b hb o e
            have z := I'.pin (b, o) (List.mem_append_right _ (List.mem_append_right _ (mem_pinsAt hb e)))
            exact ⟨z.1, z.2.1⟩
          refine ⟨m', hm, i + 1, H', (I'.unpinned (pins := [])).weak (by rw [← hw8, wipe_length]) ?_, T.keep _ _ _ st7 (fun b hb o e => (pin' b hb o e).1), ?_, w'⟩
          · intro j v e
            rw [← hw8] at e
            exact (wipe_some e).1
          · intro b hb
            obtain ⟨o, e, _⟩ := T.obj _ _ st7 b hb
            exact (pin' b hb o e).2
        cases b with
        | false =>
          rw [if_neg Bool.false_ne_true] at q9
          rw [if_neg Bool.false_ne_true]
          exact fin I9 q9
        | true =>
          rw [if_pos rfl] at q9
          rw [if_pos rfl]
          refine thnF (pe.run _ s9 σ8 H9 _ I9 q9) ?_
          rintro z s10 ⟨yv, H10, I10, r10, cb, S0, n0, rfl, hD10, hz10, nx⟩
          obtain ⟨tk, rfl⟩ := r10
          exact addI (X := X.blk s3 H3 scope ce fp) I10 hD10 hz10 fun s11 I11 => fin I11 nx
    exact codeAny_compStart_set loop (T.self X.A 0 _ _ _ st4 loop)
  rw [hs4, hce, hcl, hs3] at goal
  exact goal

/-! ### sorted of a set -/
theorem sorted_setI {prog : Program} {w : World} {A : Around} {E : Value → Shared → Prop} {s : Shared} {a : Addr} {S : Int → Bool} {n : Nat} {Q : Value → Shared → Prop} (R : SetR w s.heap a S n) (hh : A.handled = none)
    (hQ : ∀ s' p (out : List Value) (c : Nat) (ns : List Int), (∀ b o, s.heap.get? b = some o → s'.heap.get? b = some o) → s'.gens = s.gens → s'.os = s.os → s.heap.objs.size ≤ p → s'.heap.get? p = some (seqObj "list" out.toArray c) →
      IntsAre out ns → ns.Pairwise (· ≤ ·) → ns.Nodup → (∀ k, k ∈ ns ↔ S k = true) → ns.length = n → Q (.ref p) s') :
    wpAny (model prog w) A (call (.builtin "sorted") [.ref a]) Q E s := by
  obtain ⟨o, es, ep, t, ho, hex, hd, g, nd, hm, hb, hf, hn, hr, hl⟩ := R
  refine Calls.call_function_entry kind_sorted plain_sorted entry_sorted (args_sorted1 _) ?_
  unfold Builtin.«sorted»
  apply wpAny_bind (m := checkCount "sorted" 1 1 _)
  apply wpAny_pure
  apply wpAny_bind
  refine collect_set (A := A.in1) hh ⟨o, ho, hex.1, hd⟩ hf hb hr hl ?_
  intro s1 vs k1 hz g1 o1 pm
  have hvl : vs.length = n := by rw [pm.length_eq, List.length_map, Array.length_toList]; exact hn
  have hI : IntsAre vs (vs.map Builtin.Re.reRawOf) := by
    refine ints_of vs fun v hv => ?_
    obtain ⟨e, he, q⟩ := List.mem_map.mp (pm.mem_iff.mp hv)
    obtain ⟨k, tk, h1, _⟩ := g e he
    exact ⟨k, tk, by rw [← q]; exact h1⟩
  have pk : (vs.map Builtin.Re.reRawOf).Perm (es.toList.map keyOf) := by
    have q := pm.map Builtin.Re.reRawOf
    rwa [List.map_map] at q
  have lz : vs.length ≤ sizeLine := by
    have := fits_of_scanBound hb
    omega
  apply wpAny_bind
  refine wpAny_newList ?_ lz
  have hoL : (s1.heap.push (seqObj "list" vs.toArray 0)).get? s1.heap.objs.size = some (seqObj "list" vs.toArray 0) := Heap.get?_push_size _ rfl
  apply wpAny_bind
  apply wpAny_holding
  refine wpAny_call_entry slot_list_sort ⟨_, hoL, rfl⟩ entry_list_sort (SrtO.list_sort_ord SrtO.swo_int hoL lz (fun h2 => SrtO.ints_sortable hI h2) fun out a1 a2 => ⟨_, rfl, ?_⟩) (args_list_sort _)
  obtain ⟨i1, i2, i3⟩ := SrtO.ints_out hI a1 a2
  obtain ⟨c, hc⟩ := sortedHeap_at (vs := vs) (out := out.toArray) hoL
  have pn := i2.trans pk
  apply wpAny_pure
  refine ⟨_, rfl, hQ _ s1.heap.objs.size out c _ ?_ g1 o1 hz hc i1 i3 (pn.nodup_iff.mpr nd) (fun k => by rw [pn.mem_iff, ← hm k]) ?_⟩
  · intro b u e
    have q := k1 b u e
    have hlt := Heap.lt_size q
    show (sortedHeap (s1.heap.push (seqObj "list" vs.toArray 0)) s1.heap.objs.size vs out.toArray).get? b = some u
    rw [sortedHeap_old (Nat.ne_of_lt hlt) (by rw [size_push']; exact Nat.lt_succ_of_lt hlt)]
    exact Heap.get?_push_of_some _ q
  · rw [pn.length_eq, List.length_map, Array.length_toList]; exact hn

def rSortedSI (w : World) : List V → Hp → VK → Prop := fun vs H Q => ∃ (a : Addr) (S : Int → Bool) (n : Nat), vs = [V.ref a] ∧ H a = some (SetO w a S n) ∧
  ∀ (ns : List Int) (p : Addr), ns.Pairwise (· < ·) → (∀ k : Int, k ∈ ns ↔ S k = true) → H p = none → Q (.ref p) (upd H p (.lst (ns.map V.int)))
theorem cr_sortedSI (hc : X.calm = true) : CallR X (.builtin "sorted") (rSortedSI X.w) := by
  intro pins s σ H vs us Q I r h
  obtain ⟨a, S, n, rfl, ha, q⟩ := h
  have R := setO_get I ha
  rw [Vals.ref1 r]
  refine sorted_setI R (I.ok.hd hc) ?_
  intro s' p out c ns k g o hp hg hi hs hd hm hl
  have lz : (ns.map V.int).length ≤ sizeLine := by
    obtain ⟨_, es, _, _, _, _, _, _, _, _, hb, _, hn, _⟩ := R
    have := fits_of_scanBound hb
    rw [List.length_map, hl]
    omega
  have fr : H p = none := I.hok.fresh hp
  obtain ⟨h2, g2, d2, t2, o2⟩ := s'
  obtain rfl : g2 = s.gens := g
  obtain rfl : o2 = s.os := o
  refine ⟨.ref p, upd H p (.lst (ns.map V.int)), ?_, rfl, q ns p (lt_of_le_nodup ns hs hd) hm fr⟩
  exact I.call (ch := []) (Un.laid k hp fr) (I.hok.laid k hp ⟨lz, out, c, vals_of_ints hi, hg⟩) I.bare (fun _ z => nomatch z)
end
section
variable {X : Cx} {N : List Str} {nm : List (Str × NameKind)} {ρ : Rho} {α : Type} {elt tg iter : Expr} {scope : Scope} {pos p sp : Pos} {xs : List α} {φ : α → D} {f : α → Int}
/-- sorted({elt for target in iter}), ints: ms the members, rising -/
theorem ev_sortedSet {ms : List Int} (B : Bd X N nm) (hc : X.calm = true) (hgs : (("sorted" : Str), NameKind.globalImplicit) ∈ nm) (hms : X.mg "sorted" = none) (own : List (Str × Nat)) (hb : blkN N nm scope own = true) (hi : IV X ρ tg iter (xs.map φ)) (hz : xs.length < 4000)
    (ht : ∀ x ∈ xs, LcAt X N scope tg [] elt (own.map (·.2)) ρ (φ x) true (.int (f x))) (hm : ∀ ks : List Int, ks.Pairwise (· < ·) → (∀ k, k ∈ ks ↔ k ∈ xs.map f) → ks = ms)
    (hs : ∀ x, foldedSetIterable iter X.env x = pure x := by intro _; rfl) (hse : starEach ((.SetComp elt [⟨tg, iter, [], 0⟩] scope sp) :: []) X.env = (false, eval (.SetComp elt [⟨tg, iter, [], 0⟩] scope sp) X.env) :: starEach [] X.env := by rfl) :
    EV X ρ (.Call (.Name "sorted" p) [.SetComp elt [⟨tg, iter, [], 0⟩] scope sp] [] pos) (.nl (ms.map D.int)) := by
  obtain ⟨wi, hp, hw⟩ := hi
  obtain ⟨ok, hu⟩ := blkN_ok B hb
  refine EV.of (pe_callB (cr_sortedSI hc) (B.gl hgs) hms (by decide +kernel) (pa_cons (pe_scI (g := lcG X N scope tg) (tt := lcT X N scope []) (te := lcE X N scope elt) hc (by rw [B.hN]; exact B.nd) hp ok
    (fun s H C cl fp => ⟨fun pins s1 σ H1 v u Q I r h => (h _ (bk_mk B hu)).elim fun g hg => hg.1.run pins s1 σ H1 v u Q I r hg.2⟩)
    (fun s H C cl fp => ⟨fun pins s1 σ H1 Q I h => (h _ (bk_mk B hu)).elim fun g hg => hg.1.run pins s1 σ H1 Q I hg.2⟩)
    (fun s H C cl fp => ⟨fun pins s1 σ H1 Q I h => (h _ (bk_mk B hu)).elim fun g hg => hg.1.run pins s1 σ H1 Q I hg.2⟩) hs) pa_nil hse) (by decide) (by decide) hse) ?_
  intro F0 H0 F H σ S Q q
  refine hw F0 H0 F H σ S _ fun J F1 H1 g1 hgo hstop Dd hD => ?_
  have hlen : (xs.map φ).length = xs.length := List.length_map ..
  let Pv : Nat → Hp → Prop := fun i H2 => ∃ F2 Sx n, Grow F1 H1 F2 H2 ∧ F2 Dd = none ∧ H2 Dd = some (SetO X.w Dd Sx n) ∧ n ≤ i ∧ ∀ k, Sx k = true ↔ k ∈ (xs.take i).map f
  refine ⟨fun i m H2 => m = xs.length - i ∧ i ≤ xs.length ∧ Pv i H2, ⟨xs.length, by simp, Nat.zero_le _, F1, _, 0, Grow.newO g1.s hD, g1.s.free hD, upd_same, Nat.le_refl _, by simp⟩, ?_⟩
  rintro i m H2 ⟨rfl, hi, F2, Sx, n, g2, f2, l2, hn, r2⟩
  by_cases hlt : i < xs.length
  · right
    obtain ⟨go, yl⟩ := hgo i F2 H2 g2.f g2.s (by rw [hlen]; exact hlt)
    refine ⟨go, Pv (i + 1), fun H' p' => ⟨xs.length - (i + 1), by omega, rfl, hlt, p'⟩, fun x H' y => ?_⟩
    obtain ⟨e, d, hd, rd⟩ := yl x H' y
    subst e
    have hx : xs[i]? = some xs[i] := List.getElem?_eq_getElem hlt
    rw [List.getElem?_map, hx] at hd
    have hd' : φ xs[i] = d := Option.some.inj hd
    subst hd'
    have tk : xs.take (i + 1) = xs.take i ++ [xs[i]] := take_last hx
    have S2 := (S.grow g1).grow g2
    obtain ⟨ρ', hh⟩ := ht xs[i] (List.getElem_mem hlt)
    intro X' k'
    have h1 := (hh X' k').1
    unfold TgV at h1
    rw [k'.K] at h1
    refine h1 F0 H0 F2 _ _ (S2.wipe _) x rd _ fun σ2 w2 S3 => ⟨by rw [w2, wipe_wipe], fun X2 k2 => ?_⟩
    have h2 := (hh X2 k2).2.1
    unfold TsV TD at h2
    rw [k2.K] at h2
    refine h2 F0 H0 F2 _ σ2 S3 _ fun F3 H3 g3 => ?_
    show lcE X N scope elt σ2 H3 _
    intro X4 k4
    have h3 := (hh X4 k4).2.2 rfl
    unfold EV ED at h3
    rw [k4.K] at h3
    refine h3 F0 H0 F3 H3 σ2 (S3.grow g3) _ fun y F4 H4 g4 r4 => ?_
    have g34 := g3.trans g4
    have l4 : H4 Dd = some (SetO X.w Dd Sx n) := g34.h _ _ l2
    have f4 : F4 Dd = none := g34.n Dd f2 (by rw [l2]; simp)
    refine ⟨f xs[i], Sx, n, ri_int r4.ri, l4, by show n + 1 < 4096; omega, F4, _, _, (g2.trans g34).mut hD f4, f4, upd_same, by split <;> omega, fun k => ?_⟩
    rw [tk, List.map_append, List.mem_append, Bool.or_eq_true, r2 k]
    simp
  · left
    have e : i = xs.length := by omega
    subst e
    rw [List.take_length] at r2
    refine ⟨by rw [← hlen]; exact hstop F2 H2 g2.f g2.s, Dd, Sx, n, rfl, l2, fun ns p h1 h2 hp => ?_⟩
    have z := hm ns h1 fun k => by rw [h2 k, r2 k]
    subst z
    have gg := g1.trans g2
    exact q _ _ _ (gg.trans (Grow.newO gg.s hp)) ⟨p, _, rfl, gg.h.free hp, gg.s.free hp, upd_same, reps_ints _⟩
end
end DL

end

section
set_option Elab.async false
set_option linter.all false
set_option maxRecDepth 100000
set_option maxHeartbeats 4000000
/-! Raising and catching exceptions of the program's own classes, over data. -/
namespace DL
open PySem PySem.Spec PyProof.Rows L2

/-- X' sees what X sees of the program -/
structure Ck (X X' : Cx) : Prop where
  prog : X'.prog = X.prog
  w : X'.w = X.w
  K : X'.K = X.K
  mg : X'.mg = X.mg
  base : X'.base = X.base
  A : X'.A = X.A
theorem Bk.ck {X X' : Cx} {N : List Str} {scope : Scope} (k : Bk X X' N scope) : Ck X X' := ⟨k.prog, k.w, k.K, k.mg, k.base, k.A⟩
theorem Fd.ck {X X' : Cx} (k : Ck X X') {x : Str} {l : Nat} {T : List D → Res → Prop} (h : FdX X x l T) : FdX X' x l T := by
  unfold FdX
  rw [k.prog, k.w, k.K, k.mg, k.base]
  exact h

/-! ### an own error class whose __init__ stores one argument and its word -/
/-- __init__ of the class at C: the fields are fv of the arguments -/
def spI (C : Addr) (n : Nat) (fv : List V → List (Str × V)) : Sp := fun vs H Q _ => ∃ a args, vs = .ref a :: args ∧ args.length = n ∧ H a = some (exo a C none) ∧
  ∀ d, H d = none → d ≠ a → Q .non (upd (upd H d (exd d (fv args))) a (exo a C (some d)))
section
variable {P : Program} {w : World} {K : PySem.W.Frag} {mg : Str → Option Value} {base : Heap}
theorem ok_init1 {q : Str} {st : Stmt} {f C : Addr} {fd : FuncData} {fn an wd : Str} {p1 p2 p3 p4 p5 p6 p7 p8 : Pos} {j : Nat} (F : Fun K "__init__" q st f fd) (S : FnScope ["self", an] ["self", an] (defScope st))
    (hb : defBody st = [.Assign [.Attribute (.Name "self" p1) fn p2] (.Name an p3) p4, .Assign [.Attribute (.Name "self" p5) "word" p6] (.Constant (.str wd) j p7) p8])
    (T : OexC K C) (n1 : PySem.W.findIn K (.ref C) fn = some none) (n2 : PySem.W.findIn K (.ref C) "word" = some none) (hd : (an == ("__debug__" : Str)) = false) (hcd : (an == ("__classdict__" : Str)) = false) :
    FnOk P w K mg base (L2.CX P w) 1 f fd ["self", an] (spI C 1 fun args => [("word", .str wd), (fn, args.headD .non)]) := by
  refine F.okX S (fun vs H Q E h => ?_) (fun cdv A outer s H vs Q E hr h => ?_)
  · obtain ⟨a, args, rfl, hl, _⟩ := h
    simp [hl]
  · obtain ⟨a, args, rfl, hl, ha, k⟩ := h
    match args, hl with
    | [y], _ =>
    have vis : ∀ x ∈ (["self", an] : List Str), (defScope st).names.lookup x = some .local ∨ (defScope st).names.lookup x = some .cell := S.par
    have vs' : ∀ x ∈ (["self", an] : List Str), Vis (defScope st) x := fun x hx => (vis x hx).elim .inl fun z => .inr (.inl z)
    rw [hb]
    refine ⟨_, pss_cons (ps_ost (pe_var (i := 0) rfl (vs' _ (List.mem_cons_self ..))) (pe_var (i := 1) rfl (vs' _ (List.mem_cons_of_mem _ (List.mem_cons_self ..))) hd hcd)) (pss_one (ps_ost (pe_var (i := 0) rfl (vs' _ (List.mem_cons_self ..))) pe_str)), ?_⟩
    refine ⟨y, rfl, .ref a, rfl, a, C, rfl, T, n1, .inl ⟨ha, fun dx hdx hne => ?_⟩⟩
    refine ⟨.ref a, rfl, a, C, rfl, T, n2, .inr ⟨dx, [(fn, y)], upd_same, ?_, by show 1 ≤ 900; decide, ?_⟩⟩
    · rw [upd_ne hne, upd_same]
    · have e : upd (upd (upd H dx (exd dx [(fn, y)])) a (exo a C (some dx))) dx (exd dx [("word", .str wd), (fn, y)]) = upd (upd H dx (exd dx [("word", .str wd), (fn, y)])) a (exo a C (some dx)) := by
        funext b
        by_cases h1 : b = dx
        · subst h1; rw [upd_same, upd_ne hne, upd_same]
        · rw [upd_ne h1]
          by_cases h2 : b = a
          · subst h2; rw [upd_same, upd_same]
          · rw [upd_ne h2, upd_ne h2, upd_ne h1, upd_ne h1]
      show Q .non _
      rw [e]
      exact k dx hdx hne
end
/-- the class at C can be raised by its name x with n arguments -/
structure Xc (P : Program) (w : World) (K : PySem.W.Frag) (mg : Str → Option Value) (base : Heap) (x : Str) (C : Addr) (n : Nat) (fv : List V → List (Str × V)) : Prop where
  T : OexC K C
  hm : mg x = some (.ref C)
  ini : ∃ fI fd ps, PySem.W.findIn K (.ref C) "__init__" = some (some (.ref fI)) ∧ PySem.W.typeIn K (.ref fI) = some (.type "function") ∧ FnOk P w K mg base (L2.CX P w) 1 fI fd ps (spI C n fv) ∧ Binds K fd ps []
  xf : XfC K C
abbrev XcX (X : Cx) (x : Str) (C : Addr) (n : Nat) (fv : List V → List (Str × V)) : Prop := Xc X.prog X.w X.K X.mg X.base x C n fv
theorem Xc.ck {X X' : Cx} (k : Ck X X') {x : Str} {C : Addr} {n : Nat} {fv : List V → List (Str × V)} (h : XcX X x C n fv) : XcX X' x C n fv := by
  unfold XcX
  rw [k.prog, k.w, k.K, k.mg, k.base]
  exact h
section
variable {X : Cx} {W : WX} {N : List Str} {nm : List (Str × NameKind)} {ρ ρ' : Rho} {e a b c : Expr} {es : List Expr} {s : Stmt} {ss t u body : List Stmt} {kd ka kb kc : Kd} {pos p p' pos2 : Pos} {d : D} {ds : List D} {P : Out → Prop}
theorem ss_raise {x : Str} {C : Addr} {n m : Nat} {fv : List V → List (Str × V)} {fs : List (Str × D)} (Z : Sx X W) (B : Bd X N nm) (G : XcX X x C n fv) (hr : Room m X.A) (h2 : 2 ≤ m) (hg : (x, NameKind.globalImplicit) ∈ nm) (ha : AV X ρ (e :: es) ds) (hn : ds.length = n) (hn1 : n ≤ 1000)
    (hf : ∀ F vs, Reps X.K F ds vs → RepF X.K F fs (fv vs)) (q : P (.ex C fs ρ)) (hdb : (x == ("__debug__" : Str)) = false := by decide) (he : starEach (e :: es) X.env = (false, eval e X.env) :: starEach es X.env := by rfl) (hpl : (backTo pos (starEach es X.env)).any (·.1) = false := by rfl) :
    SS X W ρ (.Raise (some (.Call (.Name x p) (e :: es) [] pos)) none pos2) P := by
  obtain ⟨fI, fd, ps, iC, tI, F1, hb⟩ := G.ini
  refine SS.of (ps_raise Z.calm Z.tk (pmk_oex (dvs := []) G.T iC tI F1 (hr.mono h2) hb .nil passL (B.gl hg) G.hm pa_wp hdb he hpl)) fun F0 H0 F H σ Zz S E => ?_
  refine ha F0 H0 F H σ S _ fun vs F1' H1 g1 r1 => ⟨by rw [r1.length, hn]; exact hn1, fun y hy => ?_⟩
  refine ⟨y, vs ++ [], rfl, by rw [List.append_nil, r1.length, hn], upd_same, fun dd hdd hne => ⟨rfl, dd, fv vs, upd_same, ?_, ?_, ?_⟩⟩
  · rw [upd_ne hne, upd_same, List.append_nil]
  · rw [upd_ne hne] at hdd; exact hdd
  · have hdd' : H1 dd = none := by rw [upd_ne hne] at hdd; exact hdd
    have eh : upd (L2.del (upd (upd (upd H1 y (exo y C none)) dd (exd dd (fv (vs ++ [])))) y (exo y C (some dd))) y) dd (.xd (fv vs)) = upd H1 dd (.xd (fv vs)) := by
      funext z
      by_cases h1 : z = dd
      · subst h1; rw [upd_same, upd_same]
      · rw [upd_ne h1, upd_ne h1]
        by_cases h3 : z = y
        · subst h3; rw [del_same, hy]
        · rw [del_ne h3, upd_ne h3, upd_ne h1, upd_ne h3]
    rw [eh]
    have g2 : Grow F1' H1 (upd F1' dd (.xd (fv vs))) (upd H1 dd (.xd (fv vs))) := Grow.newF g1.s hdd'
    exact E.ex C fs dd (fv vs) ρ _ _ σ ((S.grow g1).grow g2) upd_same ((hf F1' vs r1).mono g2.f) q

/-! ### try: .. except C as n: .. -/
/-- Xs is the context of a suite that holds the error at y, of the class at C, its dict at dd -/
structure Su (X Xs : Cx) (N : List Str) (nm : List (Str × NameKind)) (y C dd : Addr) : Prop where
  ex : ∃ oe pn, Xs = X.suite y ((y, oe) :: pn) ∧ Zc (.ref C) (some dd) oe ∧ ∃ vs, oe.data = .fields vs
  bd : Bd Xs N nm
def SuiteP (i : Nat) (P : Out → Prop) : Out → Prop
  | .nx ρ => P (.nx (ρ.set i none))
  | .bk ρ => P (.bk (ρ.set i none))
  | .ct ρ => P (.ct (ρ.set i none))
  | .rt kd => P (.rt kd)
  | .ex _ _ _ => False
theorem bd_suite {y : Addr} {pn : List (Addr × Obj)} (B : Bd X N nm) : Bd (X.suite y pn) N nm := ⟨B.hN, B.nd, B.gd, B.lk⟩
theorem repF_exc {K : PySem.W.Frag} {F : Hp} {fs : List (Str × D)} {ws : List (Str × V)} {y dd : Addr} (h : F dd = some (.xd ws)) (r : RepF K F fs ws) : Rep K F (.exc y dd (fs.map (·.1)) (fs.map (·.2))) (.ref y) := by
  unfold Rep
  have e1 : (fs.map (·.1)).zip (ws.map (·.2)) = ws := by
    rw [← r.1]
    clear r h
    induction ws with
    | nil => rfl
    | cons u us ih => simp [ih]
  have l1 : (fs.map (·.1)).length = (ws.map (·.2)).length := by
    have := congrArg List.length r.1
    simpa using this.symm
  exact ⟨rfl, ws.map (·.2), by rw [e1]; exact h, l1, r.2⟩
theorem ss_try1 {x n : Str} {i : Nat} {C0 : Addr} {b₀ : Stmt} {suite : List Stmt} {np q1 : Pos} {Pb : Out → Prop} (Z : Sx X W) (B : Bd X N nm) (hi : At N i n) (hln : (n, NameKind.local) ∈ nm) (hx : (x, NameKind.globalImplicit) ∈ nm) (hm : X.mg x = some (.ref C0))
    (hb : ∀ X1 W1, Ck X X1 → Sx X1 W1 → Bd X1 N nm → SD X1 W1 ρ body Pb)
    (nx : ∀ ρ, Pb (.nx ρ) → P (.nx ρ)) (bk : ∀ ρ, Pb (.bk ρ) → P (.bk ρ)) (ct : ∀ ρ, Pb (.ct ρ) → P (.ct ρ)) (rt : ∀ kd, Pb (.rt kd) → P (.rt kd))
    (ex : ∀ C fs ρ', Pb (.ex C fs ρ') → ∃ k, PySem.W.exmOne X.K (.ref C) (.ref C0) = some k ∧ (k = false → P (.ex C fs ρ')) ∧
      (k = true → ∀ Xs y dd, Su X Xs N nm y C dd → SD Xs W (ρ'.set i (some (.fz (.exc y dd (fs.map (·.1)) (fs.map (·.2)))))) (b₀ :: suite) (SuiteP i P)))
    (hdb : (x == ("__debug__" : Str)) = false := by decide) : SS X W ρ (.Try body [.ExceptHandler (some (.Name x np)) (some n) (b₀ :: suite) q1] [] [] pos) P :=
  SS.of (ps_try_as (i := i) (c := .ref C0) (Wout := W) (tb := fun Wb D σ H => ∀ X1, Ck X X1 → Sx X1 Wb → Bd X1 N nm → wpSs X1 body D σ H)
    (ts := fun y cls d D σ H => ∀ Xs, (∃ oe pn, Xs = X.suite y ((y, oe) :: pn) ∧ Zc cls d oe ∧ ∃ vs, oe.data = .fields vs) → wpSs Xs (b₀ :: suite) D σ H)
    Z.hs Z.hf (by rw [B.hN]; exact B.nd) (by rw [B.hN]; exact hi.get) (B.loc0 hln) ⟨B.gl hx, hdb, .inl hm⟩ Z.tk
    (fun Wb pn xe tk po => ⟨fun pins s1 σ H D I h => (h (X.tr pn xe) ⟨rfl, rfl, rfl, rfl, rfl, rfl⟩ ⟨tk, po, Z.calm, Z.fn, Z.hs, Z.hf⟩ ⟨B.hN, B.nd, B.gd, B.lk⟩).elim fun g hg => hg.1.run pins s1 σ H D I hg.2⟩)
    (fun y oe cls d pn hz hf => ⟨fun pins s1 σ H D I h => (h (X.suite y ((y, oe) :: pn)) ⟨oe, pn, rfl, hz, hf⟩).elim fun g hg => hg.1.run pins s1 σ H D I hg.2⟩)) fun F0 H0 F H σ Zz S E => by
    intro X1 k1 s1 b1
    have hS : Stt X1.K F0 H0 F H σ ρ := by rw [k1.K]; exact S
    refine hb X1 _ k1 s1 b1 F0 H0 F H σ Zz hS ?_
    rw [k1.K]
    refine ⟨fun ρ2 F2 H2 σ2 S2 q => E.nx ρ2 F2 H2 σ2 S2 (nx ρ2 q), fun ρ2 F2 H2 σ2 S2 q => E.bk ρ2 F2 H2 σ2 S2 (bk ρ2 q), fun ρ2 F2 H2 σ2 S2 q => E.ct ρ2 F2 H2 σ2 S2 (ct ρ2 q), fun kd v F2 H2 g r q => E.rt kd v F2 H2 g r (rt kd q), ?_⟩
    intro C fs dd ws ρ2 F2 H2 σ2 S2 hd hw q
    obtain ⟨k, hk, no, yes⟩ := ex C fs ρ2 q
    refine ⟨k, hk, fun kt y hy => ?_, fun kf => E.ex C fs dd ws ρ2 F2 H2 σ2 S2 hd hw (no kf)⟩
    rintro Xs ⟨oe, pn, rfl, hz, hf⟩
    have S3 : Stt X.K F0 H0 F2 H2 (σ2.set i (some (.ref y))) (ρ2.set i (some (.fz (.exc y dd (fs.map (·.1)) (fs.map (·.2)))))) := S2.put (repF_exc hd hw)
    refine yes kt (X.suite y ((y, oe) :: pn)) y dd ⟨⟨oe, pn, rfl, hz, hf⟩, bd_suite B⟩ F0 H0 F2 H2 _ _ S3 ⟨fun ρ4 F4 H4 σ4 S4 q => ?_, fun ρ4 F4 H4 σ4 S4 q => ?_, fun ρ4 F4 H4 σ4 S4 q => ?_, fun kd v F4 H4 g r q => E.rt kd v F4 H4 g r q, fun _ _ _ _ _ _ _ _ _ _ _ q => q.elim⟩
    · exact E.nx _ F4 H4 _ (S4.lose (i := i)) q
    · exact E.bk _ F4 H4 _ (S4.lose (i := i)) q
    · exact E.ct _ F4 H4 _ (S4.lose (i := i)) q
/-- e.f in a suite -/
theorem ev_xf {Xs : Cx} {y C dd : Addr} {f : Str} {ns : List Str} (U : Su X Xs N nm y C dd) (xf : XfC X.K C) (hno : PySem.W.findIn X.K (.ref C) f = some none) (h : EV Xs ρ e (.v (.exc y dd ns ds))) (hl : (ns.zip ds).lookup f = some d)
    (hb : attributeBase e f X.env (eval e X.env) = eval e X.env := by rfl) : EV Xs ρ (.Attribute e f pos) (.v d) := by
  obtain ⟨oe, pn, rfl, hz, hf⟩ := U.ex
  refine EV.of (pe_xf xf hno hz hf pe_wp hb) fun F0 H0 F H σ S Q q => h F0 H0 F H σ S _ fun v F1 H1 g r => ?_
  have r' : Rep X.K F1 (.exc y dd ns ds) v := r
  unfold Rep at r'
  obtain ⟨rfl, xs, hx, ln, rr⟩ := r'
  have key : ∀ (ns : List Str) (ds : List D) (xs : List V), ns.length = xs.length → Reps X.K F1 ds xs → (ns.zip ds).lookup f = some d → ∃ v, (ns.zip xs).lookup f = some v ∧ Rep X.K F1 d v := by
    intro ns
    induction ns with
    | nil => intro ds xs _ _ h; simp at h
    | cons n ns ih =>
      intro ds xs ln rr h
      cases ds with
      | nil => simp at h
      | cons d0 ds =>
        obtain ⟨x0, ys, rfl, r1, r2⟩ := reps_cons.mp rr
        simp only [List.zip_cons_cons, List.lookup_cons] at h ⊢
        cases hh : f == n with
        | true => simp only [hh] at h; cases h; exact ⟨x0, rfl, r1⟩
        | false => simp only [hh] at h; exact ih ds ys (by simpa using ln) r2 h
  obtain ⟨v, hv, rv⟩ := key ns ds xs ln rr hl
  exact ⟨rfl, rfl, dd, _, v, rfl, g.s _ _ hx, hv, q v F1 H1 g rv⟩
end
end DL

end

section
set_option Elab.async false
set_option linter.all false
set_option maxRecDepth 100000
set_option maxHeartbeats 4000000
/-! The end of a law row over data. -/
namespace DL
open PySem PySem.Spec PyProof.Rows L2

/-- the law's promise: any list of at most n ints gives True -/
def TLaw (n : Nat) : List D → Res → Prop := fun ds r => ∃ ns : List Int, ds = [.scr (ns.map D.int)] ∧ ns.length ≤ n ∧ r = .val (.v (.bl true))
theorem reps_intsL {K : PySem.W.Frag} {F : Hp} (ns : List Int) : Reps K F (ns.map D.int) (ns.map V.int) := reps_ints ns
theorem law_callG {P : Program} {w : World} {K : PySem.W.Frag} {mg mb : Str → Option Value} {k n : Nat} {fa a : Addr} {x : Str} {s₁ : Shared} {vs : List Value} {ns : List Int}
    (KX : K.In s₁.heap) (hns : s₁.heap.Ns mainGlobals mg) (hb : s₁.heap.Ns builtinsNs mb) (hbb : ∀ x : Str, x ≠ "__name__" → mb x = bootBuiltins x) (hlim : s₁.heap.NoLimit) (hg : s₁.gens = #[])
    (ha : s₁.heap.get? a = some { cls := .type "list", data := .seq vs.toArray }) (hi : IntsAre vs ns) (hl : ns.length ≤ sizeLine) (hln : ns.length ≤ n) (hr : Room k callerA) (hfa : mg x = some (.ref fa))
    (G : ∀ base : Heap, K.In base → base.Ns mainGlobals mg → Fd P w K mg base x k (TLaw n)) :
    codeAny (model P w) callerA (.call (.ref fa) ⟨[.ref a], []⟩) (fun r s' => r = .ok (.ret (.bool true)) ∧ OldK s₁.heap s'.heap ∧ s'.os = s₁.os ∧ AllBare s'.gens) s₁ := by
  have rv := vals_ints hi
  have lenV := hi.length
  have core : ∀ H : Hp, Only H → SqL K H a (ns.map V.int) → HOk P w H s₁.heap → (∀ b, H b ≠ none → b = a) → (H a ≠ none → K.lookup a = none) →
      codeAny (model P w) callerA (.call (.ref fa) ⟨[.ref a], []⟩) (fun r s' => r = .ok (.ret (.bool true)) ∧ OldK s₁.heap s'.heap ∧ s'.os = s₁.os ∧ AllBare s'.gens) s₁ := by
    intro H hO hS hok hA hK
    have only_a : ∀ {b : Addr} {u : HO}, H b = some u → b = a := fun {b u} e => hA b (by rw [e]; simp)
    have noA : ∀ {b : Addr} {o : Obj} {es : Array DictEntry} {ep : Nat}, s₁.heap.get? b = some o → o.data = .dict es ep → H b = none := by
      intro b o es ep e d
      cases q : H b with
      | none => rfl
      | some u =>
        have z := only_a q
        subst z
        rw [ha] at e
        cases e
        exact absurd d (by intro y; cases y)
    have nsK : ∀ {b : Addr} {m : Str → Option Value}, s₁.heap.Ns b m → (hidT s₁.heap H).Ns b m := by
      rintro b m ⟨o, es, ep, e, d, r⟩
      exact ⟨o, es, ep, hidT_get e (noA e d), d, r⟩
    have hKb : K.In (hidT s₁.heap H) := by
      intro b o e
      refine hidT_get (KX b o e) ?_
      cases q : H b with
      | none => rfl
      | some u =>
        have z := only_a q
        subst z
        rw [hK (by rw [q]; simp)] at e
        cases e
    have hM : Mod K mg (hidT s₁.heap H) := ⟨hKb, nsK hns, ⟨mb, nsK hb, hbb⟩, hlim.elim fun mc z => ⟨mc, nsK z.1, z.2⟩⟩
    have e0 : Env0 P w K mg (hidT s₁.heap H) callerA [] s₁ H := ⟨rfl, hM, (fun b o e => of_hidT e), Nat.le_of_eq (hidT_size _ _), trivial, (fun b z => absurd (show b ∈ ([] : List Addr) from z) (by simp)), hok, .of_eq hg⟩
    obtain ⟨f, fd, ps, F, hm, hk, hbd⟩ := (G _ hKb (nsK hns)).ex
    rw [hfa] at hm
    cases hm
    have sp : spD K (TLaw n) ([V.ref a] ++ []) H (fun v _ => v = .bl true) (fun _ _ _ => False) :=
      ⟨[.scr (ns.map D.int)], H, .val (.v (.bl true)), Same.refl _, reps_one (by unfold Rep; exact ⟨a, _, rfl, hS, reps_ints ns⟩), ⟨ns, rfl, hln, rfl⟩, fun v F' H' _ r => ri_bl r.ri⟩
    have lenP : ([Value.ref a] ++ []).length = ps.length := F.len _ _ _ _ sp
    refine codeAny_mono (F.run callerA rfl [] s₁ H ⟨[.ref a], []⟩ ([Value.ref a] ++ []) ([V.ref a] ++ []) _ _ hr e0 (hbd s₁ [.ref a] KX lenP) (show Vals [V.ref a] [Value.ref a] from .cons rfl .nil) sp) ?_
    intro r s' h
    cases r with
    | error e =>
      obtain ⟨_, _, _, _, _, _, _, _, _, _, _, _, z⟩ := h
      exact z.elim
    | ok fl =>
      cases fl with
      | ret u =>
        obtain ⟨v, H', os, bare, un, hok', r', q⟩ := h
        have q' : v = .bl true := q
        subst q'
        obtain rfl : u = Value.bool true := r'
        refine ⟨rfl, OldK.of_keep ?_, os, bare⟩
        intro b o e
        cases q : H b with
        | none => exact un.keep b o e q (fun z => absurd (show b ∈ ([] : List Addr) from z) (by simp)) (by simp)
        | some u =>
          rcases hO b with z | ⟨ob, xs, z⟩
          · rw [q] at z; cases z
          · obtain ⟨e1, _⟩ := hok b _ z
            obtain ⟨e2, _⟩ := hok' b _ (un.frzs b ob _ z)
            rw [e] at e1
            cases e1
            exact e2
      | next => exact False.elim h
      | brk => exact False.elim h
      | cont => exact False.elim h
  by_cases hk : K.lookup a = none
  · have here : ∀ (b : Addr) (u : HO), (if b = a then some (HO.frz { cls := .type "list", data := .seq vs.toArray } (.lst (ns.map V.int))) else none) = some u → b = a ∧ u = .frz { cls := .type "list", data := .seq vs.toArray } (.lst (ns.map V.int)) := by
      intro b u z
      by_cases h : b = a
      · rw [if_pos h] at z; cases z; exact ⟨h, rfl⟩
      · rw [if_neg h] at z; cases z
    refine core (fun b => if b = a then some (.frz { cls := .type "list", data := .seq vs.toArray } (.lst (ns.map V.int))) else none) (fun b => ?_) (.inl (.inr ⟨{ cls := .type "list", data := .seq vs.toArray }, if_pos rfl⟩)) (fun b u z => ?_) (fun b z => ?_) fun _ => hk
    · by_cases h : b = a
      · exact .inr ⟨_, _, if_pos h⟩
      · exact .inl (if_neg h)
    · obtain ⟨rfl, rfl⟩ := here b u z
      exact ⟨ha, by rw [List.length_map]; exact hl, vs, _, rv, ha⟩
    · by_cases h : b = a
      · exact h
      · exact absurd (if_neg h) z
  · obtain ⟨o, ho⟩ := Option.ne_none_iff_exists'.mp hk
    have e := KX a o ho
    rw [ha] at e
    cases e
    refine core (fun _ => none) (fun _ => .inl rfl) (.inr ⟨_, vs.toArray, _, ho, rfl, rfl, rfl, by rw [List.size_toArray, lenV]; exact hl, by simpa using rv⟩) (fun b u z => ?_) (fun b z => absurd rfl z) fun z => absurd rfl z
    exact absurd (show (none : Option HO) = some u from z) (by simp)
theorem walk_ofG {l : PySem.W.OpenLaw} {n k : Nat} {q : Program} {loose : List Str} {XP : (Str → Option Value) → Heap → Prop} {YP : World → Heap → Prop} {d : DefRec} {K : Params → PySem.W.Frag}
    (hn : l.most = some n) (hn2 : n ≤ sizeLine) (hdf : d.params.defaults = []) (hr : Room k callerA)
    (hY : ∀ (w : World) (h : Heap), YP w h → (K w.params).In h)
    (F : ∀ (w : World) (mg : Str → Option Value) (h : Heap), (K w.params).In h → h.Ns mainGlobals mg → ∀ base : Heap, (K w.params).In base → base.Ns mainGlobals mg → Fd l.prog w (K w.params) mg base d.name k (TLaw n)) :
    PySem.W.WalkO q loose XP YP l.row.toRowW d [] (fun f vs => PySem.call f vs) := by
  refine Att.attach_call hn hdf ?_
  intro w s₀ s₁ mg mb fa o pm cd doc a vs ns G Y ho hd hcd hmg hobj hints hlen hg
  have KX := hY w _ Y
  exact law_callG KX G.T.g G.T.b G.T.builtins G.T.nolimit hg hobj hints (Nat.le_trans hlen hn2) hlen hr hmg (F w mg _ KX G.T.g)
end DL

end

section
set_option Elab.async false
set_option linter.all false
/-! Facts of a block's context; ranges as maps. -/
namespace DL
open PySem PySem.Spec PyProof.Rows L2
section
variable {X X' : Cx} {N : List Str} {scope : Scope}
theorem Bk.mgE (k : Bk X X' N scope) {x : Str} {v : Option Value} (h : X.mg x = v) : X'.mg x = v := by rw [k.mg]; exact h
theorem Bk.room (k : Bk X X' N scope) {m : Nat} (h : Room m X.A) : Room m X'.A := by rw [k.A]; exact h
theorem Bk.calmE (k : Bk X X' N scope) (h : X.calm = true) : X'.calm = true := by rw [k.calm]; exact h
theorem Ck.mgE (k : Ck X X') {x : Str} {v : Option Value} (h : X.mg x = v) : X'.mg x = v := by rw [k.mg]; exact h
theorem Ck.room (k : Ck X X') {m : Nat} (h : Room m X.A) : Room m X'.A := by rw [k.A]; exact h
end
theorem rng_map : ∀ (n : Nat) (lo : Int), rng lo n = (List.range n).map fun i : Nat => D.int (lo + (i : Int))
  | 0, _ => rfl
  | n + 1, lo => by
    unfold rng
    rw [rng_map n (lo + 1), List.range_succ_eq_map, List.map_cons, List.map_map]
    congr 1
    · simp
    · apply List.map_congr_left
      intro i _
      simp only [Function.comp]
      congr 1
      omega
section
variable {X : Cx} {N : List Str} {nm : List (Str × NameKind)} {ρ : Rho} {a b : Expr} {pos p : Pos}
theorem iv_r1 {tg : Expr} {j : Int} (B : Bd X N nm) (hg : (("range" : Str), NameKind.globalImplicit) ∈ nm) (hm : X.mg "range" = none) (h : EV X ρ a (.v (.int j))) (h1 : -(2 ^ 62) ≤ j) (h2 : j < 2 ^ 62) (hs : starEach [a] X.env = [(false, eval a X.env)] := by rfl) :
    IV X ρ tg (.Call (.Name "range" p) [a] [] pos) ((List.range j.toNat).map fun i : Nat => D.int (i : Int)) := by
  have z := iv_range1 (pos := pos) (p := p) (tg := tg) B hg hm h h1 h2 hs
  rw [rng_map] at z
  simpa using z
theorem iv_r2 {tg : Expr} {i j : Int} (B : Bd X N nm) (hg : (("range" : Str), NameKind.globalImplicit) ∈ nm) (hm : X.mg "range" = none) (ha : EV X ρ a (.v (.int i))) (hb : EV X ρ b (.v (.int j))) (hz : -(2 ^ 62) ≤ i ∧ i < 2 ^ 62 ∧ -(2 ^ 62) ≤ j ∧ j < 2 ^ 62)
    (hs : starEach [a, b] X.env = [(false, eval a X.env), (false, eval b X.env)] := by rfl) (hs2 : starEach [b] X.env = [(false, eval b X.env)] := by rfl) :
    IV X ρ tg (.Call (.Name "range" p) [a, b] [] pos) ((List.range (j - i).toNat).map fun k : Nat => D.int (i + (k : Int))) := by
  have z := iv_range2 (pos := pos) (p := p) (tg := tg) B hg hm ha hb hz hs hs2
  rw [rng_map] at z
  exact z
end
theorem TsV.as {X : Cx} {ρ : Rho} {ifs : List Expr} {k k' : Bool} (h : TsV X ρ ifs k) (z : k = k') : TsV X ρ ifs k' := z ▸ h
theorem IV.as {X : Cx} {ρ : Rho} {tg e : Expr} {ds ds' : List D} (h : IV X ρ tg e ds) (z : ds = ds') : IV X ρ tg e ds' := z ▸ h
/-- a comprehension with a name for its target -/
theorem lcAt_name {X : Cx} {N : List Str} {scope : Scope} {x : Str} {q : Pos} {ifs : List Expr} {elt : Expr} {vs : List Nat} {ρ ρ' : Rho} {d z : D} {k : Bool} {i : Nat} (hu : Up N (wipeR ρ vs) x i (some (.fz d)) ρ') (hx : (x, NameKind.local) ∈ scope.names) (hv : i ∈ vs)
    (h : ∀ X', Bk X X' N scope → TsV X' ρ' ifs k ∧ (k = true → EV X' ρ' elt (.v z))) : LcAt X N scope (.Name x q) ifs elt vs ρ d k z :=
  ⟨ρ', fun X' kk => ⟨tg_name kk.bd hu hx hv, h X' kk⟩⟩
end DL

end

section
set_option Elab.async false
set_option linter.all false
/-! Data that may be shown and compared: sizes. -/
namespace DL
open PySem PySem.Spec PyProof.Rows L2
/-- shown within bounds: weight, depth -/
structure ShwB (d : D) (w t : Nat) : Prop where
  pl : d.plain = true
  sh : d.py.showable = true
  nd : d.py.hasDict = false
  ls : d.py.leavesShort 13 = true
  wt : d.py.weight ≤ w
  dp : d.py.depth ≤ t
  cl : d.py.canLay0 = true
theorem ShwB.shw {d : D} {w t : Nat} (h : ShwB d w t) (hw : w ≤ 1000000) (ht : t ≤ 50) : Shw d where
  pl := h.pl
  sh := h.sh
  nd := h.nd
  sz := PyData.shown_fits (B := 13) (by decide) (by decide) h.ls (Nat.le_trans h.wt (Nat.le_trans hw (by decide)))
  dp := Nat.le_trans h.dp ht
theorem ShwB.eqb {d : D} {w t : Nat} (h : ShwB d w t) (ht : t ≤ 50) : Eqb d where
  pl := h.pl
  sh := by
    unfold SeqAt.shaped
    rw [h.cl, Bool.true_and, decide_eq_true_eq]
    exact Nat.le_trans h.dp (by omega)
theorem ShwB.mono {d : D} {w t w' t' : Nat} (h : ShwB d w t) (hw : w ≤ w') (ht : t ≤ t') : ShwB d w' t' := { h with wt := Nat.le_trans h.wt hw, dp := Nat.le_trans h.dp ht }
theorem shwB_int {i : Int} (h : i.natAbs < 10 ^ 12) : ShwB (.int i) 41 0 where
  pl := rfl
  sh := by
    unfold D.py PyData.showable
    rw [decide_eq_true_eq]
    rcases Nat.eq_zero_or_pos i.natAbs with e | e
    · rw [e]; decide
    · exact (Nat.log2_lt (by omega)).mpr (Nat.lt_trans h (by decide +kernel))
  nd := by unfold D.py PyData.hasDict; rfl
  ls := by
    unfold D.py PyData.leavesShort
    rw [decide_eq_true_eq]
    exact PyData.shown_int_le h
  wt := by
    unfold D.py PyData.weight
    split
    · omega
    · have : i.natAbs.log2 < 40 := by
        rcases Nat.eq_zero_or_pos i.natAbs with e | e
        · rw [e]; decide
        · exact (Nat.log2_lt (by omega)).mpr (Nat.lt_trans h (by decide +kernel))
      omega
  dp := by unfold D.py PyData.depth; exact Nat.le_refl 0
  cl := by unfold D.py PyData.canLay0; rfl
theorem shwB_non : ShwB .non 0 0 := ⟨rfl, by unfold D.py PyData.showable; rfl, by unfold D.py PyData.hasDict; rfl, by unfold D.py PyData.leavesShort; rfl, by unfold D.py PyData.weight; exact Nat.le_refl _, by unfold D.py PyData.depth; exact Nat.le_refl _, by unfold D.py PyData.canLay0; rfl⟩
theorem shwB_bl {b : Bool} : ShwB (.bl b) 0 0 := ⟨rfl, by unfold D.py PyData.showable; rfl, by unfold D.py PyData.hasDict; rfl, by unfold D.py PyData.leavesShort; rfl, by unfold D.py PyData.weight; exact Nat.le_refl _, by unfold D.py PyData.depth; exact Nat.le_refl _, by unfold D.py PyData.canLay0; rfl⟩
theorem shwB_str {x : Str} (h : (x.cps.toList.all fun c => decide (c < 16 ^ 8)) = true) (h2 : PyData.canLay0 (.str x) = true) : ShwB (.str x) x.cps.size 0 :=
  ⟨rfl, by unfold D.py PyData.showable; rfl, by unfold D.py PyData.hasDict; rfl, by unfold D.py PyData.leavesShort; exact h, by unfold D.py PyData.weight; exact Nat.le_refl _, by unfold D.py PyData.depth; exact Nat.le_refl _, by unfold D.py PyData.canLay0; exact h2⟩
theorem shwB_all {w t : Nat} : ∀ {ds : List D}, (∀ d ∈ ds, ShwB d w t) → plainAll ds = true ∧ PyData.showableAll (pyAll ds) = true ∧ PyData.hasDictAll (pyAll ds) = false ∧ PyData.leavesShortAll 13 (pyAll ds) = true ∧ PyData.weightAll (pyAll ds) ≤ ds.length * (w + 1) ∧ PyData.depthAll (pyAll ds) ≤ t ∧ PyData.canLayAll0 (pyAll ds) = true
  | [], _ => ⟨rfl, by unfold pyAll PyData.showableAll; rfl, by unfold pyAll PyData.hasDictAll; rfl, by unfold pyAll PyData.leavesShortAll; rfl, by unfold pyAll PyData.weightAll; omega, by unfold pyAll PyData.depthAll; omega, by unfold pyAll PyData.canLayAll0; rfl⟩
  | d :: ds, h => by
    obtain ⟨a, b, c, e, f, g, i⟩ := shwB_all (ds := ds) fun x hx => h x (List.mem_cons_of_mem _ hx)
    have z := h d List.mem_cons_self
    unfold pyAll plainAll PyData.showableAll PyData.hasDictAll PyData.leavesShortAll PyData.weightAll PyData.depthAll PyData.canLayAll0
    rw [a, b, c, e, i, z.pl, z.sh, z.nd, z.ls, z.cl]
    refine ⟨rfl, rfl, rfl, rfl, ?_, ?_, rfl⟩
    · have := z.wt
      rw [List.length_cons, Nat.succ_mul]
      omega
    · exact Nat.max_le.mpr ⟨z.dp, g⟩
theorem shwB_tup {w t : Nat} {ds : List D} (h : ∀ d ∈ ds, ShwB d w t) : ShwB (.tup ds) (ds.length * (w + 1)) (t + 1) := by
  obtain ⟨a, b, c, e, f, g, i⟩ := shwB_all h
  refine ⟨by unfold D.plain; exact a, by unfold D.py PyData.showable; exact b, by unfold D.py PyData.hasDict; exact c, by unfold D.py PyData.leavesShort; exact e, by unfold D.py PyData.weight; exact f, by unfold D.py PyData.depth; omega, by unfold D.py PyData.canLay0; exact i⟩
theorem shwB_lst {w t : Nat} {ds : List D} (h : ∀ d ∈ ds, ShwB d w t) : ShwB (.lst ds) (ds.length * (w + 1)) (t + 1) := by
  obtain ⟨a, b, c, e, f, g, i⟩ := shwB_all h
  refine ⟨by unfold D.plain; exact a, by unfold D.py PyData.showable; exact b, by unfold D.py PyData.hasDict; exact c, by unfold D.py PyData.leavesShort; exact e, by unfold D.py PyData.weight; exact f, by unfold D.py PyData.depth; omega, by unfold D.py PyData.canLay0; exact i⟩
/-- a list against the empty one -/
theorem eqv_nil {ds : List D} : PyData.eqv (D.lst ds).py (D.lst []).py = ds.isEmpty := by
  unfold D.py
  cases ds with
  | nil => unfold pyAll PyData.eqv PyData.eqvAll; rfl
  | cons d ds => unfold pyAll PyData.eqv PyData.eqvAll; rfl
end DL

end

section
set_option linter.all false
namespace K87
/-! trial division -/
def pull : Nat → Nat → Nat → Nat × Nat
  | 0, r, _ => (r, 0)
  | f + 1, r, p => if r % p = 0 then ((pull f (r / p) p).1, (pull f (r / p) p).2 + 1) else (r, 0)
theorem pull_fuel : ∀ (f g r p : Nat), 2 ≤ p → 1 ≤ r → r ≤ f → r ≤ g → pull f r p = pull g r p
  | 0, _, r, _, _, h, h1, _ => by omega
  | _ + 1, 0, r, _, _, h, _, h1 => by omega
  | f + 1, g + 1, r, p, hp, hr, h1, h2 => by
    unfold pull
    by_cases hm : r % p = 0
    · have hd : r / p < r := Nat.div_lt_self (by omega) (by omega)
      have h0 : 1 ≤ r / p := by
        have := Nat.div_pos (Nat.le_of_dvd (by omega) (Nat.dvd_of_mod_eq_zero hm)) (show 0 < p by omega)
        omega
      rw [if_pos hm, if_pos hm, pull_fuel f g (r / p) p hp h0 (by omega) (by omega)]
    · rw [if_neg hm, if_neg hm]
theorem pull_yes {r p : Nat} (hp : 2 ≤ p) (hr : 1 ≤ r) (hm : r % p = 0) : pull r r p = ((pull (r / p) (r / p) p).1, (pull (r / p) (r / p) p).2 + 1) ∧ 1 ≤ r / p ∧ r / p < r := by
  have hd : r / p < r := Nat.div_lt_self (by omega) (by omega)
  have h0 : 1 ≤ r / p := by
    have := Nat.div_pos (Nat.le_of_dvd (by omega) (Nat.dvd_of_mod_eq_zero hm)) (show 0 < p by omega)
    omega
  refine ⟨?_, h0, hd⟩
  obtain ⟨k, rfl⟩ : ∃ k, r = k + 1 := ⟨r - 1, by omega⟩
  conv => lhs; unfold pull
  rw [if_pos hm, pull_fuel k ((k + 1) / p) ((k + 1) / p) p hp h0 (by omega) (Nat.le_refl _)]
theorem pull_no {r p : Nat} (hm : ¬ r % p = 0) : pull r r p = (r, 0) := by
  cases r with
  | zero => simp at hm
  | succ k => unfold pull; rw [if_neg hm]
/-- what trial by one number leaves -/
theorem pull_spec : ∀ (f r p : Nat), 2 ≤ p → 1 ≤ r → r ≤ f → r = (pull f r p).1 * p ^ (pull f r p).2 ∧ ¬ p ∣ (pull f r p).1 ∧ 1 ≤ (pull f r p).1
  | 0, r, _, _, h, h1 => by omega
  | f + 1, r, p, hp, hr, h1 => by
    unfold pull
    by_cases hm : r % p = 0
    · have hd : r / p < r := Nat.div_lt_self (by omega) (by omega)
      have h0 : 1 ≤ r / p := by
        have := Nat.div_pos (Nat.le_of_dvd (by omega) (Nat.dvd_of_mod_eq_zero hm)) (show 0 < p by omega)
        omega
      rw [if_pos hm]
      obtain ⟨a, b, c⟩ := pull_spec f (r / p) p hp h0 (by omega)
      refine ⟨?_, b, c⟩
      show r = (pull f (r / p) p).1 * p ^ ((pull f (r / p) p).2 + 1)
      rw [Nat.pow_succ, ← Nat.mul_assoc, ← a, Nat.div_mul_cancel (Nat.dvd_of_mod_eq_zero hm)]
    · rw [if_neg hm]
      exact ⟨by simp, fun h => hm (Nat.mod_eq_zero_of_dvd h), hr⟩
def facsGo : Nat → Nat → Nat → List (Nat × Nat)
  | 0, r, _ => if 1 < r then [(r, 1)] else []
  | f + 1, r, p => if p * p ≤ r then (if 0 < (pull r r p).2 then [(p, (pull r r p).2)] else []) ++ facsGo f (pull r r p).1 (p + 1) else if 1 < r then [(r, 1)] else []
def facs (n : Nat) : List (Nat × Nat) := facsGo (n + 1) n 2
theorem facsGo_end {f r p : Nat} (h : ¬ p * p ≤ r) : facsGo f r p = if 1 < r then [(r, 1)] else [] := by
  cases f with
  | zero => rfl
  | succ f => unfold facsGo; rw [if_neg h]
theorem facsGo_go {f r p : Nat} (h : p * p ≤ r) : facsGo (f + 1) r p = (if 0 < (pull r r p).2 then [(p, (pull r r p).2)] else []) ++ facsGo f (pull r r p).1 (p + 1) := by
  conv => lhs; unfold facsGo
  rw [if_pos h]
def Pr (q : Nat) : Prop := 2 ≤ q ∧ ∀ d, d ∣ q → d = 1 ∨ d = q
theorem Pr.dvd_mul {q a b : Nat} (h : Pr q) (hd : q ∣ a * b) : q ∣ a ∨ q ∣ b := by
  rcases h.2 (Nat.gcd q a) (Nat.gcd_dvd_left q a) with e | e
  · exact .inr (Nat.Coprime.dvd_of_dvd_mul_left e hd)
  · exact .inl (e ▸ Nat.gcd_dvd_right q a)
theorem Pr.dvd_pow {q a : Nat} (h : Pr q) : ∀ {k : Nat}, q ∣ a ^ k → q ∣ a ∧ 0 < k
  | 0, hd => by
    rw [Nat.pow_zero] at hd
    have := Nat.le_of_dvd (by decide) hd
    have := h.1
    omega
  | k + 1, hd => by
    rw [Nat.pow_succ] at hd
    rcases h.dvd_mul hd with z | z
    · exact ⟨(h.dvd_pow z).1, by omega⟩
    · exact ⟨z, by omega⟩
/-- a number without divisors below p, and p*p beyond it, is 1 or prime -/
theorem prime_of {r p : Nat} (hr : 1 < r) (hp : 2 ≤ p) (hn : ∀ d, 2 ≤ d → d < p → ¬ d ∣ r) (hb : ¬ p * p ≤ r) : Pr r := by
  refine ⟨hr, fun d hd => ?_⟩
  obtain ⟨k, e⟩ := hd
  have d0 : d ≠ 0 := by rintro rfl; simp at e; omega
  have k0 : k ≠ 0 := by rintro rfl; simp at e; omega
  by_cases d1 : d = 1
  · exact .inl d1
  by_cases k1 : k = 1
  · subst k1; right; omega
  exfalso
  have a : p ≤ d := by
    rcases Nat.lt_or_ge d p with h | h
    · exact absurd ⟨k, e⟩ (hn d (by omega) h)
    · exact h
  have b : p ≤ k := by
    rcases Nat.lt_or_ge k p with h | h
    · exact absurd ⟨d, by rw [e, Nat.mul_comm]⟩ (hn k (by omega) h)
    · exact h
  have := Nat.mul_le_mul a b
  omega
theorem facsGo_spec : ∀ (f r p : Nat), 1 ≤ r → 2 ≤ p → (∀ d, 2 ≤ d → d < p → ¬ d ∣ r) → r < f + p →
    (∀ q e, (q, e) ∈ facsGo f r p → Pr q ∧ q ∣ r ∧ 1 ≤ e) ∧ (∀ q, Pr q → q ∣ r → ∃ e, (q, e) ∈ facsGo f r p) ∧ ((facsGo f r p).map fun x => x.1 ^ x.2).foldr (· * ·) 1 = r := by
  intro f
  have stop : ∀ f r p, 1 ≤ r → 2 ≤ p → (∀ d, 2 ≤ d → d < p → ¬ d ∣ r) → ¬ p * p ≤ r →
    (∀ q e, (q, e) ∈ facsGo f r p → Pr q ∧ q ∣ r ∧ 1 ≤ e) ∧ (∀ q, Pr q → q ∣ r → ∃ e, (q, e) ∈ facsGo f r p) ∧ ((facsGo f r p).map fun x => x.1 ^ x.2).foldr (· * ·) 1 = r := by
    intro f r p hr hp hn hb
    rw [facsGo_end hb]
    by_cases h1 : 1 < r
    · rw [if_pos h1]
      have P := prime_of h1 hp hn hb
      refine ⟨fun q e h => ?_, fun q hq hd => ?_, by simp⟩
      · simp at h
        obtain ⟨rfl, rfl⟩ := h
        exact ⟨P, Nat.dvd_refl _, by omega⟩
      · rcases P.2 q hd with e | e
        · have := hq.1; omega
        · exact ⟨1, by simp [e]⟩
    · rw [if_neg h1]
      have : r = 1 := by omega
      subst this
      refine ⟨fun q e h => by simp at h, fun q hq hd => ?_, by simp⟩
      have := Nat.le_of_dvd (by decide) hd
      have := hq.1
      omega
  induction f with
  | zero =>
    intro r p hr hp hn hf
    refine stop 0 r p hr hp hn ?_
    intro h
    have : p * 1 ≤ p * p := Nat.mul_le_mul_left p (by omega)
    omega
  | succ f ih =>
    intro r p hr hp hn hf
    by_cases hb : p * p ≤ r
    · rw [facsGo_go hb]
      obtain ⟨a, b, c⟩ := pull_spec r r p hp hr (Nat.le_refl _)
      generalize hr1 : (pull r r p).1 = r1 at a b c ⊢
      generalize he : (pull r r p).2 = e at a ⊢
      have d1 : r1 ∣ r := ⟨p ^ e, a⟩
      have le1 : r1 ≤ r := Nat.le_of_dvd (by omega) d1
      obtain ⟨i1, i2, i3⟩ := ih r1 (p + 1) c (by omega) (fun d h2 hd hdv => by
        by_cases hdp : d = p
        · subst hdp; exact b hdv
        · exact hn d h2 (by omega) (Nat.dvd_trans hdv d1)) (by omega)
      have pdvd : 0 < e → p ∣ r := fun h => by
        rw [a]
        obtain ⟨e', rfl⟩ : ∃ e', e = e' + 1 := ⟨e - 1, by omega⟩
        exact ⟨r1 * p ^ e', by rw [Nat.pow_succ, ← Nat.mul_assoc, Nat.mul_comm]⟩
      have prp : 0 < e → Pr p := fun h => by
        refine ⟨hp, fun d hd => ?_⟩
        have d0 : 0 < d := Nat.pos_of_dvd_of_pos hd (by omega)
        have dl : d ≤ p := Nat.le_of_dvd (by omega) hd
        by_cases d1 : d = 1
        · exact .inl d1
        by_cases d2 : d = p
        · exact .inr d2
        exact absurd (Nat.dvd_trans hd (pdvd h)) (hn d (by omega) (by omega))
      refine ⟨fun q k hm => ?_, fun q hq hd => ?_, ?_⟩
      · rw [List.mem_append] at hm
        rcases hm with hm | hm
        · by_cases h : 0 < e
          · rw [if_pos h] at hm
            simp at hm
            obtain ⟨rfl, rfl⟩ := hm
            exact ⟨prp h, pdvd h, h⟩
          · rw [if_neg h] at hm; simp at hm
        · obtain ⟨x, y, z⟩ := i1 q k hm
          exact ⟨x, Nat.dvd_trans y d1, z⟩
      · rw [a] at hd
        rcases hq.dvd_mul hd with z | z
        · obtain ⟨k, hk⟩ := i2 q hq z
          exact ⟨k, List.mem_append_right _ hk⟩
        · obtain ⟨z1, z2⟩ := hq.dvd_pow z
          have P := prp z2
          rcases P.2 q z1 with w | w
          · have := hq.1; omega
          · subst w
            exact ⟨e, List.mem_append_left _ (by rw [if_pos z2]; simp)⟩
      · rw [List.map_append, List.foldr_append, i3]
        by_cases h : 0 < e
        · rw [if_pos h]
          simp only [List.map_cons, List.map_nil, List.foldr_cons, List.foldr_nil]
          rw [Nat.mul_comm, ← a]
        · have e0 : e = 0 := by omega
          subst e0
          simp at a ⊢
          exact a.symm
    · exact stop (f + 1) r p hr hp hn hb
theorem facs_spec {n : Nat} (h : 1 ≤ n) : (∀ q e, (q, e) ∈ facs n → Pr q ∧ q ∣ n ∧ 1 ≤ e) ∧ (∀ q, Pr q → q ∣ n → ∃ e, (q, e) ∈ facs n) ∧ ((facs n).map fun x => x.1 ^ x.2).foldr (· * ·) 1 = n :=
  facsGo_spec (n + 1) n 2 h (Nat.le_refl 2) (fun d h1 h2 => by omega) (by omega)
theorem facs_pr {n q e : Nat} (h : 1 ≤ n) (hm : (q, e) ∈ facs n) : 2 ≤ q ∧ q ≤ n ∧ 1 ≤ e := by
  obtain ⟨a, b, c⟩ := (facs_spec h).1 q e hm
  exact ⟨a.1, Nat.le_of_dvd (by omega) b, c⟩
/-- Euler's count, as the two programs form it -/
def part (x : Nat × Nat) : Nat := (x.1 - 1) * x.1 ^ (x.2 - 1)
def phiL (L : List (Nat × Nat)) : Nat := (L.map part).foldr (· * ·) 1
def phi (n : Nat) : Nat := phiL (facs n)
def prodL (L : List (Nat × Nat)) : Nat := (L.map fun x => x.1 ^ x.2).foldr (· * ·) 1
theorem prodL_app (a b : List (Nat × Nat)) : prodL (a ++ b) = prodL a * prodL b := by
  induction a with
  | nil => simp [prodL]
  | cons x t ih => simp only [prodL, List.cons_append, List.map_cons, List.foldr_cons] at *; rw [ih, Nat.mul_assoc]
theorem phiL_app (a b : List (Nat × Nat)) : phiL (a ++ b) = phiL a * phiL b := by
  induction a with
  | nil => simp [phiL]
  | cons x t ih => simp only [phiL, List.cons_append, List.map_cons, List.foldr_cons] at *; rw [ih, Nat.mul_assoc]
theorem part_le {x : Nat × Nat} (h1 : 2 ≤ x.1) (h2 : 1 ≤ x.2) : 1 ≤ part x ∧ part x ≤ x.1 ^ x.2 := by
  unfold part
  have hp : 0 < x.1 ^ (x.2 - 1) := Nat.pow_pos (by omega)
  refine ⟨?_, ?_⟩
  · have := Nat.mul_pos (show 0 < x.1 - 1 by omega) hp
    omega
  · have e : x.1 ^ x.2 = x.1 * x.1 ^ (x.2 - 1) := by
      rw [← Nat.pow_succ']
      congr 1; omega
    rw [e]
    exact Nat.mul_le_mul_right _ (by omega)
theorem phiL_le {L : List (Nat × Nat)} (h : ∀ q e, (q, e) ∈ L → 2 ≤ q ∧ 1 ≤ e) : 1 ≤ phiL L ∧ phiL L ≤ prodL L := by
  induction L with
  | nil => simp [phiL, prodL]
  | cons x t ih =>
    obtain ⟨a, b⟩ := ih fun q e hm => h q e (List.mem_cons_of_mem _ hm)
    obtain ⟨h1, h2⟩ := h x.1 x.2 List.mem_cons_self
    obtain ⟨c, d⟩ := part_le h1 h2
    simp only [phiL, prodL, List.map_cons, List.foldr_cons] at *
    exact ⟨Nat.mul_pos c a, Nat.mul_le_mul d b⟩
theorem phi_le {n : Nat} (h : 1 ≤ n) : 1 ≤ phi n ∧ phi n ≤ n := by
  have z := phiL_le (L := facs n) fun q e hm => ⟨(facs_pr h hm).1, (facs_pr h hm).2.2⟩
  have y : prodL (facs n) = n := (facs_spec h).2.2
  rw [y] at z
  exact z
/-- the two lists of odd primes -/
def oddDue (n : Nat) : List Nat := ((facs (phi n)).filter fun x => decide (2 < x.1)).map (·.1)
def oddOf (x : Nat × Nat) : List Nat := ((facs (x.1 - 1)).filter fun y => decide (2 < y.1)).map (·.1) ++ if 2 < x.1 ∧ 1 < x.2 then [x.1] else []
def oddGot (n : Nat) : List Nat := (facs n).flatMap oddOf
theorem mem_odd {m q : Nat} (h : 1 ≤ m) : q ∈ ((facs m).filter fun y => decide (2 < y.1)).map (·.1) ↔ 2 < q ∧ Pr q ∧ q ∣ m := by
  simp only [List.mem_map, List.mem_filter, decide_eq_true_eq]
  constructor
  · rintro ⟨⟨a, e⟩, ⟨hm, h2⟩, rfl⟩
    obtain ⟨x, y, z⟩ := (facs_spec h).1 a e hm
    exact ⟨h2, x, y⟩
  · rintro ⟨h2, hp, hd⟩
    obtain ⟨e, he⟩ := (facs_spec h).2.1 q hp hd
    exact ⟨(q, e), ⟨he, h2⟩, rfl⟩
theorem Pr.dvd_phiL {q : Nat} (hq : Pr q) : ∀ {L : List (Nat × Nat)}, q ∣ phiL L ↔ ∃ x ∈ L, q ∣ part x
  | [] => by
    simp only [phiL, List.map_nil, List.foldr_nil, List.not_mem_nil, false_and, exists_false, iff_false]
    intro h
    have := Nat.le_of_dvd (by decide) h
    have := hq.1
    omega
  | x :: t => by
    have e : phiL (x :: t) = part x * phiL t := rfl
    rw [e]
    constructor
    · intro h
      rcases hq.dvd_mul h with z | z
      · exact ⟨x, List.mem_cons_self, z⟩
      · obtain ⟨y, hy, w⟩ := (hq.dvd_phiL (L := t)).mp z
        exact ⟨y, List.mem_cons_of_mem _ hy, w⟩
    · rintro ⟨y, hy, w⟩
      rcases List.mem_cons.mp hy with rfl | hy
      · exact Nat.dvd_trans w (Nat.dvd_mul_right _ _)
      · exact Nat.dvd_trans ((hq.dvd_phiL (L := t)).mpr ⟨y, hy, w⟩) (Nat.dvd_mul_left _ _)
theorem odd_same {n q : Nat} (h : 1 ≤ n) : q ∈ oddGot n ↔ q ∈ oddDue n := by
  unfold oddDue
  rw [mem_odd (phi_le h).1]
  unfold oddGot
  rw [List.mem_flatMap]
  constructor
  · rintro ⟨⟨p, e⟩, hx, hq⟩
    obtain ⟨pp, pd, e1⟩ := (facs_spec h).1 p e hx
    have p2 := pp.1
    unfold oddOf at hq
    rw [List.mem_append] at hq
    rcases hq with hq | hq
    · rw [mem_odd (show 1 ≤ p - 1 by omega)] at hq
      obtain ⟨a, b, c⟩ := hq
      exact ⟨a, b, b.dvd_phiL.mpr ⟨(p, e), hx, Nat.dvd_trans c (Nat.dvd_mul_right _ _)⟩⟩
    · by_cases hc : 2 < p ∧ 1 < e
      · rw [if_pos hc] at hq
        simp at hq
        subst hq
        refine ⟨hc.1, pp, pp.dvd_phiL.mpr ⟨(q, e), hx, ?_⟩⟩
        unfold part
        refine Nat.dvd_trans ?_ (Nat.dvd_mul_left _ _)
        show q ∣ q ^ (e - 1)
        obtain ⟨k, hk⟩ : ∃ k, e - 1 = k + 1 := ⟨e - 2, by omega⟩
        rw [hk, Nat.pow_succ]
        exact Nat.dvd_mul_left _ _
      · rw [if_neg hc] at hq; simp at hq
  · rintro ⟨h2, hq, hd⟩
    obtain ⟨⟨p, e⟩, hx, w⟩ := hq.dvd_phiL.mp hd
    obtain ⟨pp, pd, e1⟩ := (facs_spec h).1 p e hx
    have p2 := pp.1
    refine ⟨(p, e), hx, ?_⟩
    unfold oddOf
    rw [List.mem_append]
    unfold part at w
    rcases hq.dvd_mul w with z | z
    · left
      rw [mem_odd (show 1 ≤ p - 1 by omega)]
      exact ⟨h2, hq, z⟩
    · obtain ⟨z1, z2⟩ := hq.dvd_pow z
      rcases pp.2 q z1 with y | y
      · omega
      · right
        have y' : q = p := y
        have z2' : 0 < e - 1 := z2
        subst y'
        rw [if_pos ⟨h2, by omega⟩]
        simp
/-- the least of a list -/
def Least (L : List Nat) : Option Nat → Prop
  | none => L = []
  | some q => q ∈ L ∧ ∀ y ∈ L, q ≤ y
theorem Least.uniq {L L' : List Nat} {a b : Option Nat} (hs : ∀ q, q ∈ L ↔ q ∈ L') (h : Least L a) (h' : Least L' b) : a = b := by
  cases a with
  | none =>
    cases b with
    | none => rfl
    | some q => have : L = [] := h; subst this; exact absurd ((hs q).mpr h'.1) (by simp)
  | some p =>
    cases b with
    | none => have : L' = [] := h'; subst this; exact absurd ((hs p).mp h.1) (by simp)
    | some q => exact congrArg some (Nat.le_antisymm (h.2 q ((hs q).mpr h'.1)) (h'.2 p ((hs p).mp h.1)))
def leastO : List Nat → Option Nat
  | [] => none
  | x :: t => some (match leastO t with | none => x | some y => min x y)
theorem leastO_ok : ∀ L, Least L (leastO L)
  | [] => rfl
  | x :: t => by
    have ih := leastO_ok t
    unfold leastO
    cases e : leastO t with
    | none =>
      rw [e] at ih
      have : t = [] := ih
      subst this
      exact ⟨by simp, fun y hy => by simp at hy; subst hy; exact Nat.le_refl _⟩
    | some z =>
      rw [e] at ih
      refine ⟨?_, fun y hy => ?_⟩
      · show min x z ∈ x :: t
        rcases Nat.le_total x z with h | h
        · rw [Nat.min_eq_left h]; exact List.mem_cons_self
        · rw [Nat.min_eq_right h]; exact List.mem_cons_of_mem _ ih.1
      · show min x z ≤ y
        rcases List.mem_cons.mp hy with rfl | hy
        · exact Nat.min_le_left _ _
        · exact Nat.le_trans (Nat.min_le_right _ _) (ih.2 y hy)
/-- the least odd prime of the count of units -/
def oddP (n : Nat) : Option Nat := leastO (oddDue n)
theorem oddP_got {n : Nat} (h : 1 ≤ n) : Least (oddGot n) (oddP n) := by
  have z := leastO_ok (oddDue n)
  have y := leastO_ok (oddGot n)
  have e : leastO (oddGot n) = oddP n := y.uniq (fun q => odd_same h) z
  rw [← e]; exact y
end K87

end

section
set_option linter.all false
namespace K87
/-! ascending lists -/
theorem asc_uniq : ∀ {L M : List Int}, L.Pairwise (· < ·) → M.Pairwise (· < ·) → (∀ x, x ∈ L ↔ x ∈ M) → L = M
  | [], [], _, _, _ => rfl
  | [], y :: M, _, _, h => absurd ((h y).mpr List.mem_cons_self) (by simp)
  | x :: L, [], _, _, h => absurd ((h x).mp List.mem_cons_self) (by simp)
  | x :: L, y :: M, h1, h2, h => by
    rw [List.pairwise_cons] at h1 h2
    have e : x = y := by
      have a := (h x).mp List.mem_cons_self
      have b := (h y).mpr List.mem_cons_self
      rcases List.mem_cons.mp a with a | a
      · exact a
      · rcases List.mem_cons.mp b with b | b
        · exact b.symm
        · have := h2.1 x a; have := h1.1 y b; omega
    subst e
    congr 1
    refine asc_uniq h1.2 h2.2 fun z => ⟨fun hz => ?_, fun hz => ?_⟩
    · rcases List.mem_cons.mp ((h z).mp (List.mem_cons_of_mem _ hz)) with e | e
      · have := h1.1 z hz; omega
      · exact e
    · rcases List.mem_cons.mp ((h z).mpr (List.mem_cons_of_mem _ hz)) with e | e
      · have := h2.1 z hz; omega
      · exact e
def nI (L : List Nat) : List Int := L.map fun x : Nat => (x : Int)
theorem mem_nI {L : List Nat} {k : Int} : k ∈ nI L ↔ ∃ x ∈ L, (x : Int) = k := List.mem_map
theorem mem_nI' {L : List Nat} {k : Nat} : (k : Int) ∈ nI L ↔ k ∈ L := by
  rw [mem_nI]
  constructor
  · rintro ⟨x, hx, e⟩
    have : x = k := by omega
    exact this ▸ hx
  · intro h; exact ⟨k, h, rfl⟩
theorem nI_inj {L M : List Nat} (h : nI L = nI M) : L = M := by
  induction L generalizing M with
  | nil => cases M with
    | nil => rfl
    | cons y M => simp [nI] at h
  | cons x L ih => cases M with
    | nil => simp [nI] at h
    | cons y M =>
      have h' : (x : Int) :: nI L = (y : Int) :: nI M := h
      have h1 := List.cons.inj h'
      have : x = y := by omega
      rw [this, ih h1.2]
theorem asc_nI {L : List Nat} (h : L.Pairwise (· < ·)) : (nI L).Pairwise (· < ·) := by
  unfold nI
  rw [List.pairwise_map]
  exact h.imp fun h => by omega
theorem asc_uniqN {L M : List Nat} (h1 : L.Pairwise (· < ·)) (h2 : M.Pairwise (· < ·)) (h : ∀ x, x ∈ L ↔ x ∈ M) : L = M := by
  refine nI_inj (asc_uniq (asc_nI h1) (asc_nI h2) fun k => ?_)
  rw [mem_nI, mem_nI]
  constructor
  · rintro ⟨x, hx, e⟩; exact ⟨x, (h x).mp hx, e⟩
  · rintro ⟨x, hx, e⟩; exact ⟨x, (h x).mpr hx, e⟩
/-- what sorting gives -/
theorem sorted_is {ns : List Int} {out : List Nat} (hn : ns.Nodup) (ha : out.Pairwise (· < ·)) (hm : ∀ k, k ∈ ns ↔ k ∈ nI out) (ks : List Int) (hp : ks.Perm ns) (hs : ks.Pairwise (· ≤ ·)) : ks = nI out := by
  have nd : ks.Nodup := hp.symm.nodup hn
  refine asc_uniq ?_ (asc_nI ha) fun x => (hp.mem_iff).trans (hm x)
  have z := List.Pairwise.and hs nd
  exact z.imp fun ⟨a, b⟩ => by omega
theorem nodup_le : ∀ (n : Nat) (m : List Nat), m.Nodup → (∀ x ∈ m, x < n) → m.length ≤ n
  | 0, [], _, _ => Nat.le_refl _
  | 0, x :: m, _, h => absurd (h x List.mem_cons_self) (by omega)
  | n + 1, m, nd, h => by
    have z := nodup_le n (m.erase n) (nd.erase n) fun x hx => by
      have a := h x (List.mem_of_mem_erase hx)
      have b : x ≠ n := fun e => by subst e; exact (List.Nodup.not_mem_erase nd) hx
      omega
    have := List.length_erase_le (a := n) (l := m)
    have : m.length ≤ (m.erase n).length + 1 := by
      rw [List.length_erase]; split <;> omega
    omega
/-! units -/
def unitsN (n : Nat) : List Nat := ((List.range n).filter fun i => decide (Nat.gcd (i + 1) n = 1)).map (· + 1)
theorem mem_units {n u : Nat} : u ∈ unitsN n ↔ 1 ≤ u ∧ u ≤ n ∧ Nat.gcd u n = 1 := by
  unfold unitsN
  simp only [List.mem_map, List.mem_filter, List.mem_range, decide_eq_true_eq]
  constructor
  · rintro ⟨i, ⟨h1, h2⟩, rfl⟩; exact ⟨by omega, by omega, h2⟩
  · rintro ⟨h1, h2, h3⟩
    exact ⟨u - 1, ⟨by omega, by rw [Nat.sub_add_cancel h1]; exact h3⟩, by omega⟩
theorem asc_units (n : Nat) : (unitsN n).Pairwise (· < ·) := by
  unfold unitsN
  rw [List.pairwise_map]
  exact (List.pairwise_lt_range.filter _).imp fun h => by omega
theorem units_le (n : Nat) : (unitsN n).length ≤ n := by
  unfold unitsN
  rw [List.length_map]
  exact Nat.le_trans (List.length_filter_le _ _) (by simp)
structure Grp (n : Nat) (P : List Nat) : Prop where
  one : 1 ∈ P
  lt : ∀ x ∈ P, x < n
  co : ∀ x ∈ P, Nat.gcd x n = 1
  mul : ∀ x ∈ P, ∀ y ∈ P, x * y % n ∈ P
theorem gcd_mod {a n : Nat} : Nat.gcd (a % n) n = Nat.gcd a n := by
  rw [Nat.gcd_comm a n, Nat.gcd_rec n a]
theorem grp_units {n : Nat} (h : 2 ≤ n) : Grp n (unitsN n) := by
  have lt : ∀ x ∈ unitsN n, x < n := fun x hx => by
    obtain ⟨a, b, c⟩ := mem_units.mp hx
    by_cases e : x = n
    · subst e; rw [Nat.gcd_self] at c; omega
    · omega
  refine ⟨mem_units.mpr ⟨by omega, by omega, Nat.gcd_one_left n⟩, lt, fun x hx => (mem_units.mp hx).2.2, fun x hx y hy => ?_⟩
  have c1 := (mem_units.mp hx).2.2
  have c2 := (mem_units.mp hy).2.2
  have c : Nat.gcd (x * y % n) n = 1 := by
    rw [gcd_mod]
    exact Nat.Coprime.mul_left c1 c2
  refine mem_units.mpr ⟨?_, Nat.le_of_lt (Nat.mod_lt _ (by omega)), c⟩
  rcases Nat.eq_zero_or_pos (x * y % n) with e | e
  · rw [e, Nat.gcd_zero_left] at c; omega
  · exact e
theorem Grp.pos {n : Nat} {P : List Nat} (G : Grp n P) (h : 2 ≤ n) {x : Nat} (hx : x ∈ P) : 1 ≤ x := by
  rcases Nat.eq_zero_or_pos x with e | e
  · have := G.co x hx
    rw [e, Nat.gcd_zero_left] at this; omega
  · exact e
def sqL (n : Nat) (P : List Nat) : List Nat := P.map fun u => u * u % n
theorem mod_mul {a b n : Nat} : (a % n) * (b % n) % n = a * b % n := (Nat.mul_mod a b n).symm
theorem Grp.sq {n : Nat} {P : List Nat} (G : Grp n P) (h : 2 ≤ n) : Grp n (sqL n P) := by
  refine ⟨?_, fun x hx => ?_, fun x hx => ?_, fun x hx y hy => ?_⟩
  · exact List.mem_map.mpr ⟨1, G.one, by rw [Nat.mul_one]; exact Nat.mod_eq_of_lt (by omega)⟩
  · obtain ⟨u, hu, rfl⟩ := List.mem_map.mp hx
    exact Nat.mod_lt _ (by omega)
  · obtain ⟨u, hu, rfl⟩ := List.mem_map.mp hx
    exact G.co _ (G.mul u hu u hu)
  · obtain ⟨u, hu, rfl⟩ := List.mem_map.mp hx
    obtain ⟨v, hv, rfl⟩ := List.mem_map.mp hy
    refine List.mem_map.mpr ⟨u * v % n, G.mul u hu v hv, ?_⟩
    show (u * v % n) * (u * v % n) % n = (u * u % n) * (v * v % n) % n
    rw [mod_mul, mod_mul]
    congr 1
    rw [Nat.mul_assoc, Nat.mul_assoc, Nat.mul_left_comm v u v]
def powL (n : Nat) : Nat → List Nat
  | 0 => unitsN n
  | k + 1 => sqL n (powL n k)
theorem grp_pow {n : Nat} (h : 2 ≤ n) : ∀ k, Grp n (powL n k)
  | 0 => grp_units h
  | k + 1 => (grp_pow h k).sq h
theorem len_pow (n : Nat) : ∀ k, (powL n k).length ≤ n
  | 0 => units_le n
  | k + 1 => by unfold powL sqL; rw [List.length_map]; exact len_pow n k
theorem mem_pow {n : Nat} (h : 2 ≤ n) : ∀ (k x : Nat), x ∈ powL n k → ∃ u ∈ unitsN n, x = u ^ (2 ^ k) % n
  | 0, x, hx => ⟨x, hx, by rw [Nat.pow_zero, Nat.pow_one]; exact (Nat.mod_eq_of_lt ((grp_units h).lt x hx)).symm⟩
  | k + 1, x, hx => by
    obtain ⟨y, hy, rfl⟩ := List.mem_map.mp hx
    obtain ⟨u, hu, rfl⟩ := mem_pow h k y hy
    refine ⟨u, hu, ?_⟩
    show (u ^ (2 ^ k) % n) * (u ^ (2 ^ k) % n) % n = u ^ (2 ^ (k + 1)) % n
    rw [mod_mul, ← Nat.pow_add]
    congr 2
    rw [Nat.pow_succ]; omega
/-- all tenth squares are 1 -/
def Flat (n : Nat) : Prop := ∀ u ∈ unitsN n, u ^ 1024 % n = 1 % n
theorem flat_pow {n : Nat} (h : 2 ≤ n) (hf : Flat n) : ∀ x ∈ powL n 10, x = 1 := fun x hx => by
  obtain ⟨u, hu, e⟩ := mem_pow h 10 x hx
  rw [e]
  have := hf u hu
  rw [Nat.mod_eq_of_lt (show 1 < n by omega)] at this
  exact this
/-! closing under multiplication -/
inductive Reach (n : Nat) (gs : List Nat) : Nat → Prop
  | one : Reach n gs (1 % n)
  | step {x g : Nat} : Reach n gs x → g ∈ gs → Reach n gs (x * g % n)
def GenOk (n : Nat) (gs out : List Nat) : Prop := out.Pairwise (· < ·) ∧ ∀ x, x ∈ out ↔ Reach n gs x
theorem Reach.lt {n : Nat} {gs : List Nat} (h : 1 ≤ n) {x : Nat} (r : Reach n gs x) : x < n := by
  cases r with
  | one => exact Nat.mod_lt _ (by omega)
  | step _ _ => exact Nat.mod_lt _ (by omega)
/-- a group generates itself -/
theorem gen_grp {n : Nat} {P gs : List Nat} (h : 2 ≤ n) (G : Grp n P) (hg : ∀ x, x ∈ gs ↔ x ∈ P) {x : Nat} : Reach n gs x ↔ x ∈ P := by
  have e1 : 1 % n = 1 := Nat.mod_eq_of_lt (by omega)
  constructor
  · intro r
    induction r with
    | one => rw [e1]; exact G.one
    | step _ g ih => exact G.mul _ ih _ ((hg _).mp g)
  · intro hx
    have z := Reach.step (Reach.one (n := n) (gs := gs)) ((hg x).mpr hx)
    rw [e1, Nat.one_mul, Nat.mod_eq_of_lt (G.lt x hx)] at z
    exact z
def pmP (n : Nat) (P : List Nat) (x : Nat) : Prop := x ∈ P ∨ (1 ≤ x ∧ x < n ∧ n - x ∈ P)
theorem neg_mul {n x g : Nat} (hx : x < n) (h0 : 1 ≤ x * g % n) : (n - x) * g % n = n - x * g % n := by
  have hd := Nat.div_add_mod (x * g) n
  have hm := Nat.mod_lt (x * g) (show 0 < n by omega)
  have e : (n - x) * g = n * g - x * g := Nat.sub_mul n x g
  have hle : x * g ≤ n * g := Nat.mul_le_mul_right g (by omega)
  generalize hq : x * g / n = q at hd
  generalize hr : x * g % n = r at *
  -- x g = n q + r, 1 ≤ r < n ; (n-x) g = n (g - q - 1) + (n - r)
  have hqg : q < g := by
    rcases Nat.lt_or_ge q g with h | h
    · exact h
    · have := Nat.mul_le_mul_left n h
      omega
  have e2 : (n - x) * g = n * (g - q - 1) + (n - r) := by
    rw [e, ← hd]
    obtain ⟨t, ht⟩ : ∃ t, g = q + 1 + t := ⟨g - q - 1, by omega⟩
    subst ht
    have z : q + 1 + t - q - 1 = t := by omega
    rw [z, Nat.mul_add, Nat.mul_add]
    omega
  rw [e2, Nat.mul_add_mod]
  exact Nat.mod_eq_of_lt (by omega)
theorem gen_pm {n : Nat} {P gs : List Nat} (h : 2 ≤ n) (G : Grp n P) (hg : ∀ x, x ∈ gs ↔ x ∈ P ∨ x = n - 1) {x : Nat} : Reach n gs x ↔ pmP n P x := by
  have e1 : 1 % n = 1 := Nat.mod_eq_of_lt (by omega)
  have hl : ∀ x, pmP n P x → 1 ≤ x ∧ x < n := fun x hx => by
    rcases hx with hx | hx
    · exact ⟨G.pos h hx, G.lt x hx⟩
    · exact ⟨hx.1, hx.2.1⟩
  have mulP : ∀ x g, pmP n P x → g ∈ P → pmP n P (x * g % n) := fun x g hx hgp => by
    rcases hx with hx | ⟨h1, h2, h3⟩
    · exact .inl (G.mul x hx g hgp)
    · have z := G.mul _ h3 g hgp
      have z0 := G.pos h z
      have zl := G.lt _ z
      -- x = n - (n - x)
      have y := neg_mul (n := n) (x := n - x) (g := g) (by omega) z0
      rw [show n - (n - x) = x by omega] at y
      right
      rw [y]
      exact ⟨by omega, by omega, by rw [show n - (n - (n - x) * g % n) = (n - x) * g % n by omega]; exact z⟩
  have neg : ∀ x, pmP n P x → x * (n - 1) % n = n - x := fun x hx => by
    obtain ⟨a, b⟩ := hl x hx
    have y := neg_mul (n := n) (x := 1) (g := x) (by omega) (by rw [Nat.one_mul, Nat.mod_eq_of_lt b]; exact a)
    rw [Nat.mul_comm, y, Nat.one_mul, Nat.mod_eq_of_lt b]
  constructor
  · intro r
    induction r with
    | one => rw [e1]; exact .inl G.one
    | step _ g ih =>
      rcases (hg _).mp g with g | g
      · exact mulP _ _ ih g
      · subst g
        rw [neg _ ih]
        obtain ⟨a, b⟩ := hl _ ih
        rcases ih with ih | ih
        · exact .inr ⟨by omega, by omega, by rw [show n - (n - _) = _ from Nat.sub_sub_self (Nat.le_of_lt b)]; exact ih⟩
        · exact .inl ih.2.2
  · intro hx
    have base : ∀ y, y ∈ P → Reach n gs y := fun y hy => by
      have z := Reach.step (Reach.one (n := n) (gs := gs)) ((hg y).mpr (.inl hy))
      rw [e1, Nat.one_mul, Nat.mod_eq_of_lt (G.lt y hy)] at z
      exact z
    rcases hx with hx | ⟨h1, h2, h3⟩
    · exact base x hx
    · have z := Reach.step (base _ h3) ((hg (n - 1)).mpr (.inr rfl))
      rw [neg _ (.inl h3), show n - (n - x) = x by omega] at z
      exact z
/-! rungs -/
def pm (n : Nat) (P : List Nat) : List Nat := ((List.range (n - 1)).filter fun i => decide (i + 1 ∈ P) || decide (n - (i + 1) ∈ P)).map (· + 1)
theorem mem_pm {n : Nat} {P : List Nat} (h : 2 ≤ n) (G : Grp n P) {x : Nat} : x ∈ pm n P ↔ pmP n P x := by
  unfold pm pmP
  simp only [List.mem_map, List.mem_filter, List.mem_range, Bool.or_eq_true, decide_eq_true_eq]
  constructor
  · rintro ⟨i, ⟨h1, h2⟩, rfl⟩
    rcases h2 with h2 | h2
    · exact .inl h2
    · exact .inr ⟨by omega, by omega, h2⟩
  · rintro (hx | ⟨h1, h2, h3⟩)
    · have a := G.pos h hx
      have b := G.lt x hx
      exact ⟨x - 1, ⟨by omega, .inl (by rw [Nat.sub_add_cancel a]; exact hx)⟩, by omega⟩
    · exact ⟨x - 1, ⟨by omega, .inr (by rw [Nat.sub_add_cancel h1]; exact h3)⟩, by omega⟩
theorem asc_pm (n : Nat) (P : List Nat) : (pm n P).Pairwise (· < ·) := by
  unfold pm
  rw [List.pairwise_map]
  exact (List.pairwise_lt_range.filter _).imp fun h => by omega
theorem len_pm (n : Nat) (P : List Nat) : (pm n P).length ≤ n := by
  unfold pm
  rw [List.length_map]
  exact Nat.le_trans (List.length_filter_le _ _) (by simp)
def rung (n : Nat) : Nat → List Nat
  | 0 => unitsN n
  | k + 1 => pm n (powL n (k + 1))
theorem len_rung (n k : Nat) : (rung n k).length ≤ n := by
  cases k with
  | zero => exact units_le n
  | succ k => exact len_pm _ _
theorem rung_lt {n k x : Nat} (h : 2 ≤ n) (hx : x ∈ rung n k) : 1 ≤ x ∧ x < n := by
  cases k with
  | zero => exact ⟨(grp_units h).pos h hx, (grp_units h).lt x hx⟩
  | succ k =>
    have z : pmP n (powL n (k + 1)) x := (mem_pm h (grp_pow h (k + 1))).mp hx
    rcases z with z | z
    · exact ⟨(grp_pow h (k + 1)).pos h z, (grp_pow h (k + 1)).lt x z⟩
    · exact ⟨z.1, z.2.1⟩
/-- the squares of a rung are the next powers -/
theorem sq_rung {n : Nat} (h : 2 ≤ n) (k x : Nat) : x ∈ sqL n (rung n k) ↔ x ∈ powL n (k + 1) := by
  cases k with
  | zero => exact Iff.rfl
  | succ k =>
    have G := grp_pow h (k + 1)
    show x ∈ (rung n (k + 1)).map _ ↔ x ∈ (powL n (k + 1)).map _
    rw [List.mem_map, List.mem_map]
    constructor
    · rintro ⟨y, hy, rfl⟩
      have z : pmP n (powL n (k + 1)) y := (mem_pm h G).mp hy
      rcases z with z | ⟨h1, h2, h3⟩
      · exact ⟨y, z, rfl⟩
      · refine ⟨n - y, h3, ?_⟩
        have c := G.co _ (G.mul _ h3 _ h3)
        have p1 := G.pos h (G.mul _ h3 _ h3)
        -- (n-y)(n-y) = y y
        have e1 : (n - y) * (n - y) = n * (n - y - y) + y * y ∨ (n - y) * (n - y) + n * (y - (n - y)) = y * y := by
          rcases Nat.le_total y (n - y) with q | q
          · left
            obtain ⟨t, ht⟩ : ∃ t, n - y = y + t := ⟨n - y - y, by omega⟩
            have en : n = y + t + y := by omega
            rw [ht, show y + t - y = t by omega]
            conv => rhs; rw [en]
            simp only [Nat.add_mul, Nat.mul_add]
            have := Nat.mul_comm t y
            omega
          · right
            obtain ⟨t, ht⟩ : ∃ t, y = n - y + t := ⟨y - (n - y), by omega⟩
            generalize hz : n - y = z at *
            have en : n = z + (z + t) := by omega
            rw [show y - z = t by omega, ht]
            conv => lhs; rw [en]
            simp only [Nat.add_mul, Nat.mul_add]
            have := Nat.mul_comm t z
            omega
        rcases e1 with e | e
        · rw [e, Nat.mul_add_mod]
        · rw [← e, Nat.add_mul_mod_self_left]
    · rintro ⟨y, hy, rfl⟩
      exact ⟨y, (mem_pm h G).mpr (.inl hy), rfl⟩
/-- the next rung is generated -/
theorem gen_rung {n : Nat} (h : 2 ≤ n) (k : Nat) {gs : List Nat} (hg : ∀ x, x ∈ gs ↔ x ∈ sqL n (rung n k) ∨ x = n - 1) : GenOk n gs (rung n (k + 1)) := by
  refine ⟨asc_pm _ _, fun x => ?_⟩
  have G := grp_pow h (k + 1)
  rw [gen_pm h G fun y => (hg y).trans (or_congr (sq_rung h k y) Iff.rfl)]
  exact mem_pm h G
/-- a group's own list, ascending -/
def asc (n : Nat) (P : List Nat) : List Nat := (List.range n).filter fun x => decide (x ∈ P)
theorem mem_asc {n : Nat} {P : List Nat} (h : ∀ x ∈ P, x < n) {x : Nat} : x ∈ asc n P ↔ x ∈ P := by
  unfold asc
  rw [List.mem_filter, List.mem_range, decide_eq_true_eq]
  exact ⟨fun z => z.2, fun z => ⟨h x z, z⟩⟩
theorem asc_asc (n : Nat) (P : List Nat) : (asc n P).Pairwise (· < ·) := List.pairwise_lt_range.filter _
theorem len_asc (n : Nat) (P : List Nat) : (asc n P).length ≤ n := by
  unfold asc
  exact Nat.le_trans (List.length_filter_le _ _) (by simp)
/-- the group of the k-th squares -/
def grpL (n : Nat) : Nat → List Nat
  | 0 => unitsN n
  | k + 1 => asc n (powL n (k + 1))
theorem mem_grpL {n : Nat} (h : 2 ≤ n) (k x : Nat) : x ∈ grpL n k ↔ x ∈ powL n k := by
  cases k with
  | zero => exact Iff.rfl
  | succ k => exact mem_asc (grp_pow h (k + 1)).lt
theorem asc_grpL (n k : Nat) : (grpL n k).Pairwise (· < ·) := by
  cases k with
  | zero => exact asc_units n
  | succ k => exact asc_asc _ _
theorem len_grpL (n k : Nat) : (grpL n k).length ≤ n := by
  cases k with
  | zero => exact units_le n
  | succ k => exact len_asc _ _
theorem sq_grpL {n : Nat} (h : 2 ≤ n) (k x : Nat) : x ∈ sqL n (grpL n k) ↔ x ∈ powL n (k + 1) := by
  show x ∈ (grpL n k).map _ ↔ x ∈ (powL n k).map _
  rw [List.mem_map, List.mem_map]
  constructor
  · rintro ⟨y, hy, e⟩; exact ⟨y, (mem_grpL h k y).mp hy, e⟩
  · rintro ⟨y, hy, e⟩; exact ⟨y, (mem_grpL h k y).mpr hy, e⟩
theorem gen_grpL {n : Nat} (h : 2 ≤ n) (k : Nat) {gs : List Nat} (hg : ∀ x, x ∈ gs ↔ x ∈ sqL n (grpL n k)) : GenOk n gs (grpL n (k + 1)) := by
  refine ⟨asc_asc _ _, fun x => ?_⟩
  have G := grp_pow h (k + 1)
  rw [gen_grp h G fun y => (hg y).trans (sq_grpL h k y)]
  exact mem_asc G.lt
/-! ends -/
def stopL (n k : Nat) : Bool := (rung n k).all fun x => decide (x = 1) || decide (x = n - 1)
def stopH (n k : Nat) : Bool := (powL n k).all fun x => decide (x = 1)
def First (f : Nat → Bool) (h : Nat) : Prop := f h = true ∧ ∀ j, j < h → f j = false
theorem First.uniq {f : Nat → Bool} {a b : Nat} (h : First f a) (h' : First f b) : a = b := by
  rcases Nat.lt_trichotomy a b with z | z | z
  · have := h'.2 a z; rw [h.1] at this; cases this
  · exact z
  · have := h.2 b z; rw [h'.1] at this; cases this
theorem first_le {f : Nat → Bool} : ∀ m, f m = true → ∃ h, h ≤ m ∧ First f h
  | 0, h => ⟨0, Nat.le_refl _, h, fun j hj => absurd hj (Nat.not_lt_zero _)⟩
  | m + 1, h => by
    by_cases e : ∃ j, j ≤ m ∧ f j = true
    · obtain ⟨j, hj, e⟩ := e
      obtain ⟨k, hk, z⟩ := first_le (f := f) j e
      exact ⟨k, by omega, z⟩
    · refine ⟨m + 1, Nat.le_refl _, h, fun j hj => ?_⟩
      cases q : f j with
      | false => rfl
      | true => exact absurd ⟨j, by omega, q⟩ e
theorem stopH_flat {n : Nat} (h : 2 ≤ n) (hf : Flat n) : stopH n 10 = true := by
  unfold stopH
  rw [List.all_eq_true]
  exact fun x hx => by simpa using flat_pow h hf x hx
theorem stopL_flat {n : Nat} (h : 2 ≤ n) (hf : Flat n) : stopL n 10 = true := by
  unfold stopL
  rw [List.all_eq_true]
  intro x hx
  have z : pmP n (powL n 10) x := (mem_pm h (grp_pow h 10)).mp hx
  rcases z with z | ⟨h1, h2, h3⟩
  · simp [flat_pow h hf x z]
  · have := flat_pow h hf _ h3
    have e : x = n - 1 := by omega
    simp [e]
end K87

end

section
set_option linter.all false
set_option maxRecDepth 100000
set_option exponentiation.threshold 5000
namespace K87
def flatB (n : Nat) : Bool := (oddP n).isSome || (unitsN n).all fun u => u ^ 1024 % n == 1 % n
theorem flat_t : (List.range 2000).all (fun n => flatB (n + 1)) = true := by decide +kernel
end K87

end
section
set_option Elab.async false
set_option linter.all false
set_option maxRecDepth 100000
set_option maxHeartbeats 4000000
open DL L2 PySem PySem.Spec
local macro_rules | `(tactic| wtm_at "mem") => `(tactic| (first | with_reducible exact List.mem_cons_self | (with_reducible apply List.mem_cons_of_mem; wtm_at "mem")))
local macro_rules | `(tactic| wtm_at "sk") => `(tactic| (first | with_reducible exact Sk.here | (with_reducible apply Sk.next; wtm_at "sk")))
local macro_rules | `(tactic| wtm_at "up") => `(tactic| (first | with_reducible exact Up.here | (with_reducible apply Up.next; wtm_at "up")))
local macro_rules | `(tactic| wtm_at "at") => `(tactic| (first | with_reducible exact At.here | (with_reducible apply At.next; wtm_at "at")))
local macro_rules | `(tactic| wtm_at "vs") => `(tactic| (first | exact Vs.l (by wtm_at "mem") | exact Vs.c (by wtm_at "mem") | exact Vs.f (by wtm_at "mem")))
local macro_rules | `(tactic| wtm_at "ls") => `(tactic| (first | exact Ls.l (by wtm_at "mem") | exact Ls.c (by wtm_at "mem")))
local macro_rules | `(tactic| wtm_at "bd") => `(tactic| (first | with_reducible assumption | exact Bk.bd (by assumption) | exact Su.bd (by assumption)))
local macro_rules | `(tactic| wtm_at "mg") => `(tactic| (first | assumption | exact Bk.mgE (by assumption) (by assumption)))
local macro_rules | `(tactic| wtm_at "fd") => `(tactic| (first | with_reducible assumption | exact Fd.blk (by assumption) (by assumption)))
local macro_rules | `(tactic| wtm_at "room") => `(tactic| (first | with_reducible assumption | exact Bk.room (by assumption) (by assumption)))
local macro_rules | `(tactic| wtm_at "calm") => `(tactic| (first | assumption | exact Sx.calm (by assumption) | exact Bk.calmE (by assumption) (by assumption)))
local macro_rules | `(tactic| wtm_at "sx") => `(tactic| assumption)
local macro_rules | `(tactic| wtm_at "side") => `(tactic| (first | with_reducible assumption | omega | decide | (simp only [List.length_cons, List.length_nil, List.length_map]; omega)))
-- atI ds i = some d
local macro_rules | `(tactic| wtm_at "ati") => `(tactic| (first | with_reducible assumption | rfl | (with_reducible apply atI_nat; assumption)))
local macro_rules | `(tactic| wtm_at "nm") => `(tactic| (first
  | exact ev_name (by wtm_at "bd") (by wtm_at "sk") (by wtm_at "vs")
  | exact ev_nameL (by wtm_at "bd") (by wtm_at "sk") (by wtm_at "vs")
  | exact ev_nameD (by wtm_at "bd") (by wtm_at "sk") (by wtm_at "vs")))
local macro_rules | `(tactic| wtm_at "args") => `(tactic| (first
  | exact av_nil
  | exact av_cons (by wtm_at "ev") (by wtm_at "args")))
-- a look at a list, a tuple, a dict
local macro_rules | `(tactic| wtm_at "ll") => `(tactic| (first | exact ev_nameL (by wtm_at "bd") (by wtm_at "sk") (by wtm_at "vs") | exact EV.ll (by wtm_at "ev") | exact EV.nll (by wtm_at "nl")))
local macro_rules | `(tactic| wtm_at "sl") => `(tactic| (first | exact EV.sl (by wtm_at "ll") | exact EV.sls (by wtm_at "ev")))
local macro_rules | `(tactic| wtm_at "st") => `(tactic| (exact EV.st (by wtm_at "ev")))
local macro_rules | `(tactic| wtm_at "dq") => `(tactic| (first | exact ev_nameD (by wtm_at "bd") (by wtm_at "sk") (by wtm_at "vs") | exact EV.dqn (by wtm_at "ev")))
local macro_rules | `(tactic| wtm_at "cmul") => `(tactic| (first | with_reducible assumption | exact .inl ⟨by omega, by omega⟩ | exact .inr ⟨by omega, by omega⟩))
local macro_rules | `(tactic| wtm_at "nl") => `(tactic| (first
  | ((with_reducible show EV _ _ (Expr.List _ _) _); exact ev_lst (by wtm_at "args") (by wtm_at "side"))
  | ((with_reducible show EV _ _ (Expr.BinOp _ Operator.Add _ _) _); exact ev_cat (by wtm_at "ll") (by wtm_at "ll") (by wtm_at "side"))
  | ((with_reducible show EV _ _ (Expr.Call (Expr.Name "list" _) _ _ _) _); first
      | exact ev_cT (by wtm_at "bd") call_list_of cb_listL (by wtm_at "mem") (by wtm_at "mg") (by decide +kernel) (by wtm_at "sl")
      | exact ev_cT (by wtm_at "bd") call_list_of cb_listT (by wtm_at "mem") (by wtm_at "mg") (by decide +kernel) (by wtm_at "st"))
  | with_reducible assumption
  | exact ev_call (by wtm_at "fd") (by wtm_at "bd") (by wtm_at "room") (by wtm_at "side") (by wtm_at "mem") (by wtm_at "args") (by wtm_at "T")))
local macro_rules | `(tactic| wtm_at "T") => `(tactic| assumption)
-- a comparison
local macro_rules | `(tactic| wtm_at "cm") => `(tactic| (first
  | ((with_reducible show Cm _ _ CmpOp.Lt _ _ _); exact cm_lt (by wtm_at "ev") (by wtm_at "ev"))
  | ((with_reducible show Cm _ _ CmpOp.LtE _ _ _); exact cm_le (by wtm_at "ev") (by wtm_at "ev"))
  | ((with_reducible show Cm _ _ CmpOp.Gt _ _ _); exact cm_gt (by wtm_at "ev") (by wtm_at "ev"))
  | ((with_reducible show Cm _ _ CmpOp.GtE _ _ _); exact cm_ge (by wtm_at "ev") (by wtm_at "ev"))
  | ((with_reducible show Cm _ _ CmpOp.Eq _ _ _); first | exact cm_eqI (by wtm_at "ev") (by wtm_at "ev") | exact cm_eqS (by wtm_at "ev") (by wtm_at "ev"))
  | ((with_reducible show Cm _ _ CmpOp.NotEq _ _ _); first | exact cm_neI (by wtm_at "ev") (by wtm_at "ev") | exact cm_neS (by wtm_at "ev") (by wtm_at "ev"))
  | ((with_reducible show Cm _ _ CmpOp.Is _ _ _); exact cm_isN (by wtm_at "ev") ev_non)
  | ((with_reducible show Cm _ _ CmpOp.IsNot _ _ _); exact cm_notN (by wtm_at "ev") ev_non)))
-- a value
local macro_rules | `(tactic| wtm_at "ev") => `(tactic| (first
  | ((with_reducible show EV _ _ (Expr.Name _ _) _); wtm_at "nm")
  | ((with_reducible show EV _ _ (Expr.Constant _ _ _) _); first | exact ev_int | exact ev_str | exact ev_bl | exact ev_non)
  | ((with_reducible show EV _ _ (Expr.BinOp _ Operator.Add _ _) _); first | exact ev_add (by wtm_at "ev") (by wtm_at "ev") | exact EV.frz (by wtm_at "nl"))
  | ((with_reducible show EV _ _ (Expr.BinOp _ Operator.Sub _ _) _); exact ev_sub (by wtm_at "ev") (by wtm_at "ev"))
  | ((with_reducible show EV _ _ (Expr.BinOp _ Operator.Mult _ _) _); exact ev_mul (by wtm_at "ev") (by wtm_at "ev") (by wtm_at "cmul"))
  | ((with_reducible show EV _ _ (Expr.BinOp _ Operator.Mod _ _) _); exact ev_mod (by wtm_at "ev") (by wtm_at "ev") (by wtm_at "side"))
  | ((with_reducible show EV _ _ (Expr.BinOp _ Operator.FloorDiv _ _) _); exact ev_fdiv (by wtm_at "ev") (by wtm_at "ev") (by constructor <;> wtm_at "side"))
  | ((with_reducible show EV _ _ (Expr.BinOp _ Operator.Pow _ _) _); exact ev_pow (by wtm_at "ev") (by wtm_at "ev") (by decide))
  | ((with_reducible show EV _ _ (Expr.UnaryOp UnaryOp.USub _ _) _); exact ev_neg (by wtm_at "ev"))
  | ((with_reducible show EV _ _ (Expr.Compare _ _ _ _) _); exact Cm.ev (by wtm_at "cm"))
  | ((with_reducible show EV _ _ (Expr.Tuple _ _ _) _); exact ev_tup (by wtm_at "args") (by wtm_at "side"))
  | ((with_reducible show EV _ _ (Expr.List _ _) _); exact EV.frz (by wtm_at "nl"))
  | ((with_reducible show EV _ _ (Expr.Subscript _ _ _) _); first
      | exact ev_ixL (by wtm_at "sl") (by wtm_at "ev") (by wtm_at "ati")
      | exact ev_ixT (by wtm_at "st") (by wtm_at "ev") (by wtm_at "ati"))
  | ((with_reducible show EV _ _ (Expr.Call (Expr.Name "int" _) _ _ _) _); first
      | exact ev_cT (by wtm_at "bd") call_int1 cb_int (by wtm_at "mem") (by wtm_at "mg") (by decide +kernel) (by wtm_at "ev")
      | exact ev_cT (by wtm_at "bd") call_int1 cb_intB (by wtm_at "mem") (by wtm_at "mg") (by decide +kernel) (by wtm_at "ev"))
  | ((with_reducible show EV _ _ (Expr.Call (Expr.Name "len" _) _ _ _) _); first
      | exact ev_cB (by wtm_at "bd") call_len_seq cb_lenL (by wtm_at "mem") (by wtm_at "mg") (by decide +kernel) (by wtm_at "sl")
      | exact ev_cB (by wtm_at "bd") call_len_seq cb_lenT (by wtm_at "mem") (by wtm_at "mg") (by decide +kernel) (by wtm_at "st"))
  | ((with_reducible show EV _ _ (Expr.Call (Expr.Name "abs" _) _ _ _) _); exact ev_cB (by wtm_at "bd") call_abs cb_abs (by wtm_at "mem") (by wtm_at "mg") (by decide +kernel) (by wtm_at "ev"))
  | ((with_reducible show EV _ _ (Expr.Call (Expr.Name "gcd" _) _ _ _) _); exact ev_cF2 (by wtm_at "bd") cr_gcd cb_gcd (by wtm_at "mem") (by wtm_at "mg") (by wtm_at "ev") (by wtm_at "ev"))
  | ((with_reducible show EV _ _ (Expr.Call (Expr.Name "tuple" _) _ _ _) _); first
      | exact ev_cT (by wtm_at "bd") call_tuple_of cb_tupL (by wtm_at "mem") (by wtm_at "mg") (by decide +kernel) (by wtm_at "sl"))
  | exact ev_call (by wtm_at "fd") (by wtm_at "bd") (by wtm_at "room") (by wtm_at "side") (by wtm_at "mem") (by wtm_at "args") (by wtm_at "T")
  | with_reducible assumption))
-- a test
local macro_rules | `(tactic| wtm_at "tv") => `(tactic| (first
  | ((with_reducible show TV _ _ (Expr.Compare _ _ _ _) _); exact Cm.tv (by wtm_at "cm"))
  | ((with_reducible show TV _ _ (Expr.UnaryOp UnaryOp.Not _ _) _); exact tv_not (by wtm_at "tv"))
  | exact tv_val (by wtm_at "ev")
  | exact tv_truL (by wtm_at "sl")))
local macro_rules | `(tactic| wtm_at "upw") => `(tactic| (dsimp only [wipeR, List.map, List.set]; wtm_at "up"))
namespace K87
open PySem PySem.Spec PyProof.Rows L2 DL
def top (i : Nat) : Stmt := PySem.Challenge.pw_leastnest_k87_units_and_ladders_whole.main.body.getD i (.Pass ⟨0, 0, 0, 0⟩)
abbrev s_units : Stmt := top 5
abbrev N_units : List Str := ["whole", "unit"]
abbrev nm_units : List (Str × NameKind) := [("whole", .cell), ("tuple", .globalImplicit), ("range", .globalImplicit)]
abbrev s_prime_powers : Stmt := top 6
abbrev N_prime_powers : List Str := ["whole", "found", "rest", "prime", "exponent"]
abbrev nm_prime_powers : List (Str × NameKind) := [("whole", .local), ("found", .local), ("rest", .local), ("prime", .local), ("exponent", .local), ("tuple", .globalImplicit)]
abbrev s_odd_part_prime : Stmt := top 7
abbrev N_odd_part_prime : List Str := ["whole", "odd", "prime", "exponent", "factor", "_"]
abbrev nm_odd_part_prime : List (Str × NameKind) := [("whole", .local), ("odd", .local), ("prime", .local), ("exponent", .local), ("prime_powers", .globalImplicit), ("min", .globalImplicit)]
abbrev s_must_be_written : Stmt := top 8
abbrev N_must_be_written : List Str := ["whole", "prime"]
abbrev nm_must_be_written : List (Str × NameKind) := [("whole", .local), ("prime", .local), ("odd_part_prime", .globalImplicit), ("NeverDrawn", .globalImplicit)]
abbrev s_generated_units : Stmt := top 9
abbrev N_generated_units : List Str := ["whole", "generators", "members", "known", "at", "generator", "product"]
abbrev nm_generated_units : List (Str × NameKind) := [("whole", .local), ("generators", .local), ("members", .local), ("known", .local), ("at", .local), ("generator", .local), ("product", .local), ("len", .globalImplicit), ("tuple", .globalImplicit), ("sorted", .globalImplicit)]
abbrev s_unit_ladder : Stmt := top 10
abbrev N_unit_ladder : List Str := ["whole", "rungs", "squares", "unit"]
abbrev nm_unit_ladder : List (Str × NameKind) := [("whole", .cell), ("rungs", .local), ("squares", .local), ("units", .globalImplicit), ("all", .globalImplicit), ("sorted", .globalImplicit), ("generated_units", .globalImplicit), ("tuple", .globalImplicit)]
abbrev s_unity_nest : Stmt := top 11
abbrev N_unity_nest : List Str := ["whole", "height", "group", "unit"]
abbrev nm_unity_nest : List (Str × NameKind) := [("whole", .cell), ("height", .local), ("group", .local), ("must_be_written", .globalImplicit), ("units", .globalImplicit), ("len", .globalImplicit), ("generated_units", .globalImplicit), ("sorted", .globalImplicit)]
abbrev s__law_same : Stmt := top 13
abbrev N__law_same : List Str := ["told", "due"]
abbrev nm__law_same : List (Str × NameKind) := [("told", .local), ("due", .local), ("repr", .globalImplicit)]
abbrev s__law_cell : Stmt := top 14
abbrev N__law_cell : List Str := ["script", "k", "seed", "cell"]
abbrev nm__law_cell : List (Str × NameKind) := [("script", .local), ("k", .local), ("seed", .local), ("cell", .local), ("len", .globalImplicit), ("int", .globalImplicit)]
abbrev s__law_digits : Stmt := top 15
abbrev N__law_digits : List Str := ["cell", "sizes", "total", "size", "row", "rest", "seed", "k", "twice"]
abbrev nm__law_digits : List (Str × NameKind) := [("cell", .local), ("sizes", .local), ("total", .local), ("size", .local), ("row", .local), ("rest", .local), ("seed", .local), ("k", .local), ("twice", .local), ("int", .globalImplicit), ("range", .globalImplicit), ("len", .globalImplicit)]
abbrev s__law_gcd : Stmt := top 16
abbrev N__law_gcd : List Str := ["one", "two", "left", "right", "rest"]
abbrev nm__law_gcd : List (Str × NameKind) := [("one", .local), ("two", .local), ("left", .local), ("right", .local), ("rest", .local), ("abs", .globalImplicit), ("int", .globalImplicit)]
abbrev s__law_units : Stmt := top 17
abbrev N__law_units : List Str := ["whole", "unit"]
abbrev nm__law_units : List (Str × NameKind) := [("whole", .cell), ("range", .globalImplicit)]
abbrev s__law_factors : Stmt := top 18
abbrev N__law_factors : List Str := ["whole", "found", "rest", "prime", "many"]
abbrev nm__law_factors : List (Str × NameKind) := [("whole", .local), ("found", .local), ("rest", .local), ("prime", .local), ("many", .local), ("int", .globalImplicit)]
abbrev s__law_unit_count : Stmt := top 19
abbrev N__law_unit_count : List Str := ["whole", "count", "pair", "k"]
abbrev nm__law_unit_count : List (Str × NameKind) := [("whole", .local), ("count", .local), ("pair", .local), ("k", .local), ("_law_factors", .globalImplicit), ("range", .globalImplicit)]
abbrev s__law_odd_prime : Stmt := top 20
abbrev N__law_odd_prime : List Str := ["whole", "odd", "pair"]
abbrev nm__law_odd_prime : List (Str × NameKind) := [("whole", .local), ("odd", .local), ("_law_factors", .globalImplicit), ("_law_unit_count", .globalImplicit), ("min", .globalImplicit)]
abbrev s__law_ladder_due : Stmt := top 21
abbrev N__law_ladder_due : List Str := ["whole", "powers", "found", "turn", "unit", "marks"]
abbrev nm__law_ladder_due : List (Str × NameKind) := [("whole", .cell), ("powers", .local), ("found", .local), ("turn", .local), ("unit", .local), ("marks", .cell), ("_law_units", .globalImplicit), ("tuple", .globalImplicit), ("range", .globalImplicit)]
abbrev s__law_height : Stmt := top 22
abbrev N__law_height : List Str := ["whole", "powers", "count", "unit"]
abbrev nm__law_height : List (Str × NameKind) := [("whole", .cell), ("powers", .local), ("count", .local), ("_law_units", .globalImplicit), ("range", .globalImplicit)]
abbrev s__law_made : Stmt := top 23
abbrev N__law_made : List Str := ["cell", "row", "made", "k", "turn"]
abbrev nm__law_made : List (Str × NameKind) := [("cell", .local), ("row", .local), ("made", .local), ("k", .local), ("turn", .local), ("_law_digits", .globalImplicit), ("range", .globalImplicit)]
abbrev s__law_unity : Stmt := top 24
abbrev N__law_unity : List Str := ["whole", "e"]
abbrev nm__law_unity : List (Str × NameKind) := [("whole", .local), ("e", .local), ("unity_nest", .globalImplicit), ("NeverDrawn", .globalImplicit)]
abbrev s_law : Stmt := top 25
abbrev N_law : List Str := ["script", "row", "small", "item", "great", "due", "got", "whole", "k", "rungs"]
abbrev nm_law : List (Str × NameKind) := [("script", .local), ("row", .local), ("small", .local), ("item", .local), ("great", .local), ("due", .local), ("got", .local), ("whole", .local), ("k", .local), ("rungs", .local), ("_law_digits", .globalImplicit), ("_law_cell", .globalImplicit), ("int", .globalImplicit), ("_law_same", .globalImplicit), ("units", .globalImplicit), ("tuple", .globalImplicit), ("_law_units", .globalImplicit), ("_law_made", .globalImplicit), ("_law_odd_prime", .globalImplicit), ("odd_part_prime", .globalImplicit), ("range", .globalImplicit), ("unit_ladder", .globalImplicit), ("_law_ladder_due", .globalImplicit), ("_law_height", .globalImplicit), ("_law_unity", .globalImplicit)]
abbrev dI (x : Nat) : D := .int (x : Int)
/-- a list of numbers as data -/
def dL (L : List Nat) : List D := L.map dI
theorem dL_nI (L : List Nat) : (nI L).map D.int = dL L := by unfold nI dL; rw [List.map_map]; rfl
theorem dL_len (L : List Nat) : (dL L).length = L.length := List.length_map ..
end K87
namespace K87
open PySem PySem.Spec PyProof.Rows L2 DL
/-! _law_gcd -/
theorem gcd_step {a b : Nat} (hb : 0 < b) : Nat.gcd b (a % b) = Nat.gcd a b := by
  rw [Nat.gcd_comm a b, Nat.gcd_rec b a]
  exact Nat.gcd_comm _ _
def Tgcd : List D → Res → Prop := fun ds r => ∃ a b : Int, ds = [.int a, .int b] ∧ r = .val (.v (.int ((Nat.gcd a.natAbs b.natAbs : Nat) : Int)))
theorem b_gcd {X : Cx} {W : WX} (Z : Sx X W) (B : Bd X N__law_gcd nm__law_gcd) (g1 : X.mg "abs" = none) (g2 : X.mg "int" = none) (a b : Int) :
    SD X W [some (.fz (.int a)), some (.fz (.int b)), none, none, none] (defBody s__law_gcd) (PostR (.val (.v (.int ((Nat.gcd a.natAbs b.natAbs : Nat) : Int))))) := by
  refine sd_seq (ss_set Z B (by wtm_at "ev") (by wtm_at "up") (by wtm_at "ls") ?_)
  refine sd_seq (ss_set Z B (by wtm_at "ev") (by wtm_at "up") (by wtm_at "ls") ?_)
  have ea : (if a < 0 then -a else a) = (a.natAbs : Int) := by split <;> omega
  have eb : (if b < 0 then -b else b) = (b.natAbs : Int) := by split <;> omega
  rw [ea, eb]
  refine sd_seq (ss_while Z (fun y ρ => ∃ x : Nat, Nat.gcd x y = Nat.gcd a.natAbs b.natAbs ∧ ρ = [some (.fz (.int a)), some (.fz (.int b)), some (.fz (.int x)), some (.fz (.int y)), none])
    ⟨_, _, Le.refl _, a.natAbs, rfl, rfl⟩ ?_)
  rintro y ρ' ⟨x, hg, rfl⟩
  refine ⟨_, by wtm_at "tv", fun hk => ?_, fun hk => ?_⟩
  · have hy : 0 < y := by
      simp at hk
      omega
    have hy' : (0 : Int) < (y : Int) := by omega
    refine sd_seq (ss_set Z B (by wtm_at "ev") (by wtm_at "up") (by wtm_at "ls") ?_)
    refine sd_seq (ss_set Z B (by wtm_at "ev") (by wtm_at "up") (by wtm_at "ls") ?_)
    refine sd_seq (ss_set Z B (by wtm_at "ev") (by wtm_at "up") (by wtm_at "ls") ?_)
    refine sd_drop "rest" B (by wtm_at "up") (sd_nil ?_)
    refine ⟨_, Le.refl _, x % y, Nat.mod_lt _ hy, y, by rw [gcd_step hy, hg], ?_⟩
    have e : ((x : Int) % (y : Int)) = ((x % y : Nat) : Int) := by omega
    rw [e]
  · have hy : y = 0 := by
      simp at hk
      omega
    subst hy
    refine sd_seq (ss_ret (by wtm_at "ev") ?_)
    rw [← hg]
    simp [Then, PostR]
/-! units, _law_units -/
theorem units_data (n : Nat) : (((List.range n).filter fun i => decide (Nat.gcd (i + 1) n = 1)).map fun i : Nat => D.int (1 + (i : Int))) = dL (unitsN n) := by
  unfold dL unitsN
  rw [List.map_map]
  apply List.map_congr_left
  intro i _
  show D.int _ = D.int _
  congr 1
  show (1 : Int) + (i : Int) = ((i + 1 : Nat) : Int)
  omega
theorem gcd_bit (i n : Nat) : decide (((Nat.gcd (1 + (i : Int)).natAbs (n : Int).natAbs : Nat) : Int) = 1) = decide (Nat.gcd (i + 1) n = 1) := by
  have e : (1 + (i : Int)).natAbs = i + 1 := by omega
  rw [e, Int.natAbs_natCast]
  exact decide_eq_decide.mpr (by omega)
def Tunits : List D → Res → Prop := fun ds r => ∃ n : Nat, 1 ≤ n ∧ n ≤ 1000000 ∧ ds = [.int n] ∧ r = .val (.v (.tup (dL (unitsN n))))
theorem b_units {X : Cx} {W : WX} (Z : Sx X W) (B : Bd X N_units nm_units) (g1 : X.mg "tuple" = none) (g2 : X.mg "range" = none) (g3 : X.mg "gcd" = some (.builtin "math.gcd")) (n : Nat) (hn : n ≤ 1000000) :
    SD X W [some (.fz (.int n)), none] (defBody s_units) (PostR (.val (.v (.tup (dL (unitsN n)))))) := by
  have hc := Z.calm
  refine sd_seq (ss_ret (kd := .v (.tup (dL (unitsN n)))) ?_ rfl)
  refine ev_cT B call_tuple_of cb_tupL (by wtm_at "mem") (by wtm_at "mg") (by decide +kernel) (EV.sl (EV.nll ?_))
  rw [← units_data]
  refine ev_lc B hc [("unit", 1)] (by decide +kernel) (xs := List.range n) (φ := fun i : Nat => D.int (1 + (i : Int)))
    ((iv_r2 B (by wtm_at "mem") (by wtm_at "mg") (by wtm_at "ev") (by wtm_at "ev") (by omega)).as (by rw [show ((n : Int) + 1 - 1).toNat = n by omega])) (by rw [List.length_range, sizeLine_eq]; omega) ?_
  intro i hi
  exact lcAt_name (by wtm_at "upw") (by wtm_at "mem") (by simp) fun X' kk => ⟨(tsv_one (by wtm_at "tv")).as (gcd_bit i n), fun _ => by wtm_at "ev"⟩
local macro_rules | `(tactic| wtm_at "T") => `(tactic| (first | assumption | exact ⟨_, _, rfl, rfl⟩))
def TLunits : List D → Res → Prop := fun ds r => ∃ n : Nat, 1 ≤ n ∧ n ≤ 1000000 ∧ ds = [.int n] ∧ r = .val (.nl (dL (unitsN n)))
theorem b_Lunits {X : Cx} {W : WX} (Z : Sx X W) (B : Bd X N__law_units nm__law_units) (hr : Room 1 X.A) (g2 : X.mg "range" = none) (G : FdX X "_law_gcd" 1 Tgcd) (n : Nat) (hn : n ≤ 1000000) :
    SD X W [some (.fz (.int n)), none] (defBody s__law_units) (PostR (.val (.nl (dL (unitsN n))))) := by
  have hc := Z.calm
  refine sd_seq (ss_ret (kd := .nl (dL (unitsN n))) ?_ rfl)
  rw [← units_data]
  refine ev_lc B hc [("unit", 1)] (by decide +kernel) (xs := List.range n) (φ := fun i : Nat => D.int (1 + (i : Int)))
    ((iv_r2 B (by wtm_at "mem") (by wtm_at "mg") (by wtm_at "ev") (by wtm_at "ev") (by omega)).as (by rw [show ((n : Int) + 1 - 1).toNat = n by omega])) (by rw [List.length_range, sizeLine_eq]; omega) ?_
  intro i hi
  exact lcAt_name (by wtm_at "upw") (by wtm_at "mem") (by simp) fun X' kk => ⟨(tsv_one (by wtm_at "tv")).as (gcd_bit i n), fun _ => by wtm_at "ev"⟩
end K87
namespace K87
open PySem PySem.Spec PyProof.Rows L2 DL
/-! prime_powers, _law_factors -/
def pT (x : Nat × Nat) : D := .tup [dI x.1, dI x.2]
def pL (x : Nat × Nat) : D := .lst [dI x.1, dI x.2]
def Tpp : List D → Res → Prop := fun ds r => ∃ n : Nat, 1 ≤ n ∧ n ≤ 1000000 ∧ ds = [dI n] ∧ r = .val (.v (.tup ((facs n).map pT)))
def TLfac : List D → Res → Prop := fun ds r => ∃ n : Nat, 1 ≤ n ∧ n ≤ 1000000 ∧ ds = [dI n] ∧ r = .val (.nl ((facs n).map pL))
theorem sq_le {p r : Nat} (h : p * p ≤ r) (hp : 2 ≤ p) : p + p ≤ r := by
  have := Nat.mul_le_mul_right p hp
  omega
theorem pull_le {r p : Nat} (hp : 2 ≤ p) (hr : 1 ≤ r) : (pull r r p).1 ≤ r ∧ 1 ≤ (pull r r p).1 := by
  obtain ⟨a, b, c⟩ := pull_spec r r p hp hr (Nat.le_refl _)
  refine ⟨Nat.le_of_dvd (by omega) ⟨_, a⟩, c⟩
theorem facs_nil_app {L : List (Nat × Nat)} : ([] : List (Nat × Nat)) ++ L = L := rfl
theorem b_pp {X : Cx} {W : WX} (Z : Sx X W) (B : Bd X N_prime_powers nm_prime_powers) (g1 : X.mg "tuple" = none) (n : Nat) (h1 : 1 ≤ n) (hn : n ≤ 1000000) :
    SD X W [some (.fz (dI n)), none, none, none, none] (defBody s_prime_powers) (PostR (.val (.v (.tup ((facs n).map pT))))) := by
  have hc := Z.calm
  unfold dI
  refine sd_seq (ss_setL Z B (by wtm_at "nl") (by wtm_at "up") (by wtm_at "ls") ?_)
  refine sd_seq (ss_set Z B (by wtm_at "ev") (by wtm_at "up") (by wtm_at "ls") ?_)
  refine sd_seq (ss_set Z B (by wtm_at "ev") (by wtm_at "up") (by wtm_at "ls") ?_)
  refine sd_seq (ss_while Z (fun y ρ => ∃ (L : List (Nat × Nat)) (r p : Nat), L ++ facsGo y r p = facs n ∧ 1 ≤ r ∧ r ≤ n ∧ 2 ≤ p ∧ p ≤ n + 2 ∧ r < y + p ∧ L.length ≤ p ∧ ρ = [some (.fz (.int n)), some (.ol (L.map pT)), some (.fz (.int r)), some (.fz (.int p)), none])
    ⟨n + 1, _, Le.refl _, [], n, 2, rfl, h1, Nat.le_refl _, Nat.le_refl _, by omega, by omega, by simp, rfl⟩ ?_)
  rintro y ρ' ⟨L, r, p, hL, hr1, hrn, hp2, hpn, hry, hll, rfl⟩
  have hp' : (0 : Int) < (p : Int) ∧ (p : Int) < 1073741824 := by omega
  have hpp := hp'.1
  have hp3 := hp'.2
  refine ⟨_, by wtm_at "tv", fun hk => ?_, fun hk => ?_⟩
  · have hk' : p * p ≤ r := by
      have : (p : Int) * (p : Int) ≤ (r : Int) := of_decide_eq_true hk
      have e : ((p * p : Nat) : Int) = (p : Int) * (p : Int) := Int.natCast_mul p p
      omega
    have hpr := sq_le hk' hp2
    obtain ⟨y, rfl⟩ : ∃ z, y = z + 1 := ⟨y - 1, by omega⟩
    rw [facsGo_go hk'] at hL
    obtain ⟨pl1, pl2⟩ := pull_le hp2 hr1
    refine sd_seq (ss_set Z B (by wtm_at "ev") (by wtm_at "up") (by wtm_at "ls") ?_)
    refine sd_seq (ss_while Z (fun a ρ => ∃ e : Nat, 1 ≤ a ∧ a ≤ r ∧ (pull a a p).1 = (pull r r p).1 ∧ e + (pull a a p).2 = (pull r r p).2 ∧ ρ = [some (.fz (.int n)), some (.ol (L.map pT)), some (.fz (.int a)), some (.fz (.int p)), some (.fz (.int e))])
      ⟨r, _, Le.refl _, 0, hr1, Nat.le_refl _, rfl, by omega, rfl⟩ ?_)
    rintro a ρ' ⟨e, ha1, har, he1, he2, rfl⟩
    refine ⟨_, Cm.tv (cm_eqI (ev_mod (by wtm_at "ev") (by wtm_at "ev") hpp) (by wtm_at "ev")), fun hk2 => ?_, fun hk2 => ?_⟩
    · have hm : a % p = 0 := by
        have : (a : Int) % (p : Int) = 0 := of_decide_eq_true hk2
        omega
      obtain ⟨w1, w2, w3⟩ := pull_yes hp2 ha1 hm
      rw [w1] at he1 he2
      refine sd_seq (ss_set Z B (by wtm_at "ev") (by wtm_at "up") (by wtm_at "ls") ?_)
      refine sd_seq (ss_addI Z B (by wtm_at "sk") (by wtm_at "ev") (by wtm_at "up") (by wtm_at "ls") ?_)
      refine sd_nil ⟨_, Le.refl _, a / p, w3, e + 1, w2, by omega, he1, by simp only at he2; omega, ?_⟩
      have q1 : (a : Int) / (p : Int) = ((a / p : Nat) : Int) := (Int.natCast_ediv a p).symm
      rw [q1]; rfl
    · have hm : ¬ a % p = 0 := by
        have : ¬ (a : Int) % (p : Int) = 0 := of_decide_eq_false hk2
        omega
      rw [pull_no hm] at he1 he2
      simp only [Nat.add_zero] at he1 he2
      rw [← he1, ← he2] at hL
      rw [← he1] at pl1 pl2
      refine sd_seq (ss_if (by wtm_at "tv") (fun hk3 => ?_) fun hk3 => ?_)
      · have h3 : 0 < e := by have := of_decide_eq_true hk3; omega
        rw [if_pos h3] at hL
        refine sd_seq (ss_app B (by wtm_at "sk") (by wtm_at "vs") (by wtm_at "ev") (by rw [List.length_map, sizeLine_eq]; omega) (by wtm_at "up") ?_)
        refine sd_nil ?_
        refine sd_seq (ss_addI Z B (by wtm_at "sk") (by wtm_at "ev") (by wtm_at "up") (by wtm_at "ls") ?_)
        refine sd_drop "exponent" B (by wtm_at "up") (sd_nil ?_)
        refine ⟨_, Le.refl _, y, by omega, L ++ [(p, e)], a, p + 1, by rw [List.append_assoc]; exact hL, ha1, by omega, by omega, by omega, by omega, by simp; omega, ?_⟩
        rw [List.map_append]; rfl
      · have h3 : ¬ 0 < e := by have := of_decide_eq_false hk3; omega
        rw [if_neg h3] at hL
        refine sd_nil ?_
        refine sd_seq (ss_addI Z B (by wtm_at "sk") (by wtm_at "ev") (by wtm_at "up") (by wtm_at "ls") ?_)
        refine sd_drop "exponent" B (by wtm_at "up") (sd_nil ?_)
        exact ⟨_, Le.refl _, y, by omega, L, a, p + 1, hL, ha1, by omega, by omega, by omega, by omega, by omega, rfl⟩
  · have hk' : ¬ p * p ≤ r := by
      have : ¬ (p : Int) * (p : Int) ≤ (r : Int) := of_decide_eq_false hk
      have e : ((p * p : Nat) : Int) = (p : Int) * (p : Int) := Int.natCast_mul p p
      omega
    rw [facsGo_end hk'] at hL
    refine sd_seq (ss_if (by wtm_at "tv") (fun hk3 => ?_) fun hk3 => ?_)
    · have h3 : 1 < r := by have := of_decide_eq_true hk3; omega
      rw [if_pos h3] at hL
      refine sd_seq (ss_app B (by wtm_at "sk") (by wtm_at "vs") (by wtm_at "ev") (by rw [List.length_map, sizeLine_eq]; omega) (by wtm_at "up") ?_)
      refine sd_nil ?_
      refine sd_seq (ss_ret (by wtm_at "ev") ?_)
      rw [← hL, List.map_append]; rfl
    · have h3 : ¬ 1 < r := by have := of_decide_eq_false hk3; omega
      rw [if_neg h3, List.append_nil] at hL
      refine sd_nil ?_
      refine sd_seq (ss_ret (by wtm_at "ev") ?_)
      rw [← hL]; rfl
theorem b_Lfac {X : Cx} {W : WX} (Z : Sx X W) (B : Bd X N__law_factors nm__law_factors) (g1 : X.mg "int" = none) (n : Nat) (h1 : 1 ≤ n) (hn : n ≤ 1000000) :
    SD X W [some (.fz (dI n)), none, none, none, none] (defBody s__law_factors) (PostR (.val (.nl ((facs n).map pL)))) := by
  have hc := Z.calm
  unfold dI
  refine sd_seq (ss_setL Z B (by wtm_at "nl") (by wtm_at "up") (by wtm_at "ls") ?_)
  refine sd_seq (ss_set Z B (by wtm_at "ev") (by wtm_at "up") (by wtm_at "ls") ?_)
  refine sd_seq (ss_set Z B (by wtm_at "ev") (by wtm_at "up") (by wtm_at "ls") ?_)
  refine sd_seq (ss_while Z (fun y ρ => ∃ (L : List (Nat × Nat)) (r p : Nat), L ++ facsGo y r p = facs n ∧ 1 ≤ r ∧ r ≤ n ∧ 2 ≤ p ∧ p ≤ n + 2 ∧ r < y + p ∧ L.length ≤ p ∧ ρ = [some (.fz (.int n)), some (.ol (L.map pL)), some (.fz (.int r)), some (.fz (.int p)), none])
    ⟨n + 1, _, Le.refl _, [], n, 2, rfl, h1, Nat.le_refl _, Nat.le_refl _, by omega, by omega, by simp, rfl⟩ ?_)
  rintro y ρ' ⟨L, r, p, hL, hr1, hrn, hp2, hpn, hry, hll, rfl⟩
  have hp' : (0 : Int) < (p : Int) ∧ (p : Int) < 1073741824 := by omega
  have hpp := hp'.1
  have hp3 := hp'.2
  refine ⟨_, by wtm_at "tv", fun hk => ?_, fun hk => ?_⟩
  · have hk' : p * p ≤ r := by
      have : (p : Int) * (p : Int) ≤ (r : Int) := of_decide_eq_true hk
      have e : ((p * p : Nat) : Int) = (p : Int) * (p : Int) := Int.natCast_mul p p
      omega
    have hpr := sq_le hk' hp2
    obtain ⟨y, rfl⟩ : ∃ z, y = z + 1 := ⟨y - 1, by omega⟩
    rw [facsGo_go hk'] at hL
    obtain ⟨pl1, pl2⟩ := pull_le hp2 hr1
    refine sd_seq (ss_set Z B (by wtm_at "ev") (by wtm_at "up") (by wtm_at "ls") ?_)
    refine sd_seq (ss_while Z (fun a ρ => ∃ e : Nat, 1 ≤ a ∧ a ≤ r ∧ (pull a a p).1 = (pull r r p).1 ∧ e + (pull a a p).2 = (pull r r p).2 ∧ ρ = [some (.fz (.int n)), some (.ol (L.map pL)), some (.fz (.int a)), some (.fz (.int p)), some (.fz (.int e))])
      ⟨r, _, Le.refl _, 0, hr1, Nat.le_refl _, rfl, by omega, rfl⟩ ?_)
    rintro a ρ' ⟨e, ha1, har, he1, he2, rfl⟩
    refine ⟨_, Cm.tv (cm_eqI (ev_mod (by wtm_at "ev") (by wtm_at "ev") hpp) (by wtm_at "ev")), fun hk2 => ?_, fun hk2 => ?_⟩
    · have hm : a % p = 0 := by
        have : (a : Int) % (p : Int) = 0 := of_decide_eq_true hk2
        omega
      obtain ⟨w1, w2, w3⟩ := pull_yes hp2 ha1 hm
      rw [w1] at he1 he2
      refine sd_seq (ss_set Z B (by wtm_at "ev") (by wtm_at "up") (by wtm_at "ls") ?_)
      refine sd_seq (ss_set Z B (by wtm_at "ev") (by wtm_at "up") (by wtm_at "ls") ?_)
      refine sd_nil ⟨_, Le.refl _, a / p, w3, e + 1, w2, by omega, he1, by simp only at he2; omega, ?_⟩
      have q1 : (a : Int) / (p : Int) = ((a / p : Nat) : Int) := (Int.natCast_ediv a p).symm
      rw [q1]; rfl
    · have hm : ¬ a % p = 0 := by
        have : ¬ (a : Int) % (p : Int) = 0 := of_decide_eq_false hk2
        omega
      rw [pull_no hm] at he1 he2
      simp only [Nat.add_zero] at he1 he2
      rw [← he1, ← he2] at hL
      rw [← he1] at pl1 pl2
      refine sd_seq (ss_if (by wtm_at "tv") (fun hk3 => ?_) fun hk3 => ?_)
      · have h3 : 0 < e := by have := of_decide_eq_true hk3; omega
        rw [if_pos h3] at hL
        refine sd_seq (ss_app B (by wtm_at "sk") (by wtm_at "vs") (by wtm_at "ev") (by rw [List.length_map, sizeLine_eq]; omega) (by wtm_at "up") ?_)
        refine sd_nil ?_
        refine sd_seq (ss_set Z B (by wtm_at "ev") (by wtm_at "up") (by wtm_at "ls") ?_)
        refine sd_drop "many" B (by wtm_at "up") (sd_nil ?_)
        refine ⟨_, Le.refl _, y, by omega, L ++ [(p, e)], a, p + 1, by rw [List.append_assoc]; exact hL, ha1, by omega, by omega, by omega, by omega, by simp; omega, ?_⟩
        rw [List.map_append]; rfl
      · have h3 : ¬ 0 < e := by have := of_decide_eq_false hk3; omega
        rw [if_neg h3] at hL
        refine sd_nil ?_
        refine sd_seq (ss_set Z B (by wtm_at "ev") (by wtm_at "up") (by wtm_at "ls") ?_)
        refine sd_drop "many" B (by wtm_at "up") (sd_nil ?_)
        exact ⟨_, Le.refl _, y, by omega, L, a, p + 1, hL, ha1, by omega, by omega, by omega, by omega, by omega, rfl⟩
  · have hk' : ¬ p * p ≤ r := by
      have : ¬ (p : Int) * (p : Int) ≤ (r : Int) := of_decide_eq_false hk
      have e : ((p * p : Nat) : Int) = (p : Int) * (p : Int) := Int.natCast_mul p p
      omega
    rw [facsGo_end hk'] at hL
    refine sd_seq (ss_if (by wtm_at "tv") (fun hk3 => ?_) fun hk3 => ?_)
    · have h3 : 1 < r := by have := of_decide_eq_true hk3; omega
      rw [if_pos h3] at hL
      refine sd_seq (ss_app B (by wtm_at "sk") (by wtm_at "vs") (by wtm_at "ev") (by rw [List.length_map, sizeLine_eq]; omega) (by wtm_at "up") ?_)
      refine sd_nil ?_
      refine sd_seq (ss_retO B (by wtm_at "sk") (by wtm_at "vs") ?_)
      rw [← hL, List.map_append]; rfl
    · have h3 : ¬ 1 < r := by have := of_decide_eq_false hk3; omega
      rw [if_neg h3, List.append_nil] at hL
      refine sd_nil ?_
      refine sd_seq (ss_retO B (by wtm_at "sk") (by wtm_at "vs") ?_)
      rw [← hL]; rfl
end K87
namespace K87
open PySem PySem.Spec PyProof.Rows L2 DL
local macro_rules | `(tactic| wtm_at "T") => `(tactic| (first | assumption | exact ⟨_, by omega, by omega, rfl, rfl⟩))
/-! _law_unit_count -/
theorem prodL_ge : ∀ {L : List (Nat × Nat)}, (∀ q e, (q, e) ∈ L → 2 ≤ q ∧ 1 ≤ e) → 2 ^ L.length ≤ prodL L
  | [], _ => Nat.le_refl _
  | (p, e) :: L, h => by
    have z := prodL_ge (L := L) fun q k hm => h q k (List.mem_cons_of_mem _ hm)
    obtain ⟨a, b⟩ := h p e List.mem_cons_self
    have y : 2 ≤ p ^ e := Nat.le_trans a (by
      have := Nat.pow_le_pow_right (show 0 < p by omega) b
      rwa [Nat.pow_one] at this)
    have e1 : prodL ((p, e) :: L) = p ^ e * prodL L := rfl
    rw [e1, List.length_cons, Nat.pow_succ, Nat.mul_comm]
    exact Nat.mul_le_mul y z
theorem facs_len {n : Nat} (h : 1 ≤ n) (hn : n ≤ 1000000) : (facs n).length < 20 := by
  have z := prodL_ge (L := facs n) fun q e hm => ⟨(facs_pr h hm).1, (facs_pr h hm).2.2⟩
  have e : prodL (facs n) = n := (facs_spec h).2.2
  rw [e] at z
  rcases Nat.lt_or_ge (facs n).length 20 with y | y
  · exact y
  · have := Nat.pow_le_pow_right (n := 2) (by decide) y
    have : (2 : Nat) ^ 20 = 1048576 := by decide
    omega
theorem facs_exp {n q e : Nat} (h : 1 ≤ n) (hn : n ≤ 1000000) (hm : (q, e) ∈ facs n) : e ≤ n := by
  have y : q ^ e ∣ n := by
    have : ∀ {L : List (Nat × Nat)}, (q, e) ∈ L → q ^ e ∣ prodL L := by
      intro L hm
      induction L with
      | nil => simp at hm
      | cons x t ih =>
        have e1 : prodL (x :: t) = x.1 ^ x.2 * prodL t := rfl
        rw [e1]
        rcases List.mem_cons.mp hm with h | h
        · subst h; exact Nat.dvd_mul_right _ _
        · exact Nat.dvd_trans (ih h) (Nat.dvd_mul_left _ _)
    have z := this hm
    have e : prodL (facs n) = n := (facs_spec h).2.2
    rwa [e] at z
  have a := Nat.le_of_dvd (by omega) y
  have q2 := (facs_pr h hm).1
  have := Nat.lt_pow_self (n := e) (a := q) (by omega)
  omega
theorem phiL_take {L : List (Nat × Nat)} {i : Nat} {x : Nat × Nat} (h : L[i]? = some x) : phiL (L.take (i + 1)) = phiL (L.take i) * part x := by
  rw [take_last h, phiL_app]
  simp [phiL]
def Tcount : List D → Res → Prop := fun ds r => ∃ n : Nat, 1 ≤ n ∧ n ≤ 1000000 ∧ ds = [dI n] ∧ r = .val (.v (dI (phi n)))
theorem b_count {X : Cx} {W : WX} (Z : Sx X W) (B : Bd X N__law_unit_count nm__law_unit_count) (hr : Room 1 X.A) (g1 : X.mg "range" = none) (G : FdX X "_law_factors" 1 TLfac) (n : Nat) (h1 : 1 ≤ n) (hn : n ≤ 1000000) :
    SD X W [some (.fz (dI n)), none, none, none] (defBody s__law_unit_count) (PostR (.val (.v (dI (phi n))))) := by
  have hc := Z.calm
  unfold dI
  refine sd_seq (ss_set Z B (by wtm_at "ev") (by wtm_at "up") (by wtm_at "ls") ?_)
  refine sd_seq (ss_for Z (xs := facs n) (φ := pL) (iv_list (EV.frz (by wtm_at "nl"))) (fun i ρ => ρ = [some (.fz (.int n)), some (.fz (.int (phiL ((facs n).take i) : Nat))), none, none])
    ⟨_, Le.refl _, rfl⟩ (fun i x ρ' hx hI => ?_) fun ρ' hI => ?_)
  · subst hI
    obtain ⟨p, e⟩ := x
    have hm : (p, e) ∈ facs n := List.mem_of_getElem? hx
    obtain ⟨p2, pn, e1⟩ := facs_pr h1 hm
    have en := facs_exp h1 hn hm
    rw [phiL_take hx]
    generalize phiL ((facs n).take i) = c
    refine ⟨[some (.fz (.int n)), some (.fz (.int (c : Nat))), some (.fz (.lst [.int (p : Int), .int (e : Int)])), none], [2], by show TgV _ _ (.lst [.int (p : Int), .int (e : Int)]) _ _ _; exact tg_name B (by wtm_at "up") (by wtm_at "mem") (by simp), ?_⟩
    refine sd_seq (ss_set Z B (by wtm_at "ev") (by wtm_at "up") (by wtm_at "ls") ?_)
    refine sd_seq (ss_for Z (iv_r1 B (by wtm_at "mem") (by wtm_at "mg") (by wtm_at "ev") (by omega) (by omega)) (fun k ρ => ρ = [some (.fz (.int n)), some (.fz (.int (c * (p - 1) * p ^ k : Nat))), some (.fz (.lst [.int (p : Int), .int (e : Int)])), none])
      ⟨_, Le.refl _, ?_⟩ (fun k y ρ' hy hI => ?_) fun ρ' hI => ?_)
    · have q : (c : Int) * ((p : Int) - 1) = ((c * (p - 1) * p ^ 0 : Nat) : Int) := by
        rw [Nat.pow_zero, Nat.mul_one, Int.natCast_mul, Int.natCast_sub (by omega)]; rfl
      rw [q]
    · subst hI
      refine ⟨_, [3], tg_name B (by wtm_at "up") (by wtm_at "mem") (by simp), ?_⟩
      refine sd_seq (ss_set Z B (by wtm_at "ev") (by wtm_at "up") (by wtm_at "ls") ?_)
      refine sd_drop "k" B (by wtm_at "up") (sd_nil ⟨_, Le.refl _, ?_⟩)
      have q : ((c * (p - 1) * p ^ k : Nat) : Int) * (p : Int) = ((c * (p - 1) * p ^ (k + 1) : Nat) : Int) := by
        rw [Nat.pow_succ, ← Nat.mul_assoc, Int.natCast_mul _ p]
      rw [q]
    · subst hI
      refine sd_drop "pair" B (by wtm_at "up") (sd_nil ⟨_, Le.refl _, ?_⟩)
      have q : (List.range ((e : Int) - 1).toNat).length = e - 1 := by rw [List.length_range]; omega
      have q2 : c * (p - 1) * p ^ (List.range ((e : Int) - 1).toNat).length = c * part (p, e) := by
        rw [q]; unfold part; rw [Nat.mul_assoc]
      rw [q2]
  · subst hI
    rw [List.take_length]
    refine sd_seq (ss_ret (by wtm_at "ev") ?_)
    rfl
end K87
namespace K87
open PySem PySem.Spec PyProof.Rows L2 DL
local macro_rules | `(tactic| wtm_at "T") => `(tactic| (first | assumption | exact ⟨_, by omega, by omega, rfl, rfl⟩))
/-! _law_odd_prime -/
def oD : Option Nat → D
  | none => .non
  | some q => dI q
def Todd : List D → Res → Prop := fun ds r => ∃ n : Nat, 1 ≤ n ∧ n ≤ 1000000 ∧ ds = [dI n] ∧ r = .val (.v (oD (oddP n)))
theorem min_least {L : List Nat} {q : Nat} (h : Least L (some q)) : nI L ≠ [] ∧ ∀ k : Int, k ∈ nI L → (∀ y, y ∈ nI L → k ≤ y) → k = (q : Int) := by
  refine ⟨fun e => ?_, fun k hk hl => ?_⟩
  · have : (q : Int) ∈ nI L := mem_nI'.mpr h.1
    rw [e] at this; simp at this
  · obtain ⟨x, hx, rfl⟩ := mem_nI.mp hk
    have a := h.2 x hx
    have b := hl q (mem_nI'.mpr h.1)
    omega
theorem two_bit (p : Nat) : decide ((2 : Int) < (p : Int)) = decide (2 < p) := decide_eq_decide.mpr (by omega)
theorem eqb_dL {L : List Nat} (h : ∀ x ∈ L, x ≤ 1000000) : ∀ d ∈ dL L, ShwB d 41 0 := fun d hd => by
  obtain ⟨x, hx, rfl⟩ := List.mem_map.mp hd
  refine shwB_int ?_
  have := h x hx
  rw [Int.natAbs_natCast]
  exact Nat.lt_of_le_of_lt this (by decide)
theorem eqb_nil : Eqb (.lst []) := (shwB_lst (w := 0) (t := 0) (ds := []) fun d hd => by simp at hd).eqb (by omega)
theorem dL_empty (L : List Nat) : (dL L).isEmpty = L.isEmpty := by cases L <;> rfl
theorem phi_bd {n : Nat} (h : 1 ≤ n) (hn : n ≤ 1000000) : 1 ≤ phi n ∧ phi n ≤ 1000000 := ⟨(phi_le h).1, Nat.le_trans (phi_le h).2 hn⟩
theorem b_Lodd {X : Cx} {W : WX} (Z : Sx X W) (B : Bd X N__law_odd_prime nm__law_odd_prime) (hr : Room 2 X.A) (hk : X.env.scope.kind = .function) (g1 : X.mg "min" = none) (G : FdX X "_law_factors" 1 TLfac) (G2 : FdX X "_law_unit_count" 2 Tcount) (n : Nat) (h1 : 1 ≤ n) (hn : n ≤ 1000000) :
    SD X W [some (.fz (dI n)), none, none] (defBody s__law_odd_prime) (PostR (.val (.v (oD (oddP n))))) := by
  have hc := Z.calm
  unfold dI
  obtain ⟨f1, f2⟩ := phi_bd h1 hn
  have e1 : ∀ q r p, EV X [some (.fz (.int (n : Int))), none, none] (.Call (.Name "_law_unit_count" q) [(.Name "whole" r)] [] p) (.v (dI (phi n))) := by
    intro q r p
    exact (ev_call (T := Tcount) (ds := [dI n]) (kd := .v (dI (phi n))) (by wtm_at "fd") (by wtm_at "bd") (by wtm_at "room") (by wtm_at "side") (by wtm_at "mem") (by wtm_at "args") ⟨n, h1, hn, rfl, rfl⟩)
  have e2 : ∀ q r p q1 p1, EV X [some (.fz (.int (n : Int))), none, none] (.Call (.Name "_law_factors" q1) [.Call (.Name "_law_unit_count" q) [(.Name "whole" r)] [] p] [] p1) (.nl ((facs (phi n)).map pL)) := by
    intro q r p q1 p1
    exact (ev_call (T := TLfac) (ds := [dI (phi n)]) (by wtm_at "fd") (by wtm_at "bd") (by wtm_at "room") (by wtm_at "side") (by wtm_at "mem") (av_cons (e1 q r p) av_nil) ⟨phi n, f1, f2, rfl, rfl⟩)
  refine sd_seq (ss_setC Z B (own := [("pair", 2)]) (by decide +kernel) (xs := facs (phi n)) (φ := pL) (f := fun x => dI x.1) (pr := fun x => decide (2 < x.1)) (iv_list (EV.frz (e2 _ _ _ _ _))) (Nat.le_trans (Nat.le_of_lt (facs_len f1 f2)) (by rw [sizeLine_eq]; decide)) ?_ (by wtm_at "mem") (by wtm_at "up") ?_ (hk := hk))
  · rintro ⟨p, e⟩ hx
    show LcAt _ _ _ _ _ _ _ _ (.lst [.int (p : Int), .int (e : Int)]) _ (.int (p : Int))
    exact lcAt_name (by wtm_at "upw") (by wtm_at "mem") (by simp) fun X' kk => ⟨(tsv_one (by wtm_at "tv")).as (two_bit p), fun _ => by wtm_at "ev"⟩
  have ed : (((facs (phi n)).filter fun x => decide (2 < x.1)).map fun x => dI x.1) = dL (oddDue n) := by
    unfold dL oddDue
    rw [List.map_map]; rfl
  rw [ed]
  have hle : ∀ x ∈ oddDue n, x ≤ 1000000 := fun x hx => by
    obtain ⟨_, hp, hd⟩ := (mem_odd f1).mp hx
    exact Nat.le_trans (Nat.le_of_dvd (by omega) hd) f2
  have hlst := leastO_ok (oddDue n)
  refine sd_seq (ss_if (Cm.tv (cm_eqD hr (by wtm_at "nm") (ev_lst av_nil (by decide)) rfl rfl ((shwB_lst (eqb_dL hle)).eqb (by omega)) eqb_nil)) (fun hk => ?_) fun hk => ?_)
  · rw [eqv_nil, dL_empty, List.isEmpty_iff] at hk
    refine sd_seq (ss_ret ev_non ?_)
    show Res.val _ = _
    have : oddP n = none := by unfold oddP; rw [hk]; rfl
    rw [this]; rfl
  · rw [eqv_nil, dL_empty] at hk
    refine sd_nil ?_
    unfold oddP
    cases ho : leastO (oddDue n) with
    | none =>
      rw [ho] at hlst
      have : oddDue n = [] := hlst
      rw [this] at hk; cases hk
    | some q =>
      rw [ho] at hlst
      obtain ⟨m1, m2⟩ := min_least hlst
      rw [← dL_nI]
      exact sd_seq (ss_ret (kd := .v (dI q)) (ev_cB B (cr_min hc) (cb_min m1 m2) (by wtm_at "mem") (by wtm_at "mg") (by decide +kernel) (by wtm_at "sl")) rfl)
end K87
namespace K87
open PySem PySem.Spec PyProof.Rows L2 DL
local macro_rules | `(tactic| wtm_at "T") => `(tactic| (first | assumption | exact ⟨_, by omega, by omega, rfl, rfl⟩))
/-! odd_part_prime -/
theorem oddOf_len {n : Nat} {x : Nat × Nat} (h : 1 ≤ n) (hn : n ≤ 1000000) (hx : x ∈ facs n) : (oddOf x).length ≤ 20 := by
  obtain ⟨p, e⟩ := x
  obtain ⟨p2, pn, e1⟩ := facs_pr h hx
  have z := facs_len (n := p - 1) (by omega) (by omega)
  unfold oddOf
  rw [List.length_append, List.length_map]
  have := List.length_filter_le (fun y : Nat × Nat => decide (2 < y.1)) (facs (p - 1))
  have : (if 2 < p ∧ 1 < e then [p] else []).length ≤ 1 := by split <;> simp
  show _ + _ ≤ 20
  simp only at *
  omega
theorem oddTake {n i : Nat} (h : 1 ≤ n) (hn : n ≤ 1000000) : (((facs n).take i).flatMap oddOf).length ≤ 400 := by
  have hl := facs_len h hn
  have : ∀ L : List (Nat × Nat), (∀ x ∈ L, (oddOf x).length ≤ 20) → (L.flatMap oddOf).length ≤ 20 * L.length := by
    intro L hL
    induction L with
    | nil => simp
    | cons x t ih =>
      have a := hL x List.mem_cons_self
      have b := ih fun y hy => hL y (List.mem_cons_of_mem _ hy)
      rw [List.flatMap_cons, List.length_append, List.length_cons]
      omega
  have z := this ((facs n).take i) fun x hx => oddOf_len h hn (List.mem_of_mem_take hx)
  have : ((facs n).take i).length ≤ (facs n).length := by rw [List.length_take]; omega
  omega
theorem dL_app (a b : List Nat) : dL (a ++ b) = dL a ++ dL b := by unfold dL; exact List.map_append ..
theorem flat_take {L : List (Nat × Nat)} {i : Nat} {x : Nat × Nat} (h : L[i]? = some x) : (L.take (i + 1)).flatMap oddOf = (L.take i).flatMap oddOf ++ oddOf x := by
  rw [take_last h, List.flatMap_append]
  simp
theorem b_odd {X : Cx} {W : WX} (Z : Sx X W) (B : Bd X N_odd_part_prime nm_odd_part_prime) (hr : Room 2 X.A) (g1 : X.mg "min" = none) (G : FdX X "prime_powers" 1 Tpp) (n : Nat) (h1 : 1 ≤ n) (hn : n ≤ 1000000) :
    SD X W [some (.fz (dI n)), none, none, none, none, none] (defBody s_odd_part_prime) (PostR (.val (.v (oD (oddP n))))) := by
  have hc := Z.calm
  unfold dI
  refine sd_seq (ss_setL Z B (by wtm_at "nl") (by wtm_at "up") (by wtm_at "ls") ?_)
  refine sd_seq (ss_for Z (xs := facs n) (φ := pT) (iv_tup (ev_call (T := Tpp) (by wtm_at "fd") (by wtm_at "bd") (by wtm_at "room") (by wtm_at "side") (by wtm_at "mem") (by wtm_at "args") ⟨n, h1, hn, rfl, rfl⟩)) (fun i ρ => ρ = [some (.fz (.int n)), some (.ol (dL (((facs n).take i).flatMap oddOf))), none, none, none, none])
    ⟨_, Le.refl _, rfl⟩ (fun i x ρ' hx hI => ?_) fun ρ' hI => ?_)
  · subst hI
    obtain ⟨p, e⟩ := x
    have hm : (p, e) ∈ facs n := List.mem_of_getElem? hx
    obtain ⟨p2, pn, e1⟩ := facs_pr h1 hm
    have hl := oddTake (i := i) h1 hn
    have hl2 := facs_len (n := p - 1) (by omega) (by omega)
    rw [flat_take hx]
    generalize ((facs n).take i).flatMap oddOf = L at hl ⊢
    refine ⟨[some (.fz (.int n)), some (.ol (dL L)), some (.fz (.int (p : Int))), some (.fz (.int (e : Int))), none, none], [2, 3], ?_, ?_⟩
    · show TgV _ _ (.tup [.int (p : Int), .int (e : Int)]) _ _ _
      exact tg_tup hc (tgs_cons (tg_name B (by wtm_at "up") (by wtm_at "mem") (by simp)) (tgs_cons (tg_name B (by wtm_at "up") (by wtm_at "mem") (by simp)) tgs_nil))
    have hcall : EV X [some (.fz (.int n)), some (.ol (dL L)), some (.fz (.int (p : Int))), some (.fz (.int (e : Int))), none, none] (.Call (.Name "prime_powers" ⟨0, 0, 0, 0⟩) [.BinOp (.Name "prime" ⟨0, 0, 0, 0⟩) .Sub (.Constant (.int 1) 0 ⟨0, 0, 0, 0⟩) ⟨0, 0, 0, 0⟩] [] ⟨0, 0, 0, 0⟩) (.v (.tup ((facs (p - 1)).map pT))) := by
      refine ev_call (T := Tpp) (by wtm_at "fd") (by wtm_at "bd") (by wtm_at "room") (by wtm_at "side") (by wtm_at "mem") (by wtm_at "args") ⟨p - 1, by omega, by omega, ?_, rfl⟩
      show [D.int _] = [D.int _]
      rw [Int.natCast_sub (by omega)]; rfl
    clear hcall
    have earg : (p : Int) - 1 = ((p - 1 : Nat) : Int) := by omega
    refine sd_seq (ss_setL (ds := dL (L ++ ((facs (p - 1)).filter fun y => decide (2 < y.1)).map (·.1))) Z B ?_ (by wtm_at "up") (by wtm_at "ls") ?_)
    · rw [dL_app]
      refine ev_cat (by wtm_at "nm") (EV.nll ?_) (by rw [dL_len, dL_len, List.length_map, sizeLine_eq]; have := List.length_filter_le (fun y : Nat × Nat => decide (2 < y.1)) (facs (p - 1)); omega)
      have ed : dL (((facs (p - 1)).filter fun x => decide (2 < x.1)).map (·.1)) = (((facs (p - 1)).filter fun x => decide (2 < x.1)).map fun x => dI x.1) := by
        unfold dL
        rw [List.map_map]; rfl
      rw [ed]
      refine ev_lc B hc [("factor", 4), ("_", 5)] (by decide +kernel) (xs := facs (p - 1)) (φ := pT)
        (iv_tup (ev_call (T := Tpp) (by wtm_at "fd") (by wtm_at "bd") (by wtm_at "room") (by wtm_at "side") (by wtm_at "mem") (by wtm_at "args") ⟨p - 1, by omega, by omega, by rw [earg], rfl⟩)) (by rw [sizeLine_eq]; omega) ?_
      rintro ⟨a, b⟩ hab
      refine ⟨[some (.fz (.int n)), some (.ol (dL L)), some (.fz (.int (p : Int))), some (.fz (.int (e : Int))), some (.fz (.int (a : Int))), some (.fz (.int (b : Int)))], fun X' kk => ⟨?_, ?_, fun _ => ?_⟩⟩
      · show TgV _ _ (.tup [.int (a : Int), .int (b : Int)]) _ _ _
        exact tg_tup (kk.calmE hc) (tgs_cons (tg_name kk.bd (by wtm_at "upw") (by wtm_at "mem") (by simp)) (tgs_cons (tg_name kk.bd (by wtm_at "up") (by wtm_at "mem") (by simp)) tgs_nil))
      · exact (tsv_one (by wtm_at "tv")).as (two_bit a)
      · show EV _ _ _ (.v (.int (a : Int)))
        wtm_at "ev"
    refine sd_seq (ss_if (WV.tv (wv_and (by wtm_at "tv") fun _ => wv_and1 (by wtm_at "tv"))) (fun hk => ?_) fun hk => ?_)
    · rw [Bool.and_eq_true, decide_eq_true_eq, decide_eq_true_eq] at hk
      refine sd_seq (ss_app B (by wtm_at "sk") (by wtm_at "vs") (by wtm_at "ev") (by rw [dL_len, List.length_append, List.length_map, sizeLine_eq]; have := List.length_filter_le (fun y : Nat × Nat => decide (2 < y.1)) (facs (p - 1)); omega) (by wtm_at "up") ?_)
      refine sd_nil ?_
      refine sd_drop "prime" B (by wtm_at "up") (sd_drop "exponent" B (by wtm_at "up") (sd_nil ⟨_, Le.refl _, ?_⟩))
      have q : oddOf (p, e) = ((facs (p - 1)).filter fun y => decide (2 < y.1)).map (·.1) ++ [p] := by
        unfold oddOf; rw [if_pos ⟨by simp only; omega, by simp only; omega⟩]
      rw [q, ← List.append_assoc, dL_app _ [p]]; rfl
    · have hk' : ¬ (2 < p ∧ 1 < e) := by
        rintro ⟨a, b⟩
        rw [decide_eq_true (show (2 : Int) < (p : Int) by omega), decide_eq_true (show (1 : Int) < (e : Int) by omega)] at hk
        cases hk
      refine sd_nil ?_
      refine sd_drop "prime" B (by wtm_at "up") (sd_drop "exponent" B (by wtm_at "up") (sd_nil ⟨_, Le.refl _, ?_⟩))
      have q : oddOf (p, e) = ((facs (p - 1)).filter fun y => decide (2 < y.1)).map (·.1) := by
        unfold oddOf; rw [if_neg hk', List.append_nil]
      rw [q]
  · subst hI
    rw [List.take_length]
    have hL : (facs n).flatMap oddOf = oddGot n := rfl
    rw [hL]
    have hlst := oddP_got h1
    refine sd_seq (ss_if (tv_not (tv_truL (by wtm_at "sl"))) (fun hk => ?_) fun hk => ?_)
    · rw [dL_empty, Bool.not_not, List.isEmpty_iff] at hk
      refine sd_seq (ss_ret ev_non ?_)
      show Res.val _ = _
      cases ho : oddP n with
      | none => rfl
      | some q => rw [ho, hk] at hlst; exact absurd hlst.1 (by simp)
    · rw [dL_empty, Bool.not_not] at hk
      refine sd_nil ?_
      cases ho : oddP n with
      | none =>
        rw [ho] at hlst
        have : oddGot n = [] := hlst
        rw [this] at hk; cases hk
      | some q =>
        rw [ho] at hlst
        obtain ⟨m1, m2⟩ := min_least hlst
        rw [← dL_nI]
        exact sd_seq (ss_ret (kd := .v (dI q)) (ev_cB B (cr_min hc) (cb_min m1 m2) (by wtm_at "mem") (by wtm_at "mg") (by decide +kernel) (by wtm_at "sl")) rfl)
end K87
namespace K87
open PySem PySem.Spec PyProof.Rows L2 DL
/-! must_be_written -/
def fvN : List V → List (Str × V) := fun args => [("word", .str "NeverDrawn"), ("prime", args.headD .non)]
def rMbw (C : Addr) : Option Nat → Res
  | none => .val (.v .non)
  | some q => .ex C [("word", .str "NeverDrawn"), ("prime", dI q)]
def Tmbw (C : Addr) : List D → Res → Prop := fun ds r => ∃ n : Nat, 1 ≤ n ∧ n ≤ 1000000 ∧ ds = [dI n] ∧ r = rMbw C (oddP n)
theorem b_mbw {X : Cx} {W : WX} {C : Addr} (Z : Sx X W) (B : Bd X N_must_be_written nm_must_be_written) (hr : Room 3 X.A) (G : FdX X "odd_part_prime" 3 Todd) (GC : XcX X "NeverDrawn" C 1 fvN) (n : Nat) (h1 : 1 ≤ n) (hn : n ≤ 1000000) :
    SD X W [some (.fz (dI n)), none] (defBody s_must_be_written) (PostR (rMbw C (oddP n))) := by
  unfold dI
  have e1 : ∀ q r p, EV X [some (.fz (.int (n : Int))), none] (.Call (.Name "odd_part_prime" q) [(.Name "whole" r)] [] p) (.v (oD (oddP n))) := by
    intro q r p
    exact (ev_call (T := Todd) (ds := [dI n]) (by wtm_at "fd") (by wtm_at "bd") (by wtm_at "room") (by wtm_at "side") (by wtm_at "mem") (by wtm_at "args") ⟨n, h1, hn, rfl, rfl⟩)
  refine sd_seq (ss_set Z B (e1 _ _ _) (by wtm_at "up") (by wtm_at "ls") ?_)
  cases oddP n with
  | none =>
    show SD _ _ [some (.fz (.int (n : Int))), some (.fz .non)] _ _
    refine sd_seq (ss_if (k := false) (Cm.tv (cm_notN (d := .non) (by wtm_at "nm") ev_non)) (fun hk => by cases hk) fun _ => ?_)
    exact sd_nil (sd_nil rfl)
  | some q =>
    show SD _ _ [some (.fz (.int (n : Int))), some (.fz (.int (q : Int)))] _ _
    refine sd_seq (ss_if (k := true) (Cm.tv (cm_notN (d := .int (q : Int)) (by wtm_at "nm") ev_non)) (fun _ => ?_) fun hk => by cases hk)
    refine sd_seq (ss_raise (fs := [("word", .str "NeverDrawn"), ("prime", dI q)]) Z B GC hr (by decide) (by wtm_at "mem") (by wtm_at "args") rfl (by decide) (fun F vs r => ?_) rfl)
    obtain ⟨x, r', rfl, h2, h3⟩ := reps_cons.mp r
    rw [reps_nil] at h3
    subst h3
    exact ⟨rfl, reps_cons.mpr ⟨_, _, rfl, rep_str.mpr rfl, reps_cons.mpr ⟨_, _, rfl, h2, reps_nil.mpr rfl⟩⟩⟩
/-! generated_units -/
structure GI (n : Nat) (gs m : List Nat) (i : Nat) : Prop where
  nd : m.Nodup
  re : ∀ x ∈ m, Reach n gs x
  one : 1 % n ∈ m
  cl : ∀ k x, k < i → m[k]? = some x → ∀ g ∈ gs, x * g % n ∈ m
theorem GI.len {n i : Nat} {gs m : List Nat} (h : GI n gs m i) (h1 : 1 ≤ n) : m.length ≤ n := K87.nodup_le n m h.nd fun x hx => (h.re x hx).lt h1
theorem GI.add {n i x g : Nat} {gs m : List Nat} (h : GI n gs m i) (hi : i ≤ m.length) (hx : x ∈ m) (hg : g ∈ gs) (hp : x * g % n ∉ m) : GI n gs (m ++ [x * g % n]) i where
  nd := by
    rw [List.nodup_append]
    refine ⟨h.nd, by simp, fun a ha b hb => ?_⟩
    rw [List.mem_singleton] at hb
    subst hb
    exact fun e => hp (e ▸ ha)
  re := fun y hy => by
    rcases List.mem_append.mp hy with hy | hy
    · exact h.re y hy
    · rw [List.mem_singleton.mp hy]; exact (h.re x hx).step hg
  one := List.mem_append_left _ h.one
  cl := fun k y hk hy g' hg' => by
    rw [List.getElem?_append_left (by omega)] at hy
    exact List.mem_append_left _ (h.cl k y hk hy g' hg')
theorem GI.gen {n : Nat} {gs m out : List Nat} (h : GI n gs m m.length) (ho : GenOk n gs out) (x : Nat) : x ∈ m ↔ x ∈ out := by
  rw [ho.2]
  refine ⟨fun hx => h.re x hx, fun r => ?_⟩
  induction r with
  | one => exact h.one
  | step _ hg ih =>
    obtain ⟨k, hk, e⟩ := List.getElem_of_mem ih
    exact h.cl k _ hk (by rw [List.getElem?_eq_getElem hk, e]) _ hg
def dicU (m : List Nat) : List (Key × D) := m.map fun x : Nat => ((.inl (x : Int) : Key), D.bl true)
theorem any_dicU {m : List Nat} {x : Nat} : ((dicU m).any fun kv => decide (kv.1 = (.inl (x : Int) : Key))) = decide (x ∈ m) := by
  induction m with
  | nil => simp [dicU]
  | cons y t ih =>
    have e : dicU (y :: t) = ((.inl (y : Int) : Key), D.bl true) :: dicU t := rfl
    rw [e, List.any_cons, ih]
    by_cases h : x = y
    · subst h; simp
    · have h1 : ¬ ((.inl (y : Int) : Key) = .inl (x : Int)) := by
        intro q; injection q with q; omega
      rw [decide_eq_false h1, Bool.false_or]
      exact decide_eq_decide.mpr (by simp [h])
theorem val_dicU {m : List Nat} {x : Nat} : (valD (dicU m) (.inl (x : Int))).isSome = decide (x ∈ m) := by
  rw [← any_dicU]
  unfold valD
  rw [Option.isSome_map, Bool.eq_iff_iff, List.find?_isSome, List.any_eq_true]
theorem put_dicU {m : List Nat} {x : Nat} (h : x ∉ m) : putD (dicU m) (.inl (x : Int)) (.bl true) = dicU (m ++ [x]) := by
  unfold putD
  rw [any_dicU, if_neg (by simpa using h)]
  unfold dicU
  rw [List.map_append]; rfl
theorem dicU_len (m : List Nat) : (dicU m).length = m.length := List.length_map ..
def Tgen : List D → Res → Prop := fun ds r => ∃ (n : Nat) (gs out : List Nat), 1 ≤ n ∧ n ≤ 1000000 ∧ (∀ g ∈ gs, g ≤ 1000000) ∧ ds = [dI n, .lst (dL gs)] ∧ GenOk n gs out ∧ r = .val (.v (.tup (dL out)))
abbrev ρG (n : Nat) (gs m : List Nat) (i : Nat) : Rho := [some (.fz (.int (n : Int))), some (.fz (.lst (dL gs))), some (.ol (dL m)), some (.od (dicU m)), some (.fz (.int (i : Int))), none, none]
theorem dL_get {m : List Nat} {i x : Nat} (h : m[i]? = some x) : (dL m)[i]? = some (.int (x : Int)) := by
  unfold dL; rw [List.getElem?_map, h]; rfl
theorem b_gen {X : Cx} {W : WX} (Z : Sx X W) (B : Bd X N_generated_units nm_generated_units) (hr : Room 1 X.A) (g1 : X.mg "len" = none) (g2 : X.mg "tuple" = none) (g3 : X.mg "sorted" = none)
    (n : Nat) (gs out : List Nat) (h1 : 1 ≤ n) (hn : n ≤ 1000000) (hg : ∀ g ∈ gs, g ≤ 1000000) (ho : GenOk n gs out) :
    SD X W [some (.fz (dI n)), some (.fz (.lst (dL gs))), none, none, none, none, none] (defBody s_generated_units) (PostR (.val (.v (.tup (dL out))))) := by
  have hc := Z.calm
  have hn0 : (0 : Int) < (n : Int) := by omega
  have q1 : (1 : Int) % (n : Int) = ((1 % n : Nat) : Int) := by rw [Int.natCast_emod]; rfl
  unfold dI
  refine sd_seq (ss_setL Z B (by wtm_at "nl") (by wtm_at "up") (by wtm_at "ls") ?_)
  refine sd_seq (ss_setD Z B (ev_disp1 (by wtm_at "ev") rfl (by wtm_at "ev")) (by wtm_at "up") (by wtm_at "ls") ?_)
  refine sd_seq (ss_set Z B (by wtm_at "ev") (by wtm_at "up") (by wtm_at "ls") ?_)
  rw [q1]
  refine sd_seq (ss_while Z (fun y ρ => ∃ (m : List Nat) (i : Nat), GI n gs m i ∧ i ≤ m.length ∧ i + y = n ∧ ρ = ρG n gs m i)
    ⟨n, _, Le.refl _, [1 % n], 0, ⟨by simp, fun x hx => by rw [List.mem_singleton.mp hx]; exact .one, by simp, fun k x hk => absurd hk (Nat.not_lt_zero _)⟩, by simp, by omega, rfl⟩ ?_)
  rintro y ρ' ⟨m, i, I, hi, hy, rfl⟩
  have hlen := I.len h1
  refine ⟨_, by wtm_at "tv", fun hk => ?_, fun hk => ?_⟩
  · have hk' : i < m.length := by
      have := of_decide_eq_true hk
      rw [dL_len] at this
      omega
    obtain ⟨x, hx⟩ : ∃ x, m[i]? = some x := ⟨_, List.getElem?_eq_getElem hk'⟩
    refine sd_seq (ss_for Z (xs := gs) (φ := dI) ((iv_list (ds := dL gs) (by wtm_at "ev")).as rfl) (fun j ρ => ∃ m' : List Nat, GI n gs m' i ∧ i < m'.length ∧ m'[i]? = some x ∧ (∀ g ∈ gs.take j, x * g % n ∈ m') ∧ ρ = ρG n gs m' i)
      ⟨_, Le.refl _, m, I, hk', hx, fun g hg => by simp at hg, rfl⟩ ?_ ?_)
    · rintro j g ρ' hgj ⟨m', I', hi', hx', hcl, rfl⟩
      have hgm : g ∈ gs := List.mem_of_getElem? hgj
      have hgb := hg g hgm
      have hxm : x ∈ m' := List.mem_of_getElem? hx'
      have hat := dL_get hx'
      have hxn := (I'.re x hxm).lt h1
      refine ⟨[some (.fz (.int (n : Int))), some (.fz (.lst (dL gs))), some (.ol (dL m')), some (.od (dicU m')), some (.fz (.int (i : Int))), some (.fz (.int (g : Int))), none], [5], tg_name B (by wtm_at "up") (by wtm_at "mem") (by simp), ?_⟩
      have q2 : ((x : Int) * (g : Int)) % (n : Int) = ((x * g % n : Nat) : Int) := by rw [Int.natCast_emod, Int.natCast_mul]
      refine sd_seq (ss_set Z B (ev_mod (ev_mul (ev_ixL (by wtm_at "sl") (by wtm_at "ev") (d := .int (x : Int)) (atI_nat hat)) (by wtm_at "ev") (.inr ⟨by omega, by omega⟩)) (by wtm_at "ev") hn0) (by wtm_at "up") (by wtm_at "ls") ?_)
      rw [q2]
      have hlen' := I'.len h1
      have take1 : ∀ m'' : List Nat, (∀ z ∈ m', z ∈ m'') → x * g % n ∈ m'' → ∀ g' ∈ gs.take (j + 1), x * g' % n ∈ m'' := fun m'' hs hp g' hg' => by
        rw [take_last hgj] at hg'
        rcases List.mem_append.mp hg' with h | h
        · exact hs _ (hcl g' h)
        · rw [List.mem_singleton.mp h]; exact hp
      refine sd_seq (ss_if (tv_dnotin hr (by wtm_at "ev") rfl (by wtm_at "dq")) (fun hk2 => ?_) fun hk2 => ?_)
      · rw [val_dicU] at hk2
        have hp : x * g % n ∉ m' := by simpa using hk2
        have I2 := I'.add (Nat.le_of_lt hi') hxm hgm hp
        have hput := put_dicU hp
        refine sd_seq (ss_dput B hr (by wtm_at "sk") (by wtm_at "vs") (by wtm_at "ev") (by wtm_at "ev") rfl (by rw [dicU_len, sizeLine_eq]; omega) (by wtm_at "up") ?_)
        rw [hput]
        refine sd_seq (ss_app B (by wtm_at "sk") (by wtm_at "vs") (by wtm_at "ev") (by rw [dL_len, sizeLine_eq]; omega) (by wtm_at "up") ?_)
        refine sd_nil (sd_drop "generator" B (by wtm_at "up") (sd_drop "product" B (by wtm_at "up") (sd_nil ⟨_, Le.refl _, m' ++ [x * g % n], I2, by rw [List.length_append]; omega, by rw [List.getElem?_append_left hi']; exact hx', take1 _ (fun z hz => List.mem_append_left _ hz) (by simp), ?_⟩)))
        simp only [ρG, dL_app]; rfl
      · rw [val_dicU] at hk2
        have hp : x * g % n ∈ m' := by simpa using hk2
        exact sd_nil (sd_drop "generator" B (by wtm_at "up") (sd_drop "product" B (by wtm_at "up") (sd_nil ⟨_, Le.refl _, m', I', hi', hx', take1 _ (fun z hz => hz) hp, rfl⟩)))
    · rintro ρ' ⟨m', I', hi', hx', hcl, rfl⟩
      rw [List.take_length] at hcl
      have hlen' := I'.len h1
      refine sd_seq (ss_addI Z B (by wtm_at "sk") (by wtm_at "ev") (by wtm_at "up") (by wtm_at "ls") ?_)
      refine sd_nil ⟨_, Le.refl _, n - (i + 1), by omega, m', i + 1, ⟨I'.nd, I'.re, I'.one, fun k z hk hz g hg' => ?_⟩, by omega, by omega, rfl⟩
      by_cases e : k = i
      · subst e
        rw [hx'] at hz
        cases hz
        exact hcl g hg'
      · exact I'.cl k z (by omega) hz g hg'
  · have hk' : ¬ i < m.length := by
      have := of_decide_eq_false hk
      rw [dL_len] at this
      omega
    have ei : i = m.length := by omega
    subst ei
    have hm := I.gen ho
    refine sd_seq (ss_ret (kd := .v (.tup (dL out))) ?_ rfl)
    rw [← dL_nI out]
    refine ev_cT B call_tuple_of cb_tupL (by wtm_at "mem") (by wtm_at "mg") (by decide +kernel) (EV.sl (EV.nll ?_))
    refine ev_cB B cr_sortedI (cb_sorted (ns := nI m) (sorted_is ?_ ho.1 fun k => ?_)) (by wtm_at "mem") (by wtm_at "mg") (by decide +kernel) (by rw [dL_nI]; wtm_at "sl")
    · have : (nI m).Nodup := by
        unfold nI List.Nodup
        rw [List.pairwise_map]
        exact I.nd.imp fun h => by omega
      exact this
    · rw [mem_nI, mem_nI]
      constructor
      · rintro ⟨z, hz, e⟩; exact ⟨z, (hm z).mp hz, e⟩
      · rintro ⟨z, hz, e⟩; exact ⟨z, (hm z).mpr hz, e⟩
end K87
namespace K87
open PySem PySem.Spec PyProof.Rows L2 DL
/-! unit_ladder -/
abbrev tL (n : Nat) (L : List Nat) : D := .tup (dL L)
def rungs (n k : Nat) : List D := (List.range k).map fun j => D.tup (dL (rung n j))
theorem rungs_succ (n k : Nat) : rungs n (k + 1) = rungs n k ++ [.tup (dL (rung n k))] := by
  unfold rungs; rw [List.range_succ, List.map_append]; rfl
theorem rungs_len (n k : Nat) : (rungs n k).length = k := by unfold rungs; simp
theorem rungs_last (n k : Nat) : atI (rungs n (k + 1)) (-1) = some (.tup (dL (rung n k))) := by
  unfold atI ixN
  rw [rungs_len, if_neg (by omega), if_pos (by omega)]
  show (rungs n (k + 1))[((-1 : Int) + ((k + 1 : Nat) : Int)).toNat]? = _
  rw [show ((-1 : Int) + ((k + 1 : Nat) : Int)).toNat = k by omega, rungs_succ, List.getElem?_append_right (by rw [rungs_len]; exact Nat.le_refl k), rungs_len]
  simp
def Tladder : List D → Res → Prop := fun ds r => ∃ n h : Nat, 4 ≤ n ∧ n ≤ 2000 ∧ ds = [dI n] ∧ h ≤ 10 ∧ First (stopL n) h ∧ r = .val (.v (.tup (rungs n (h + 1))))
abbrev ρL (n k : Nat) : Rho := [some (.fz (.int (n : Int))), some (.ol (rungs n (k + 1))), none, none]
theorem stop_bit {n k : Nat} (hn : 4 ≤ n) : (((rung n k).map fun x : Nat => (decide ((x : Int) = 1) || decide ((x : Int) = (n : Int) - 1))).all id) = stopL n k := by
  unfold stopL
  rw [List.all_map]
  congr 1
  funext x
  show (decide ((x : Int) = 1) || decide ((x : Int) = (n : Int) - 1)) = _
  rw [decide_eq_decide.mpr (show ((x : Int) = 1 ↔ x = 1) by omega), decide_eq_decide.mpr (show ((x : Int) = (n : Int) - 1 ↔ x = n - 1) by omega)]
theorem sq_asc {n : Nat} {L : List Nat} (ks : List Int) (h : ks.Pairwise (· < ·)) (hm : ∀ k, k ∈ ks ↔ k ∈ L.map fun u : Nat => ((u : Int) * (u : Int)) % (n : Int)) : ∃ P : List Nat, ks = nI P ∧ ∀ x, x ∈ P ↔ x ∈ sqL n L := by
  have hsq : ∀ u : Nat, ((u : Int) * (u : Int)) % (n : Int) = ((u * u % n : Nat) : Int) := fun u => by rw [Int.natCast_emod, Int.natCast_mul]
  refine ⟨ks.map Int.toNat, ?_, fun x => ?_⟩
  · unfold nI
    rw [List.map_map]
    conv => lhs; rw [← List.map_id ks]
    apply List.map_congr_left
    intro k hk
    obtain ⟨u, _, e⟩ := List.mem_map.mp ((hm k).mp hk)
    rw [hsq] at e
    show k = ((k.toNat : Nat) : Int)
    omega
  · rw [List.mem_map]
    unfold sqL
    rw [List.mem_map]
    constructor
    · rintro ⟨k, hk, rfl⟩
      obtain ⟨u, hu, e⟩ := List.mem_map.mp ((hm k).mp hk)
      rw [hsq] at e
      exact ⟨u, hu, by omega⟩
    · rintro ⟨u, hu, rfl⟩
      exact ⟨((u * u % n : Nat) : Int), (hm _).mpr (List.mem_map.mpr ⟨u, hu, hsq u⟩), by omega⟩
/-- the sorted squares of a list -/
def sqA (n : Nat) (L : List Nat) : List Nat := (List.range n).filter fun x => decide (x ∈ sqL n L)
theorem mem_sqA {n : Nat} (h1 : 1 ≤ n) {L : List Nat} {x : Nat} : x ∈ sqA n L ↔ x ∈ sqL n L := by
  unfold sqA
  rw [List.mem_filter, List.mem_range, decide_eq_true_eq]
  refine ⟨fun z => z.2, fun z => ⟨?_, z⟩⟩
  obtain ⟨u, _, rfl⟩ := List.mem_map.mp z
  exact Nat.mod_lt _ (by omega)
theorem sqA_lt {n x : Nat} {L : List Nat} (h : x ∈ sqA n L) : x < n := by
  unfold sqA at h
  exact List.mem_range.mp (List.mem_filter.mp h).1
theorem sqA_is {n : Nat} (h1 : 1 ≤ n) {L : List Nat} (ks : List Int) (h : ks.Pairwise (· < ·)) (hm : ∀ k, k ∈ ks ↔ k ∈ L.map fun u : Nat => ((u : Int) * (u : Int)) % (n : Int)) : ks = nI (sqA n L) := by
  obtain ⟨P, rfl, hP⟩ := sq_asc ks h hm
  refine asc_uniq h (asc_nI (List.pairwise_lt_range.filter _)) fun k => ?_
  rw [mem_nI, mem_nI]
  constructor
  · rintro ⟨z, hz, e⟩; exact ⟨z, (mem_sqA h1).mpr ((hP z).mp hz), e⟩
  · rintro ⟨z, hz, e⟩; exact ⟨z, (hP z).mpr ((mem_sqA h1).mp hz), e⟩
theorem sqA_len (n : Nat) (L : List Nat) : (sqA n L).length ≤ n := by
  unfold sqA
  exact Nat.le_trans (List.length_filter_le _ _) (by simp)
theorem b_ladder {X : Cx} {W : WX} (Z : Sx X W) (B : Bd X N_unit_ladder nm_unit_ladder) (hr : Room 2 X.A) (g1 : X.mg "all" = none) (g2 : X.mg "tuple" = none) (g3 : X.mg "sorted" = none) (GU : FdX X "units" 1 Tunits) (GG : FdX X "generated_units" 2 Tgen)
    (n h : Nat) (h4 : 4 ≤ n) (hn : n ≤ 2000) (hh : h ≤ 10) (hf : First (stopL n) h) :
    SD X W [some (.fz (dI n)), none, none, none] (defBody s_unit_ladder) (PostR (.val (.v (.tup (rungs n (h + 1)))))) := by
  have hc := Z.calm
  unfold dI
  have e1 : ∀ q r p, EV X [some (.fz (.int (n : Int))), none, none, none] (.Call (.Name "units" q) [(.Name "whole" r)] [] p) (.v (.tup (dL (unitsN n)))) := by
    intro q r p
    exact (ev_call (T := Tunits) (ds := [dI n]) (by wtm_at "fd") (by wtm_at "bd") (by wtm_at "room") (by wtm_at "side") (by wtm_at "mem") (by wtm_at "args") ⟨n, by omega, by omega, rfl, rfl⟩)
  refine sd_seq (ss_setL Z B (ev_lst (av_cons (e1 _ _ _) av_nil) (by simp)) (by wtm_at "up") (by wtm_at "ls") ?_)
  refine sd_seq (ss_while Z (fun y ρ => ∃ k : Nat, k + y = h ∧ ρ = ρL n k) ⟨h, _, Le.refl _, 0, by omega, rfl⟩ ?_)
  rintro y ρ' ⟨k, hk, rfl⟩
  have hlast : ∀ q p r t s, EV X (ρL n k) (.Subscript (.Name "rungs" q) (.UnaryOp .USub (.Constant (.int 1) t p) r) s) (.v (.tup (dL (rung n k)))) := by
    intro q p r t s
    exact ev_ixL (EV.sl (by wtm_at "nm")) (ev_neg ev_int) (rungs_last n k)
  have hlen := len_rung n k
  refine ⟨!stopL n k, tv_not (tv_val ?_), fun hk2 => ?_, fun hk2 => ?_⟩
  · rw [← stop_bit h4]
    refine ev_cB B (cr_all hc) cb_all (by wtm_at "mem") (by wtm_at "mg") (by decide +kernel) (EV.sl (EV.nll ?_))
    rw [List.map_map]
    refine EV.as (ev_lc B hc [("unit", 3)] (by decide +kernel) (xs := rung n k) (φ := dI) (f := D.bl ∘ fun x : Nat => (decide ((x : Int) = 1) || decide ((x : Int) = (n : Int) - 1))) (pr := fun _ => true) ((iv_tup (hlast _ _ _ _ _)).as rfl) (by rw [sizeLine_eq]; omega) ?_) (by rw [List.filter_eq_self.mpr (fun _ _ => rfl)])
    intro x hx
    exact lcAt_name (by wtm_at "upw") (by wtm_at "mem") (by simp) fun X' kk => ⟨tsv_nil, fun _ => ev_or (by wtm_at "ev") fun _ => ev_one (by wtm_at "ev")⟩
  · have hk3 : stopL n k = false := by simpa using hk2
    have hkh : k ≠ h := fun e => by subst e; rw [hf.1] at hk3; cases hk3
    refine sd_seq (ss_setL (ds := dL (sqA n (rung n k))) Z B ?_ (by wtm_at "up") (by wtm_at "ls") ?_)
    · rw [← dL_nI]
      refine ev_sortedSet B hc (by wtm_at "mem") (by wtm_at "mg") [("unit", 3)] (by decide +kernel) (xs := rung n k) (φ := dI) (f := fun u : Nat => ((u : Int) * (u : Int)) % (n : Int)) ((iv_tup (hlast _ _ _ _ _)).as rfl) (by omega) (fun x hx => ?_) fun ks h1 h2 => sqA_is (by omega) ks h1 h2
      have hxl := rung_lt (by omega) hx
      have hn0 : (0 : Int) < (n : Int) := by omega
      exact lcAt_name (by wtm_at "upw") (by wtm_at "mem") (by simp) fun X' kk => ⟨tsv_nil, fun _ => ev_mod (ev_mul (by wtm_at "ev") (by wtm_at "ev") (.inr ⟨by omega, by omega⟩)) (by wtm_at "ev") hn0⟩
    have hsl := sqA_len n (rung n k)
    have hgen : ∀ (q r1 r2 r3 r4 r5 r6 p p2 : Pos) (t : Nat), EV X [some (.fz (.int (n : Int))), some (.ol (rungs n (k + 1))), some (.ol (dL (sqA n (rung n k)))), none] (.Call (.Name "generated_units" q) [.Name "whole" r1, .BinOp (.Name "squares" r2) .Add (.List [.BinOp (.Name "whole" r3) .Sub (.Constant (.int 1) t r4) r5] r6) p] [] p2) (.v (.tup (dL (rung n (k + 1))))) := by
      intro q r1 r2 r3 r4 r5 r6 p p2 t
      have hgs : ∀ g ∈ sqA n (rung n k) ++ [n - 1], g ≤ 1000000 := fun g hg => by
        rcases List.mem_append.mp hg with z | z
        · have := sqA_lt z; omega
        · rw [List.mem_singleton.mp z]; omega
      have hgm : ∀ x, x ∈ sqA n (rung n k) ++ [n - 1] ↔ x ∈ sqL n (rung n k) ∨ x = n - 1 := fun x => by
        rw [List.mem_append, List.mem_singleton, mem_sqA (by omega)]
      have ecat : EV X [some (.fz (.int (n : Int))), some (.ol (rungs n (k + 1))), some (.ol (dL (sqA n (rung n k)))), none] (.BinOp (.Name "squares" r2) .Add (.List [.BinOp (.Name "whole" r3) .Sub (.Constant (.int 1) t r4) r5] r6) p) (.nl (dL (sqA n (rung n k) ++ [n - 1]))) := by
        rw [dL_app]
        refine ev_cat (by wtm_at "nm") (EV.nll (EV.as (ev_lst (av_cons (ev_sub (by wtm_at "ev") ev_int) av_nil) (by simp)) ?_)) ?_
        · rw [show ((n : Int) - 1) = ((n - 1 : Nat) : Int) by omega]; rfl
        · rw [dL_len, dL_len, sizeLine_eq]; simp; omega
      exact ev_call (T := Tgen) (ds := [dI n, .lst (dL (sqA n (rung n k) ++ [n - 1]))]) (by wtm_at "fd") (by wtm_at "bd") (by wtm_at "room") (by wtm_at "side") (by wtm_at "mem") (av_cons (by wtm_at "ev") (av_cons (EV.frz ecat) av_nil)) ⟨n, _, _, by omega, by omega, hgs, rfl, gen_rung (by omega) k hgm, rfl⟩
    refine sd_seq (ss_app B (by wtm_at "sk") (by wtm_at "vs") (hgen _ _ _ _ _ _ _ _ _ _) (by rw [rungs_len, sizeLine_eq]; omega) (by wtm_at "up") ?_)
    refine sd_drop "squares" B (by wtm_at "up") (sd_nil ⟨_, Le.refl _, y - 1, by omega, k + 1, by omega, ?_⟩)
    simp only [ρL, rungs_succ n (k + 1)]
  · have hk3 : stopL n k = true := by simpa using hk2
    have hkh : k = h := by
      rcases Nat.lt_or_ge k h with e | e
      · have := hf.2 k e; rw [hk3] at this; cases this
      · omega
    subst hkh
    refine sd_seq (ss_ret (kd := .v (.tup (rungs n (k + 1)))) (ev_cT B call_tuple_of cb_tupL (by wtm_at "mem") (by wtm_at "mg") (by decide +kernel) (EV.sl (by wtm_at "nm"))) rfl)
end K87
namespace K87
open PySem PySem.Spec PyProof.Rows L2 DL
/-! unity_nest, _law_unity -/
theorem len_bit {n k : Nat} (h : 2 ≤ n ∨ (n = 1 ∧ k = 0)) : decide ((1 : Int) < ((dL (grpL n k)).length : Nat)) = !stopH n k := by
  rw [dL_len]
  rcases h with h | ⟨rfl, rfl⟩
  · have G := grp_pow h k
    have h1 : 1 ∈ grpL n k := (mem_grpL h k 1).mpr G.one
    have ha := asc_grpL n k
    cases e : stopH n k with
    | true =>
      have e' : ∀ x ∈ powL n k, x = 1 := fun x hx => by
        unfold stopH at e
        rw [List.all_eq_true] at e
        simpa using e x hx
      have hall : ∀ x ∈ grpL n k, x = 1 := fun x hx => e' x ((mem_grpL h k x).mp hx)
      apply decide_eq_false
      intro hlt
      match hL : grpL n k with
      | [] => rw [hL] at hlt; simp at hlt
      | [a] => rw [hL] at hlt; simp at hlt
      | a :: b :: t =>
        rw [hL] at ha hall
        rw [List.pairwise_cons] at ha
        have q1 := ha.1 b List.mem_cons_self
        have q2 := hall a List.mem_cons_self
        have q3 := hall b (List.mem_cons_of_mem _ List.mem_cons_self)
        omega
    | false =>
      apply decide_eq_true
      match hL : grpL n k with
      | [] => rw [hL] at h1; simp at h1
      | [a] =>
        rw [hL] at h1
        exfalso
        have : stopH n k = true := by
          unfold stopH
          rw [List.all_eq_true]
          intro x hx
          have z := (mem_grpL h k x).mpr hx
          rw [hL] at z
          have : x = 1 := (List.mem_singleton.mp z).trans (List.mem_singleton.mp h1).symm
          simpa using this
        rw [e] at this; cases this
      | a :: b :: t => simp only [List.length_cons]; omega
  · decide +kernel
def rUn (C : Addr) (h : Nat) : Option Nat → Res
  | none => .val (.v (dI h))
  | some q => .ex C [("word", .str "NeverDrawn"), ("prime", dI q)]
def Tun (C : Addr) : List D → Res → Prop := fun ds r => ∃ n h : Nat, 1 ≤ n ∧ n ≤ 2000 ∧ ds = [dI n] ∧ (oddP n = none → First (stopH n) h) ∧ r = rUn C h (oddP n)
theorem first_one {n h k : Nat} (h1 : 1 ≤ n) (hf : First (stopH n) h) (hk : k ≤ h) : 2 ≤ n ∨ (n = 1 ∧ k = 0) := by
  by_cases e : n = 1
  · subst e
    right
    refine ⟨rfl, ?_⟩
    have z : stopH 1 0 = true := by decide +kernel
    rcases Nat.eq_zero_or_pos h with q | q
    · omega
    · have := hf.2 0 q; rw [z] at this; cases this
  · left; omega
abbrev ρU (n k : Nat) : Rho := [some (.fz (.int (n : Int))), some (.fz (.int (k : Int))), some (.fz (.tup (dL (grpL n k)))), none]
theorem b_nest {X : Cx} {W : WX} {C : Addr} (Z : Sx X W) (B : Bd X N_unity_nest nm_unity_nest) (hr : Room 4 X.A) (g1 : X.mg "len" = none) (g3 : X.mg "sorted" = none) (GU : FdX X "units" 1 Tunits) (GG : FdX X "generated_units" 2 Tgen) (GM : FdX X "must_be_written" 4 (Tmbw C))
    (n h : Nat) (h1 : 1 ≤ n) (hn : n ≤ 2000) (hf : oddP n = none → First (stopH n) h) :
    SD X W [some (.fz (dI n)), none, none, none] (defBody s_unity_nest) (PostR (rUn C h (oddP n))) := by
  have hc := Z.calm
  unfold dI
  cases ho : oddP n with
  | some q =>
    refine sd_seq (ss_exprX (R := fun r => r = rMbw C (oddP n)) (xv_call (T := Tmbw C) (ds := [dI n]) (r := rMbw C (oddP n)) Z GM B hr (by omega) (by wtm_at "mem") (by wtm_at "args") ⟨n, h1, by omega, rfl, rfl⟩ rfl) (fun kd e => ?_) fun C' fs e => ?_)
    · rw [ho] at e; cases e
    · rw [ho] at e
      cases e
      exact rfl
  | none =>
    have hf := hf ho
    refine sd_seq (ss_exprX (R := fun r => r = rMbw C (oddP n)) (xv_call (T := Tmbw C) (ds := [dI n]) (r := rMbw C (oddP n)) Z GM B hr (by omega) (by wtm_at "mem") (by wtm_at "args") ⟨n, h1, by omega, rfl, rfl⟩ rfl) (fun kd e => ?_) fun C' fs e => ?_)
    · refine sd_seq (ss_set Z B (by wtm_at "ev") (by wtm_at "up") (by wtm_at "ls") ?_)
      have e1 : ∀ q r p, EV X [some (.fz (.int (n : Int))), some (.fz (.int 0)), none, none] (.Call (.Name "units" q) [(.Name "whole" r)] [] p) (.v (.tup (dL (unitsN n)))) := by
        intro q r p
        exact (ev_call (T := Tunits) (ds := [dI n]) (by wtm_at "fd") (by wtm_at "bd") (by wtm_at "room") (by wtm_at "side") (by wtm_at "mem") (by wtm_at "args") ⟨n, by omega, by omega, rfl, rfl⟩)
      refine sd_seq (ss_set Z B (e1 _ _ _) (by wtm_at "up") (by wtm_at "ls") ?_)
      refine sd_seq (ss_while Z (fun y ρ => ∃ k : Nat, k + y = h ∧ ρ = ρU n k) ⟨h, _, Le.refl _, 0, by omega, rfl⟩ ?_)
      rintro y ρ' ⟨k, hk, rfl⟩
      have hcase := first_one h1 hf (show k ≤ h by omega)
      have hlen := len_grpL n k
      refine ⟨!stopH n k, (Cm.tv (cm_gt (j := 1) (EV.as (kd := .v (.int ((dL (grpL n k)).length : Nat))) (ev_cB B call_len_seq cb_lenT (by wtm_at "mem") (by wtm_at "mg") (by decide +kernel) (by wtm_at "st")) rfl) ev_int)).as (len_bit hcase), fun hk2 => ?_, fun hk2 => ?_⟩
      · have hk3 : stopH n k = false := by simpa using hk2
        have hkh : k ≠ h := fun e => by subst e; rw [hf.1] at hk3; cases hk3
        have hn2 : 2 ≤ n := by
          rcases first_one h1 hf (show k + 1 ≤ h by omega) with z | z
          · exact z
          · omega
        have hn0 : (0 : Int) < (n : Int) := by omega
        have hgs : ∀ g ∈ sqA n (grpL n k), g ≤ 1000000 := fun g hg => by have := sqA_lt hg; omega
        have hgm : ∀ x, x ∈ sqA n (grpL n k) ↔ x ∈ sqL n (grpL n k) := fun x => mem_sqA (by omega)
        refine sd_seq (ss_set (d := .tup (dL (grpL n (k + 1)))) Z B (ev_call (T := Tgen) (ds := [dI n, .lst (dL (sqA n (grpL n k)))]) (by wtm_at "fd") (by wtm_at "bd") (by wtm_at "room") (by wtm_at "side") (by wtm_at "mem") (av_cons (by wtm_at "ev") (av_cons (EV.frz ?_) av_nil)) ⟨n, _, _, by omega, by omega, hgs, rfl, gen_grpL (by omega) k hgm, rfl⟩) (by wtm_at "up") (by wtm_at "ls") ?_)
        · rw [← dL_nI]
          refine ev_sortedSet B hc (by wtm_at "mem") (by wtm_at "mg") [("unit", 3)] (by decide +kernel) (xs := grpL n k) (φ := dI) (f := fun u : Nat => ((u : Int) * (u : Int)) % (n : Int)) ((iv_tup (ds := dL (grpL n k)) (by wtm_at "ev")).as rfl) (by omega) (fun x hx => ?_) fun ks h1 h2 => sqA_is (by omega) ks h1 h2
          have hxl := (grp_pow hn2 k).lt x ((mem_grpL hn2 k x).mp hx)
          exact lcAt_name (by wtm_at "upw") (by wtm_at "mem") (by simp) fun X' kk => ⟨tsv_nil, fun _ => ev_mod (ev_mul (by wtm_at "ev") (by wtm_at "ev") (.inr ⟨by omega, by omega⟩)) (by wtm_at "ev") hn0⟩
        refine sd_seq (ss_addI Z B (by wtm_at "sk") (by wtm_at "ev") (by wtm_at "up") (by wtm_at "ls") ?_)
        exact sd_nil ⟨_, Le.refl _, y - 1, by omega, k + 1, by omega, rfl⟩
      · have hk3 : stopH n k = true := by simpa using hk2
        have hkh : k = h := by
          rcases Nat.lt_or_ge k h with e | e
          · have := hf.2 k e; rw [hk3] at this; cases this
          · omega
        subst hkh
        exact sd_seq (ss_ret (by wtm_at "ev") rfl)
    · rw [ho] at e; cases e
def uD (h : Nat) : Option Nat → D
  | none => .tup [.str "ok", dI h]
  | some q => .tup [.str "NeverDrawn", dI q]
def Tunity : List D → Res → Prop := fun ds r => ∃ n h : Nat, 1 ≤ n ∧ n ≤ 2000 ∧ ds = [dI n] ∧ (oddP n = none → First (stopH n) h) ∧ r = .val (.v (uD h (oddP n)))
theorem b_unity {X : Cx} {W : WX} {C : Addr} (Z : Sx X W) (B : Bd X N__law_unity nm__law_unity) (hr : Room 5 X.A) (GN : FdX X "unity_nest" 5 (Tun C)) (hm : X.mg "NeverDrawn" = some (.ref C)) (hx : PySem.W.exmOne X.K (.ref C) (.ref C) = some true) (xf : XfC X.K C)
    (n1 : PySem.W.findIn X.K (.ref C) "word" = some none) (n2 : PySem.W.findIn X.K (.ref C) "prime" = some none)
    (n h : Nat) (h1 : 1 ≤ n) (hn : n ≤ 2000) (hf : oddP n = none → First (stopH n) h) :
    SD X W [some (.fz (dI n)), none] (defBody s__law_unity) (PostR (.val (.v (uD h (oddP n))))) := by
  unfold dI
  cases ho : oddP n with
  | none =>
    refine sd_seq (ss_try1 (Pb := fun o => o = .rt (.v (uD h none))) Z B (i := 1) (by wtm_at "at") (by wtm_at "mem") (by wtm_at "mem") hm (fun X1 W1 ck Z1 B1 => ?_) (fun ρ e => by cases e) (fun ρ e => by cases e) (fun ρ e => by cases e) (fun kd e => by cases e; rfl) fun C' fs ρ' e => by cases e)
    refine sd_seq (ss_retX (R := fun r => r = .val (.v (uD h none))) (xv_tup2 (Rb := fun r => r = rUn C h (oddP n)) ev_str (xv_call (T := Tun C) (ds := [dI n]) (r := rUn C h (oddP n)) Z1 (Fd.ck ck GN) B1 (ck.room hr) (by omega) (by wtm_at "mem") (by wtm_at "args") ⟨n, h, h1, hn, rfl, hf, rfl⟩ rfl) (fun kd e => ?_) fun C' fs e => ?_) (fun kd e => ?_) fun C' fs e => ?_)
    · rw [ho] at e; cases e; exact ⟨_, rfl, rfl⟩
    · rw [ho] at e; cases e
    · cases e; rfl
    · cases e
  | some q =>
    refine sd_seq (ss_try1 (Pb := fun o => o = .ex C [("word", .str "NeverDrawn"), ("prime", dI q)] [some (.fz (.int (n : Int))), none]) Z B (i := 1) (by wtm_at "at") (by wtm_at "mem") (by wtm_at "mem") hm (fun X1 W1 ck Z1 B1 => ?_) (fun ρ e => by cases e) (fun ρ e => by cases e) (fun ρ e => by cases e) (fun kd e => by cases e) fun C' fs ρ' e => ?_)
    · refine sd_seq (ss_retX (R := fun r => r = .ex C [("word", .str "NeverDrawn"), ("prime", dI q)]) (xv_tup2 (Rb := fun r => r = rUn C h (oddP n)) ev_str (xv_call (T := Tun C) (ds := [dI n]) (r := rUn C h (oddP n)) Z1 (Fd.ck ck GN) B1 (ck.room hr) (by omega) (by wtm_at "mem") (by wtm_at "args") ⟨n, h, h1, hn, rfl, hf, rfl⟩ rfl) (fun kd e => ?_) fun C' fs e => ?_) (fun kd e => ?_) fun C' fs e => ?_)
      · rw [ho] at e; cases e
      · rw [ho] at e; cases e; rfl
      · cases e
      · cases e; rfl
    · cases e
      refine ⟨true, hx, fun e => by (cases e), fun _ Xs y dd U => ?_⟩
      show SD Xs W [some (.fz (.int (n : Int))), some (.fz (.exc y dd ["word", "prime"] [.str "NeverDrawn", dI q]))] _ _
      refine sd_seq (ss_ret (kd := .v (.tup [.str "NeverDrawn", dI q])) (ev_tup (av_cons (ev_xf U xf n1 (by wtm_at "nm") rfl) (av_cons (ev_xf U xf n2 (by wtm_at "nm") rfl) av_nil)) (by simp)) rfl)
end K87
namespace K87
open PySem PySem.Spec PyProof.Rows L2 DL
/-! _law_same, _law_cell, _law_digits -/
def Tsame : List D → Res → Prop := fun ds r => ∃ d : D, Shw d ∧ ds = [d, d] ∧ r = .val (.v (.bl true))
theorem b_same {X : Cx} {W : WX} (Z : Sx X W) (B : Bd X N__law_same nm__law_same) (hr : Room 1 X.A) (g1 : X.mg "repr" = none) (d : D) (hs : Shw d) :
    SD X W [some (.fz d), some (.fz d)] (defBody s__law_same) (PostR (.val (.v (.bl true)))) := by
  refine sd_seq (ss_ret (kd := .v (.bl true)) (EV.as (Cm.ev (cm_eqS (ev_repr B hr (by wtm_at "mem") g1 (by wtm_at "nm") rfl hs) (ev_repr B hr (by wtm_at "mem") g1 (by wtm_at "nm") rfl hs))) (by simp)) rfl)
def seedI (ns : List Int) : Int := ns.foldl (fun s c => (s * 31 + c % 1000003) % 1000003) 17
def cellI (ns : List Int) (k : Nat) : Int := if k < ns.length then ns.getD k 0 else ((seedI ns + 7) * ((k : Int) + 3) * 69621) % 2147483647
def Tcell : List D → Res → Prop := fun ds r => ∃ (ns : List Int) (k : Nat), ns.length ≤ 63 ∧ k ≤ 100 ∧ ds = [.scr (ns.map D.int), dI k] ∧ r = .val (.v (.int (cellI ns k)))
theorem b_cell {X : Cx} {W : WX} (Z : Sx X W) (B : Bd X N__law_cell nm__law_cell) (g1 : X.mg "len" = none) (g2 : X.mg "int" = none) (ns : List Int) (k : Nat) (hk : k ≤ 100) :
    SD X W [some (.fz (.scr (ns.map D.int))), some (.fz (dI k)), none, none] (defBody s__law_cell) (PostR (.val (.v (.int (cellI ns k))))) := by
  unfold dI
  have hl : (ns.map D.int).length = ns.length := List.length_map ..
  refine sd_seq (ss_if (by wtm_at "tv") (fun hb => ?_) fun hb => ?_)
  · have hb' : k < ns.length := by
      have := of_decide_eq_true hb
      rw [hl] at this
      omega
    have hat : (ns.map D.int)[k]? = some (.int (ns.getD k 0)) := by
      rw [List.getElem?_map, List.getElem?_eq_getElem hb', List.getD_eq_getElem?_getD, List.getElem?_eq_getElem hb']; rfl
    refine sd_seq (ss_ret (kd := .v (.int (ns.getD k 0))) (ev_cT B call_int1 cb_int (by wtm_at "mem") (by wtm_at "mg") (by decide +kernel) (ev_ixL (by wtm_at "sl") (by wtm_at "ev") (atI_nat hat))) ?_)
    show Res.val _ = _
    unfold cellI
    rw [if_pos hb']
  · have hb' : ¬ k < ns.length := by
      have := of_decide_eq_false hb
      rw [hl] at this
      omega
    refine sd_nil ?_
    refine sd_seq (ss_set Z B (by wtm_at "ev") (by wtm_at "up") (by wtm_at "ls") ?_)
    refine sd_seq (ss_for Z (xs := ns) (φ := D.int) (iv_scr (by wtm_at "nm")) (fun i ρ => ρ = [some (.fz (.scr (ns.map D.int))), some (.fz (.int (k : Int))), some (.fz (.int (seedI (ns.take i)))), none])
      ⟨_, Le.refl _, rfl⟩ (fun i x ρ' hx hI => ?_) fun ρ' hI => ?_)
    · subst hI
      have e : seedI (ns.take (i + 1)) = (seedI (ns.take i) * 31 + x % 1000003) % 1000003 := by
        unfold seedI
        rw [take_last hx, List.foldl_append]; rfl
      rw [e]
      generalize seedI (ns.take i) = s
      refine ⟨_, [3], tg_name B (by wtm_at "up") (by wtm_at "mem") (by simp), ?_⟩
      refine sd_seq (ss_set Z B (by wtm_at "ev") (by wtm_at "up") (by wtm_at "ls") ?_)
      exact sd_drop "cell" B (by wtm_at "up") (sd_nil ⟨_, Le.refl _, rfl⟩)
    · subst hI
      rw [List.take_length]
      refine sd_seq (ss_ret (by wtm_at "ev") ?_)
      show Res.val _ = _
      unfold cellI
      rw [if_neg hb']
/-! digits -/
def prodI (ss : List Int) : Int := ss.foldr (· * ·) 1
def digA : Int → List Int → List Int
  | _, [] => []
  | r, s :: t => (r % s) :: digA (r / s) t
def sd1 (s : Int) (k : Nat) : Int := (s * 48271 + 974711 * (k : Int) + 12345) % 2147483647
def tw (s : Int) : Int := (s * (s / 65537 + 3)) % 2147483629
def digB : Int → Nat → List Int → List Int
  | _, _, [] => []
  | s, k, z :: t => ((tw (sd1 s k) / 19) % z) :: digB (sd1 s k) (k + 1) t
theorem digB_cons {s z : Int} {k : Nat} {t : List Int} : digB s k (z :: t) = ((tw (sd1 s k) / 19) % z) :: digB (sd1 s k) (k + 1) t := rfl
def digI (c : Int) (ss : List Int) : List Int := if (10 : Int) ^ ((18 : Int).toNat) ≤ c then digA ((c - (10 : Int) ^ ((18 : Int).toNat)) % prodI ss) ss else digB (c % 2147483629) 0 ss
def Tdig : List D → Res → Prop := fun ds r => ∃ (c : Int) (ss : List Int), ss.length ≤ 50 ∧ (∀ s ∈ ss, 0 < s ∧ s ≤ 100) ∧ ds = [.int c, .lst (ss.map D.int)] ∧ r = .val (.nl ((digI c ss).map D.int))
theorem prodI_pos : ∀ {ss : List Int}, (∀ s ∈ ss, 0 < s ∧ s ≤ 100) → 0 < prodI ss
  | [], _ => by show (0 : Int) < 1; decide
  | s :: t, h => Int.mul_pos (h s List.mem_cons_self).1 (prodI_pos fun z hz => h z (List.mem_cons_of_mem _ hz))
theorem drop_at {ss : List Int} {i : Nat} {s : Int} (h : ss[i]? = some s) : ss.drop i = s :: ss.drop (i + 1) := by
  obtain ⟨hi, e⟩ := List.getElem?_eq_some_iff.mp h
  rw [List.drop_eq_getElem_cons hi, e]
theorem b_dig {X : Cx} {W : WX} (Z : Sx X W) (B : Bd X N__law_digits nm__law_digits) (g1 : X.mg "int" = none) (g2 : X.mg "range" = none) (g3 : X.mg "len" = none) (c : Int) (ss : List Int) (hl : ss.length ≤ 50) (hs : ∀ s ∈ ss, 0 < s ∧ s ≤ 100) :
    SD X W [some (.fz (.int c)), some (.fz (.lst (ss.map D.int))), none, none, none, none, none, none, none] (defBody s__law_digits) (PostR (.val (.nl ((digI c ss).map D.int)))) := by
  refine sd_seq (ss_set Z B (by wtm_at "ev") (by wtm_at "up") (by wtm_at "ls") ?_)
  refine sd_seq (ss_for Z (xs := ss) (φ := D.int) (iv_list (by wtm_at "nm")) (fun i ρ => ∃ t : Int, t * prodI (ss.drop i) = prodI ss ∧ ρ = [some (.fz (.int c)), some (.fz (.lst (ss.map D.int))), some (.fz (.int t)), none, none, none, none, none, none])
      ⟨_, Le.refl _, 1, by rw [List.drop_zero, Int.one_mul], rfl⟩ ?_ ?_)
  · rintro i s ρ' hx ⟨t, ht, rfl⟩
    obtain ⟨s1, s2⟩ := hs s (List.mem_of_getElem? hx)
    refine ⟨_, [3], tg_name B (by wtm_at "up") (by wtm_at "mem") (by simp), ?_⟩
    refine sd_seq (ss_set Z B (by wtm_at "ev") (by wtm_at "up") (by wtm_at "ls") ?_)
    refine sd_drop "size" B (by wtm_at "up") (sd_nil ⟨_, Le.refl _, t * s, ?_, rfl⟩)
    rw [← ht, drop_at hx, Int.mul_assoc]; rfl
  · rintro ρ' ⟨t, ht, rfl⟩
    rw [List.drop_length] at ht
    have et : t = prodI ss := by rw [← ht]; show t = t * 1; omega
    subst et
    have hp := prodI_pos hs
    generalize hP : prodI ss = P at hp
    refine sd_seq (ss_setL Z B (by wtm_at "nl") (by wtm_at "up") (by wtm_at "ls") ?_)
    refine sd_seq (ss_if (Cm.tv (cm_ge (by wtm_at "ev") (ev_pow ev_int ev_int ⟨by decide, by decide, by decide⟩))) (fun hb => ?_) fun hb => ?_)
    · have hb' := of_decide_eq_true hb
      have ed : digI c ss = digA ((c - (10 : Int) ^ ((18 : Int).toNat)) % P) ss := by unfold digI; rw [if_pos hb', hP]
      rw [ed]
      refine sd_seq (ss_set Z B (ev_mod (ev_cT B call_int1 cb_int (by wtm_at "mem") (by wtm_at "mg") (by decide +kernel) (ev_sub (by wtm_at "ev") (ev_pow ev_int ev_int ⟨by decide, by decide, by decide⟩))) (by wtm_at "ev") hp) (by wtm_at "up") (by wtm_at "ls") ?_)
      generalize (c - (10 : Int) ^ ((18 : Int).toNat)) % P = r0
      refine sd_seq (ss_for Z (xs := ss) (φ := D.int) (iv_list (by wtm_at "nm")) (fun i ρ => ∃ (L : List Int) (r : Int), L.length = i ∧ L ++ digA r (ss.drop i) = digA r0 ss ∧ ρ = [some (.fz (.int c)), some (.fz (.lst (ss.map D.int))), some (.fz (.int P)), none, some (.ol (L.map D.int)), some (.fz (.int r)), none, none, none])
        ⟨_, Le.refl _, [], r0, rfl, by rw [List.drop_zero]; rfl, rfl⟩ ?_ ?_)
      · rintro i s ρ' hx ⟨L, r, hL, hd, rfl⟩
        obtain ⟨s1, s2⟩ := hs s (List.mem_of_getElem? hx)
        have hil : i < ss.length := (List.getElem?_eq_some_iff.mp hx).1
        refine ⟨_, [3], tg_name B (by wtm_at "up") (by wtm_at "mem") (by simp), ?_⟩
        refine sd_seq (ss_app B (by wtm_at "sk") (by wtm_at "vs") (by wtm_at "ev") (by rw [List.length_map, sizeLine_eq]; omega) (by wtm_at "up") ?_)
        refine sd_seq (ss_set Z B (by wtm_at "ev") (by wtm_at "up") (by wtm_at "ls") ?_)
        refine sd_drop "size" B (by wtm_at "up") (sd_nil ⟨_, Le.refl _, L ++ [r % s], r / s, by rw [List.length_append, hL]; rfl, ?_, ?_⟩)
        · rw [← hd, drop_at hx, List.append_assoc]; rfl
        · rw [List.map_append]; rfl
      · rintro ρ' ⟨L, r, hL, hd, rfl⟩
        rw [List.drop_length] at hd
        have : L = digA r0 ss := by rw [← hd]; simp [digA]
        subst this
        exact sd_seq (ss_retO B (by wtm_at "sk") (by wtm_at "vs") rfl)
    · have hb' := of_decide_eq_false hb
      have ed : digI c ss = digB (c % 2147483629) 0 ss := by unfold digI; rw [if_neg hb']
      rw [ed]
      refine sd_nil ?_
      refine sd_seq (ss_set Z B (by wtm_at "ev") (by wtm_at "up") (by wtm_at "ls") ?_)
      generalize c % 2147483629 = s0
      have elen : ((ss.map D.int).length : Int) = (ss.length : Int) := by rw [List.length_map]
      refine sd_seq (ss_for Z (xs := List.range ss.length) (φ := fun i : Nat => D.int (i : Int)) ((iv_r1 B (by wtm_at "mem") (by wtm_at "mg") (EV.as (kd := .v (.int ((ss.map D.int).length : Nat))) (by wtm_at "ev") (by rw [List.length_map])) (j := (ss.length : Int)) (by omega) (by omega)).as (by rw [Int.toNat_natCast])) (fun i ρ => ∃ (L : List Int) (s : Int), L.length = i ∧ L ++ digB s i (ss.drop i) = digB s0 0 ss ∧ ρ = [some (.fz (.int c)), some (.fz (.lst (ss.map D.int))), some (.fz (.int P)), none, some (.ol (L.map D.int)), none, some (.fz (.int s)), none, none])
        ⟨_, Le.refl _, [], s0, rfl, by rw [List.drop_zero]; rfl, rfl⟩ ?_ ?_)
      · rintro i x ρ' hx ⟨L, s, hL, hd, rfl⟩
        have hil : i < ss.length := by
          have := (List.getElem?_eq_some_iff.mp hx).1
          simpa using this
        have ex : x = i := by
          rw [List.getElem?_range hil] at hx
          exact (Option.some.inj hx).symm
        subst ex
        obtain ⟨z, hz⟩ : ∃ z, ss[x]? = some z := ⟨_, List.getElem?_eq_getElem hil⟩
        obtain ⟨z1, z2⟩ := hs z (List.mem_of_getElem? hz)
        have hat : (ss.map D.int)[x]? = some (.int z) := by rw [List.getElem?_map, hz]; rfl
        have b1 : 0 ≤ sd1 s x ∧ sd1 s x < 2147483647 := by unfold sd1; omega
        refine ⟨_, [7], tg_name B (by wtm_at "up") (by wtm_at "mem") (by simp), ?_⟩
        refine sd_seq (ss_set (d := .int (sd1 s x)) Z B (by unfold sd1; wtm_at "ev") (by wtm_at "up") (by wtm_at "ls") ?_)
        rw [drop_at hz] at hd
        rw [digB_cons] at hd
        generalize sd1 s x = s2 at b1 hd
        obtain ⟨b2, b3⟩ := b1
        refine sd_seq (ss_set (d := .int (tw s2)) Z B (by unfold tw; wtm_at "ev") (by wtm_at "up") (by wtm_at "ls") ?_)
        refine sd_seq (ss_app (d := .int (tw s2 / 19 % z)) B (by wtm_at "sk") (by wtm_at "vs") (ev_mod (by wtm_at "ev") (ev_ixL (by wtm_at "sl") (by wtm_at "ev") (atI_nat hat)) z1) (by rw [List.length_map, sizeLine_eq]; omega) (by wtm_at "up") ?_)
        refine sd_drop "k" B (by wtm_at "up") (sd_drop "twice" B (by wtm_at "up") (sd_nil ⟨_, Le.refl _, L ++ [tw s2 / 19 % z], s2, by rw [List.length_append, hL]; rfl, ?_, ?_⟩))
        · rw [← hd, List.append_assoc]; rfl
        · rw [List.map_append]; rfl
      · rintro ρ' ⟨L, s, hL, hd, rfl⟩
        rw [List.length_range, List.drop_length] at hd
        have : L = digB s0 0 ss := by rw [← hd]; simp [digB]
        subst this
        exact sd_seq (ss_retO B (by wtm_at "sk") (by wtm_at "vs") rfl)
end K87
namespace K87
open PySem PySem.Spec PyProof.Rows L2 DL
/-! the digits' bounds; _law_made -/
theorem emod_bd {a s : Int} (h : 0 < s) : 0 ≤ a % s ∧ a % s < s := ⟨Int.emod_nonneg _ (by omega), Int.emod_lt_of_pos _ h⟩
theorem digA_bd : ∀ {ss : List Int} {r : Int} {i : Nat} {s : Int}, ss[i]? = some s → 0 < s → ∃ d, (digA r ss)[i]? = some d ∧ 0 ≤ d ∧ d < s
  | [], _, _, _, h, _ => by simp at h
  | z :: t, r, 0, s, h, h0 => by
    simp at h
    subst h
    exact ⟨r % z, rfl, emod_bd h0⟩
  | z :: t, r, i + 1, s, h, h0 => by
    have h' : t[i]? = some s := by simpa using h
    obtain ⟨d, a, b⟩ := digA_bd (r := r / z) h' h0
    exact ⟨d, by show (_ :: digA (r / z) t)[i + 1]? = _; simpa using a, b⟩
theorem digB_bd : ∀ {ss : List Int} {r : Int} {k i : Nat} {s : Int}, ss[i]? = some s → 0 < s → ∃ d, (digB r k ss)[i]? = some d ∧ 0 ≤ d ∧ d < s
  | [], _, _, _, _, h, _ => by simp at h
  | z :: t, r, k, 0, s, h, h0 => by
    simp at h
    subst h
    exact ⟨_, rfl, emod_bd h0⟩
  | z :: t, r, k, i + 1, s, h, h0 => by
    have h' : t[i]? = some s := by simpa using h
    obtain ⟨d, a, b⟩ := digB_bd (r := sd1 r k) (k := k + 1) h' h0
    exact ⟨d, by rw [digB_cons]; simpa using a, b⟩
theorem dig_bd {c : Int} {ss : List Int} {i : Nat} {s : Int} (h : ss[i]? = some s) (h0 : 0 < s) : ∃ d, (digI c ss)[i]? = some d ∧ 0 ≤ d ∧ d < s := by
  unfold digI
  split
  · exact digA_bd h h0
  · exact digB_bd h h0
/-- the i-th digit -/
def dg (c : Int) (ss : List Int) (i : Nat) : Int := (digI c ss).getD i 0
theorem dg_at {c : Int} {ss : List Int} {i : Nat} {s : Int} (h : ss[i]? = some s) (h0 : 0 < s) : ((digI c ss).map D.int)[i]? = some (.int (dg c ss i)) ∧ 0 ≤ dg c ss i ∧ dg c ss i < s := by
  obtain ⟨d, e, b⟩ := dig_bd (c := c) h h0
  have : dg c ss i = d := by unfold dg; rw [List.getD_eq_getElem?_getD, e]; rfl
  rw [this]
  exact ⟨by rw [List.getElem?_map, e]; rfl, b⟩
abbrev szM : List Int := [17, 4, 4, 4, 3]
def facM (k : Nat) : Int := [3, 5, 17, 257].getD k 0
def trnM (d : Int) : Nat := [0, 1, 1, 2].getD d.toNat 0
def mul1 (m f : Int) : Int := if m * f ≤ 100000 then m * f else m
def mulN (f m : Int) : Nat → Int
  | 0 => m
  | t + 1 => mul1 (mulN f m t) f
def madeK (c : Int) : Nat → Int
  | 0 => 1 * 2 ^ (dg c szM 0).toNat
  | k + 1 => mulN (facM k) (madeK c k) (trnM (dg c szM (1 + k)))
def madeI (c : Int) : Int := madeK c 4
theorem facM_bd {k : Nat} (h : k < 4) : 1 ≤ facM k ∧ facM k ≤ 257 := by
  have : k = 0 ∨ k = 1 ∨ k = 2 ∨ k = 3 := by omega
  rcases this with rfl | rfl | rfl | rfl <;> decide
theorem mulN_bd {f m : Int} (hf : 1 ≤ f) (hm : 1 ≤ m ∧ m ≤ 100000) : ∀ t, 1 ≤ mulN f m t ∧ mulN f m t ≤ 100000
  | 0 => hm
  | t + 1 => by
    obtain ⟨a, b⟩ := mulN_bd hf hm t
    unfold mulN mul1
    split
    · rename_i h
      refine ⟨?_, h⟩
      have := Int.mul_pos (show 0 < mulN f m t by omega) (show 0 < f by omega)
      omega
    · exact ⟨a, b⟩
theorem madeK_bd (c : Int) : ∀ k, k ≤ 4 → 1 ≤ madeK c k ∧ madeK c k ≤ 100000
  | 0, _ => by
    obtain ⟨_, a, b⟩ := dg_at (c := c) (ss := szM) (i := 0) (s := 17) rfl (by decide)
    unfold madeK
    rw [Int.one_mul]
    have h1 : (dg c szM 0).toNat ≤ 16 := by omega
    have h2 : (2 : Nat) ^ (dg c szM 0).toNat ≤ 2 ^ 16 := Nat.pow_le_pow_right (by decide) h1
    have h3 : 0 < (2 : Nat) ^ (dg c szM 0).toNat := Nat.pow_pos (by decide)
    have e : (2 : Int) ^ (dg c szM 0).toNat = (((2 : Nat) ^ (dg c szM 0).toNat : Nat) : Int) := by rw [Int.natCast_pow]; rfl
    have e2 : (2 : Nat) ^ 16 = 65536 := by decide
    rw [e]
    omega
  | k + 1, h => by
    unfold madeK
    exact mulN_bd (facM_bd (by omega)).1 (madeK_bd c k (by omega)) _
def Tmade : List D → Res → Prop := fun ds r => ∃ c : Int, ds = [.int c] ∧ r = .val (.v (.int (madeI c)))
theorem trn_at {d : Int} (h0 : 0 ≤ d) (h1 : d < 4) : atI [D.int 0, D.int 1, D.int 1, D.int 2] d = some (.int (trnM d : Nat)) ∧ trnM d ≤ 2 := by
  have : d = 0 ∨ d = 1 ∨ d = 2 ∨ d = 3 := by omega
  rcases this with rfl | rfl | rfl | rfl <;> exact ⟨rfl, by decide⟩
theorem fac_at {k : Nat} (h : k < 4) : atI [D.int 3, D.int 5, D.int 17, D.int 257] (k : Int) = some (.int (facM k)) := by
  have : k = 0 ∨ k = 1 ∨ k = 2 ∨ k = 3 := by omega
  rcases this with rfl | rfl | rfl | rfl <;> rfl
theorem szM_at {k : Nat} (h : k < 4) : ∃ s : Int, szM[1 + k]? = some s ∧ 0 < s ∧ s ≤ 4 := by
  have : k = 0 ∨ k = 1 ∨ k = 2 ∨ k = 3 := by omega
  rcases this with rfl | rfl | rfl | rfl
  · exact ⟨4, rfl, by decide, by decide⟩
  · exact ⟨4, rfl, by decide, by decide⟩
  · exact ⟨4, rfl, by decide, by decide⟩
  · exact ⟨3, rfl, by decide, by decide⟩
theorem b_made {X : Cx} {W : WX} (Z : Sx X W) (B : Bd X N__law_made nm__law_made) (hr : Room 1 X.A) (g2 : X.mg "range" = none) (G : FdX X "_law_digits" 1 Tdig) (c : Int) :
    SD X W [some (.fz (.int c)), none, none, none, none] (defBody s__law_made) (PostR (.val (.v (.int (madeI c))))) := by
  have hsz : ∀ s ∈ szM, 0 < s ∧ s ≤ 100 := by decide
  have e1 : ∀ q r a1 a2 a3 a4 a5 a6 p t1 t2 t3 t4 t5, EV X [some (.fz (.int c)), none, none, none, none] (.Call (.Name "_law_digits" q) [.Name "cell" r, .List [.Constant (.int 17) t1 a1, .Constant (.int 4) t2 a2, .Constant (.int 4) t3 a3, .Constant (.int 4) t4 a4, .Constant (.int 3) t5 a5] a6] [] p) (.nl ((digI c szM).map D.int)) := by
    intro q r a1 a2 a3 a4 a5 a6 p t1 t2 t3 t4 t5
    exact (ev_call (T := Tdig) (ds := [.int c, .lst (szM.map D.int)]) (by wtm_at "fd") (by wtm_at "bd") (by wtm_at "room") (by wtm_at "side") (by wtm_at "mem") (av_cons (by wtm_at "ev") (av_cons (EV.frz (EV.as (ev_lst (av_cons ev_int (av_cons ev_int (av_cons ev_int (av_cons ev_int (av_cons ev_int av_nil))))) (by simp)) rfl)) av_nil)) ⟨c, szM, by decide, hsz, rfl, rfl⟩)
  refine sd_seq (ss_setL Z B (e1 _ _ _ _ _ _ _ _ _ _ _ _ _ _) (by wtm_at "up") (by wtm_at "ls") ?_)
  obtain ⟨at0, r1, r2⟩ := dg_at (c := c) (ss := szM) (i := 0) (s := 17) rfl (by decide)
  refine sd_seq (ss_set (d := .int (madeK c 0)) Z B (ev_shl ev_int (ev_ixL (by wtm_at "sl") ev_int (atI_nat (j := 0) at0)) ⟨r1, by omega, by decide⟩) (by wtm_at "up") (by wtm_at "ls") ?_)
  clear at0 r1 r2
  refine sd_seq (ss_for Z (xs := List.range 4) (φ := fun i : Nat => D.int (i : Int)) ((iv_r1 B (by wtm_at "mem") (by wtm_at "mg") ev_int (by decide) (by decide)).as rfl) (fun i ρ => ρ = [some (.fz (.int c)), some (.ol ((digI c szM).map D.int)), some (.fz (.int (madeK c i))), none, none])
    ⟨_, Le.refl _, rfl⟩ (fun i x ρ' hx hI => ?_) fun ρ' hI => ?_)
  · subst hI
    have hil : i < 4 := by have := (List.getElem?_eq_some_iff.mp hx).1; simpa using this
    have ex : x = i := by rw [List.getElem?_range hil] at hx; exact (Option.some.inj hx).symm
    subst ex
    have hm := madeK_bd c x (by omega)
    have hfb := facM_bd hil
    have hfa := fac_at hil
    obtain ⟨s, hs1, hs2, hs3⟩ := szM_at hil
    obtain ⟨ati, i1, i2⟩ := dg_at (c := c) hs1 hs2
    obtain ⟨tr1, tr2⟩ := trn_at i1 (Int.lt_of_lt_of_le i2 hs3)
    have e3 : madeK c (x + 1) = mulN (facM x) (madeK c x) (trnM (dg c szM (1 + x))) := rfl
    rw [e3]
    generalize madeK c x = m0 at hm ⊢
    generalize dg c szM (1 + x) = d at ati i1 i2 tr1 tr2 ⊢
    generalize trnM d = T at tr1 tr2 ⊢
    clear e3
    refine ⟨_, [3], tg_name B (by wtm_at "up") (by wtm_at "mem") (by simp), ?_⟩
    have hix : atI ((digI c szM).map D.int) (1 + (x : Int)) = some (.int d) := by
      have := atI_nat ati
      rwa [show ((1 + x : Nat) : Int) = 1 + (x : Int) by omega] at this
    have hfac : ∀ q a1 a2 a3 a4 a5 p t1 t2 t3 t4, ∀ (m : Int) (o : Option Sl), EV X [some (.fz (.int c)), some (.ol ((digI c szM).map D.int)), some (.fz (.int m)), some (.fz (.int (x : Int))), o] (.Subscript (.List [.Constant (.int 3) t1 a1, .Constant (.int 5) t2 a2, .Constant (.int 17) t3 a3, .Constant (.int 257) t4 a4] a5) (.Name "k" q) p) (.v (.int (facM x))) := by
      intro q a1 a2 a3 a4 a5 p t1 t2 t3 t4 m o
      exact ev_ixL (EV.sl (EV.nll (EV.as (ev_lst (av_cons ev_int (av_cons ev_int (av_cons ev_int (av_cons ev_int av_nil)))) (by simp)) rfl))) (by wtm_at "nm") hfa
    refine sd_seq (ss_for Z (xs := List.range T) (φ := fun i : Nat => D.int (i : Int)) ((iv_r1 (j := (T : Int)) B (by wtm_at "mem") (by wtm_at "mg") (ev_ixL (EV.sl (EV.nll (EV.as (ev_lst (av_cons ev_int (av_cons ev_int (av_cons ev_int (av_cons ev_int av_nil)))) (by simp)) rfl))) (ev_ixL (by wtm_at "sl") (by wtm_at "ev") hix) tr1) (by omega) (by omega)).as (by rw [Int.toNat_natCast])) (fun t ρ => ρ = [some (.fz (.int c)), some (.ol ((digI c szM).map D.int)), some (.fz (.int (mulN (facM x) m0 t))), some (.fz (.int (x : Int))), none])
      ⟨_, Le.refl _, rfl⟩ (fun t y ρ' hy hI => ?_) fun ρ' hI => ?_)
    · subst hI
      have hmb := mulN_bd hfb.1 hm t
      have e4 : mulN (facM x) m0 (t + 1) = mul1 (mulN (facM x) m0 t) (facM x) := rfl
      rw [e4]
      generalize mulN (facM x) m0 t = m at hmb ⊢
      generalize facM x = f at hfb hfac ⊢
      refine ⟨_, [4], tg_name B (by wtm_at "up") (by wtm_at "mem") (by simp), ?_⟩
      have hcm : CMul m f := .inl ⟨by omega, by omega⟩
      refine sd_seq (ss_if (Cm.tv (cm_le (ev_mul (by wtm_at "nm") (hfac _ _ _ _ _ _ _ _ _ _ _ _ _) hcm) ev_int)) (fun hk => ?_) fun hk => ?_)
      · have hk' := of_decide_eq_true hk
        refine sd_seq (ss_set Z B (ev_mul (by wtm_at "nm") (hfac _ _ _ _ _ _ _ _ _ _ _ _ _) hcm) (by wtm_at "up") (by wtm_at "ls") ?_)
        refine sd_nil (sd_drop "turn" B (by wtm_at "up") (sd_nil ⟨_, Le.refl _, ?_⟩))
        unfold mul1; rw [if_pos hk']
      · have hk' := of_decide_eq_false hk
        refine sd_nil (sd_drop "turn" B (by wtm_at "up") (sd_nil ⟨_, Le.refl _, ?_⟩))
        unfold mul1; rw [if_neg hk']
    · subst hI
      rw [List.length_range]
      exact sd_drop "k" B (by wtm_at "up") (sd_nil ⟨_, Le.refl _, rfl⟩)
  · subst hI
    rw [List.length_range]
    refine sd_seq (ss_ret (by wtm_at "ev") ?_)
    rfl
end K87
namespace K87
open PySem PySem.Spec PyProof.Rows L2 DL
/-! _law_height, _law_ladder_due -/
theorem filt_bit {α : Type} {L : List α} {p q : α → Bool} (h : ∀ x ∈ L, p x = !q x) : (L.filter p).isEmpty = L.all q := by
  rw [Bool.eq_iff_iff, List.isEmpty_iff, List.filter_eq_nil_iff, List.all_eq_true]
  constructor
  · intro z x hx
    have := z x hx
    rw [h x hx] at this
    simpa using this
  · intro z x hx
    rw [h x hx, z x hx]
    decide
theorem height_bit {n k : Nat} (h : 2 ≤ n ∨ (n = 1 ∧ k = 0)) : ∀ x ∈ powL n k, (!decide (((x : Int) - 1) % (n : Int) = 0)) = !decide (x = 1) := by
  intro x hx
  congr 1
  rcases h with h | ⟨rfl, rfl⟩
  · have G := grp_pow h k
    have h1 := G.pos h hx
    have h2 := G.lt x hx
    rw [Int.emod_eq_of_lt (by omega) (by omega)]
    exact decide_eq_decide.mpr (by omega)
  · have z := mem_units.mp hx
    have : x = 1 := by omega
    subst this
    decide
theorem sq_data (n : Nat) (L : List Nat) : (L.map fun u : Nat => D.int (((u : Int) * (u : Int)) % (n : Int))) = dL (sqL n L) := by
  unfold dL sqL
  rw [List.map_map]
  apply List.map_congr_left
  intro u _
  show D.int _ = D.int _
  rw [Int.natCast_emod, Int.natCast_mul]
theorem pow_bd {n k x : Nat} (h1 : 1 ≤ n) (hn : n ≤ 2000) (hx : x ∈ powL n k) : x ≤ 2000 := by
  cases k with
  | zero => have := (mem_units.mp hx).2.1; omega
  | succ k =>
    obtain ⟨u, _, rfl⟩ := List.mem_map.mp hx
    have := Nat.mod_lt (u * u) (show 0 < n by omega)
    omega
def Theight : List D → Res → Prop := fun ds r => ∃ n h : Nat, 1 ≤ n ∧ n ≤ 2000 ∧ ds = [dI n] ∧ h ≤ 10 ∧ First (stopH n) h ∧ r = .val (.v (dI h))
theorem b_height {X : Cx} {W : WX} (Z : Sx X W) (B : Bd X N__law_height nm__law_height) (hr : Room 2 X.A) (hk : X.env.scope.kind = .function) (g1 : X.mg "int" = none) (g2 : X.mg "range" = none) (GU : FdX X "_law_units" 2 TLunits)
    (n h : Nat) (h1 : 1 ≤ n) (hn : n ≤ 2000) (hh : h ≤ 10) (hf : First (stopH n) h) :
    SD X W [some (.fz (dI n)), none, none, none] (defBody s__law_height) (PostR (.val (.v (dI h)))) := by
  have hc := Z.calm
  have hn0 : (0 : Int) < (n : Int) := by omega
  unfold dI
  have e1 : ∀ q r p, EV X [some (.fz (.int (n : Int))), none, none, none] (.Call (.Name "_law_units" q) [(.Name "whole" r)] [] p) (.nl (dL (unitsN n))) := by
    intro q r p
    exact (ev_call (T := TLunits) (ds := [dI n]) (by wtm_at "fd") (by wtm_at "bd") (by wtm_at "room") (by wtm_at "side") (by wtm_at "mem") (by wtm_at "args") ⟨n, by omega, by omega, rfl, rfl⟩)
  refine sd_seq (ss_setL Z B (e1 _ _ _) (by wtm_at "up") (by wtm_at "ls") ?_)
  refine sd_seq (ss_for Z (xs := List.range 20) (φ := fun i : Nat => D.int (i : Int)) ((iv_r1 B (by wtm_at "mem") (by wtm_at "mg") ev_int (by decide) (by decide)).as rfl) (fun i ρ => i ≤ h ∧ ρ = [some (.fz (.int (n : Int))), some (.ol (dL (powL n i))), none, none])
    ⟨_, Le.refl _, Nat.zero_le _, rfl⟩ ?_ ?_)
  · rintro i x ρ' hx ⟨hih, rfl⟩
    have hil : i < 20 := by omega
    have ex : x = i := by rw [List.getElem?_range hil] at hx; exact (Option.some.inj hx).symm
    subst ex
    have hlen := len_pow n x
    have hcase := first_one h1 hf hih
    refine ⟨_, [2], tg_name B (by wtm_at "up") (by wtm_at "mem") (by simp), ?_⟩
    refine sd_frz (x := "powers") B (by wtm_at "sk") (by wtm_at "up") ?_
    have hll : ∀ q, EV X [some (.fz (.int (n : Int))), some (.fz (.lst (dL (powL n x)))), some (.fz (.int (x : Int))), none] (.Name "powers" q) (.v (.lst (dL (powL n x)))) := fun q => by wtm_at "nm"
    have hlc : ∀ L : List Nat, L = powL n x → (dL ((powL n x).filter fun u : Nat => !decide (((u : Int) - 1) % (n : Int) = 0))) = ((powL n x).filter fun u : Nat => !decide (((u : Int) - 1) % (n : Int) = 0)).map dI := fun _ _ => rfl
    have hsmall : ∀ d ∈ dL ((powL n x).filter fun u : Nat => !decide (((u : Int) - 1) % (n : Int) = 0)), ShwB d 41 0 := eqb_dL fun u hu => Nat.le_trans (pow_bd h1 hn (List.mem_filter.mp hu).1) (by omega)
    have hbit : (PyData.eqv (D.lst (dL ((powL n x).filter fun u : Nat => !decide (((u : Int) - 1) % (n : Int) = 0)))).py (D.lst []).py) = stopH n x := by
      rw [eqv_nil, dL_empty]
      exact filt_bit (height_bit hcase)
    refine sd_seq (ss_if ((Cm.tv (cm_eqD hr (ka := .nl (dL ((powL n x).filter fun u : Nat => !decide (((u : Int) - 1) % (n : Int) = 0)))) ?_ (ev_lst av_nil (by simp)) rfl rfl ((shwB_lst hsmall).eqb (by omega)) eqb_nil)).as hbit) (fun hk2 => ?_) fun hk2 => ?_)
    · refine ev_lc B hc [("unit", 3)] (by decide +kernel) (xs := powL n x) (φ := dI) (f := dI) ((iv_list (hll _)).as rfl) (by rw [sizeLine_eq]; omega) ?_
      intro u hu
      refine lcAt_name (by wtm_at "upw") (by wtm_at "mem") (by simp) fun X' kk => ⟨tsv_one (Cm.tv (cm_neI (ev_mod (ev_cT kk.bd call_int1 cb_int (by wtm_at "mem") (by wtm_at "mg") (by decide +kernel) (ev_sub (by wtm_at "nm") ev_int)) (by wtm_at "nm") hn0) ev_int)), fun _ => by wtm_at "nm"⟩
    · have hxh : x = h := by
        rcases Nat.lt_or_ge x h with e | e
        · have := hf.2 x e; rw [hk2] at this; cases this
        · omega
      subst hxh
      refine sd_seq (ss_ret (by wtm_at "ev") ?_)
      rfl
    · have hxh : x ≠ h := fun e => by subst e; rw [hf.1] at hk2; cases hk2
      refine sd_nil ?_
      refine sd_seq (ss_setC Z B (own := [("unit", 3)]) (by decide +kernel) (xs := powL n x) (φ := dI) (f := fun u : Nat => D.int (((u : Int) * (u : Int)) % (n : Int))) (pr := fun _ => true) ((iv_list (hll _)).as rfl) (by rw [sizeLine_eq]; omega) ?_ (by wtm_at "mem") (by wtm_at "up") ?_ (hk := hk))
      · intro u hu
        have hub := pow_bd h1 hn hu
        exact lcAt_name (by wtm_at "upw") (by wtm_at "mem") (by simp) fun X' kk => ⟨tsv_nil, fun _ => ev_mod (ev_cT kk.bd call_int1 cb_int (by wtm_at "mem") (by wtm_at "mg") (by decide +kernel) (ev_mul (by wtm_at "nm") (by wtm_at "nm") (.inr ⟨by omega, by omega⟩))) (by wtm_at "nm") hn0⟩
      · rw [List.filter_eq_self.mpr (fun _ _ => rfl), sq_data]
        refine sd_drop "count" B (by wtm_at "up") (sd_nil ⟨_, Le.refl _, by omega, ?_⟩)
        rfl
  · rintro ρ' ⟨hih, rfl⟩
    rw [List.length_range] at hih
    omega
end K87
namespace K87
open PySem PySem.Spec PyProof.Rows L2 DL
theorem sw_cell {elt : Expr} {gs : List Comprehension} {scope : Scope} {pos py : Pos} {y : Str} {l : Nat} {env : Env} (hy : env.scope.names.lookup y = some .cell) : swapsWith (.ListComp elt gs scope pos) (some (.Name y py)) l env = pure false := by
  have ky : env.kindOf y = some .cell := hy
  have e : (some NameKind.cell == some NameKind.local) = false := by decide
  unfold swapsWith
  simp only [ky, e, Bool.and_false, Bool.false_and]
/-! the marks -/
def mk (n : Nat) (P : List Nat) : List D := (List.range n).map fun x : Nat => D.int (if x ∈ P ∨ n - x ∈ P then 1 else 0)
theorem mk_len (n : Nat) (P : List Nat) : (mk n P).length = n := by unfold mk; simp
theorem mk_nil (n : Nat) : ((List.range n).map fun _ : Nat => D.int 0) = mk n [] := by
  unfold mk
  apply List.map_congr_left
  intro x _
  rw [if_neg (by simp)]
theorem mk_get {n x : Nat} {P : List Nat} (h : x < (mk n P).length) : (mk n P)[x] = D.int (if x ∈ P ∨ n - x ∈ P then 1 else 0) := by simp [mk]
theorem mk_put {n u : Nat} {P : List Nat} (h1 : 1 ≤ u) (h2 : u < n) : ((mk n P).set u (.int 1)).set (n - u) (.int 1) = mk n (P ++ [u]) := by
  apply List.ext_getElem
  · simp [mk_len]
  · intro x hx1 hx2
    have hx : x < n := by rw [mk_len] at hx2; exact hx2
    rw [List.getElem_set, List.getElem_set, mk_get, mk_get]
    by_cases a : n - u = x
    · rw [if_pos a, if_pos (Or.inr (List.mem_append_right _ (by rw [List.mem_singleton]; omega)))]
    · rw [if_neg a]
      by_cases b : u = x
      · rw [if_pos b, if_pos (Or.inl (List.mem_append_right _ (by rw [List.mem_singleton]; omega)))]
      · rw [if_neg b]
        congr 1
        have e : (x ∈ P ++ [u] ∨ n - x ∈ P ++ [u]) ↔ (x ∈ P ∨ n - x ∈ P) := by
          rw [List.mem_append, List.mem_append, List.mem_singleton, List.mem_singleton]
          constructor
          · rintro ((h | h) | (h | h))
            · exact .inl h
            · omega
            · exact .inr h
            · omega
          · rintro (h | h)
            · exact .inl (.inl h)
            · exact .inr (.inl h)
        simp only [e]
theorem mk_at {n i : Nat} {P : List Nat} (h : i < n - 1) : atI (mk n P) (1 + (i : Int)) = some (.int (if i + 1 ∈ P ∨ n - (i + 1) ∈ P then 1 else 0)) := by
  have e : (1 + (i : Int)) = ((i + 1 : Nat) : Int) := by omega
  rw [e]
  apply atI_nat
  unfold mk
  rw [List.getElem?_map, List.getElem?_range (by omega)]
  rfl
theorem pm_data (n : Nat) (P : List Nat) : (((List.range (n - 1)).filter fun i => decide (i + 1 ∈ P) || decide (n - (i + 1) ∈ P)).map fun i : Nat => D.int (1 + (i : Int))) = dL (pm n P) := by
  unfold dL pm
  rw [List.map_map]
  apply List.map_congr_left
  intro i _
  show D.int _ = D.int _
  congr 1
  show (1 : Int) + (i : Int) = ((i + 1 : Nat) : Int)
  omega
theorem pm_bit {a b : Prop} [Decidable a] [Decidable b] : decide ((if a ∨ b then (1 : Int) else 0) = 1) = (decide a || decide b) := by
  by_cases ha : a <;> by_cases hb : b <;> simp [ha, hb]
theorem ladder_bit {n k : Nat} (hn : 4 ≤ n) (x : Nat) : (!decide ((x : Int) = 1) && !decide ((x : Int) = (n : Int) - 1)) = !(decide (x = 1) || decide (x = n - 1)) := by
  rw [decide_eq_decide.mpr (show ((x : Int) = 1 ↔ x = 1) by omega), decide_eq_decide.mpr (show ((x : Int) = (n : Int) - 1 ↔ x = n - 1) by omega), Bool.not_or]
abbrev ρD (n k : Nat) : Rho := [some (.fz (.int (n : Int))), some (.fz (.lst (dL (powL n k)))), some (.ol (rungs n (k + 1))), none, none, none]
theorem b_due {X : Cx} {W : WX} (Z : Sx X W) (B : Bd X N__law_ladder_due nm__law_ladder_due) (hr : Room 2 X.A) (hk : X.env.scope.kind = .function) (hmk : X.env.scope.names.lookup ("marks" : Str) = some NameKind.cell) (g1 : X.mg "int" = none) (g2 : X.mg "range" = none) (g3 : X.mg "tuple" = none) (GU : FdX X "_law_units" 2 TLunits)
    (n h : Nat) (h4 : 4 ≤ n) (hn : n ≤ 2000) (hh : h ≤ 10) (hf : First (stopL n) h) :
    SD X W [some (.fz (dI n)), none, none, none, none, none] (defBody s__law_ladder_due) (PostR (.val (.v (.tup (rungs n (h + 1)))))) := by
  have hc := Z.calm
  have hn0 : (0 : Int) < (n : Int) := by omega
  unfold dI
  have e1 : ∀ q r p, EV X [some (.fz (.int (n : Int))), none, none, none, none, none] (.Call (.Name "_law_units" q) [(.Name "whole" r)] [] p) (.nl (dL (unitsN n))) := by
    intro q r p
    exact (ev_call (T := TLunits) (ds := [dI n]) (by wtm_at "fd") (by wtm_at "bd") (by wtm_at "room") (by wtm_at "side") (by wtm_at "mem") (by wtm_at "args") ⟨n, by omega, by omega, rfl, rfl⟩)
  refine sd_seq (ss_setL Z B (e1 _ _ _) (by wtm_at "up") (by wtm_at "ls") ?_)
  refine sd_frz (x := "powers") B (by wtm_at "sk") (by wtm_at "up") ?_
  refine sd_seq (ss_setL (ds := rungs n 1) Z B (EV.as (kd := .nl [.tup (dL (unitsN n))]) (ev_lst (av_cons (ev_cT B call_tuple_of cb_tupL (by wtm_at "mem") (by wtm_at "mg") (by decide +kernel) (EV.sl (EV.ll (by wtm_at "nm")))) av_nil) (by simp)) rfl) (by wtm_at "up") (by wtm_at "ls") ?_)
  refine sd_seq (ss_for Z (xs := List.range 20) (φ := fun i : Nat => D.int (i : Int)) ((iv_r1 B (by wtm_at "mem") (by wtm_at "mg") ev_int (by decide) (by decide)).as rfl) (fun i ρ => i ≤ h ∧ ρ = ρD n i)
    ⟨_, Le.refl _, Nat.zero_le _, rfl⟩ ?_ ?_)
  · rintro i x ρ' hx ⟨hih, rfl⟩
    have hil : i < 20 := by omega
    have ex : x = i := by rw [List.getElem?_range hil] at hx; exact (Option.some.inj hx).symm
    subst ex
    have hlen := len_pow n x
    have hlr := len_rung n x
    refine ⟨_, [3], tg_name B (by wtm_at "up") (by wtm_at "mem") (by simp), ?_⟩
    have hlast : ∀ q p r t s, EV X [some (.fz (.int (n : Int))), some (.fz (.lst (dL (powL n x)))), some (.ol (rungs n (x + 1))), some (.fz (.int (x : Int))), none, none] (.Subscript (.Name "found" q) (.UnaryOp .USub (.Constant (.int 1) t p) r) s) (.v (.tup (dL (rung n x)))) := by
      intro q p r t s
      exact ev_ixL (EV.sl (by wtm_at "nm")) (ev_neg ev_int) (rungs_last n x)
    have hll : ∀ q, EV X [some (.fz (.int (n : Int))), some (.fz (.lst (dL (powL n x)))), some (.ol (rungs n (x + 1))), some (.fz (.int (x : Int))), none, none] (.Name "powers" q) (.v (.lst (dL (powL n x)))) := fun q => by wtm_at "nm"
    have hsmall : ∀ d ∈ dL ((rung n x).filter fun u : Nat => (!decide ((u : Int) = 1) && !decide ((u : Int) = (n : Int) - 1))), ShwB d 41 0 := eqb_dL fun u hu => by
      have := (rung_lt (show 2 ≤ n by omega) (List.mem_filter.mp hu).1).2
      omega
    have hbit : (PyData.eqv (D.lst (dL ((rung n x).filter fun u : Nat => (!decide ((u : Int) = 1) && !decide ((u : Int) = (n : Int) - 1))))).py (D.lst []).py) = stopL n x := by
      rw [eqv_nil, dL_empty]
      exact filt_bit fun u _ => ladder_bit (k := 0) h4 u
    refine sd_seq (ss_if ((Cm.tv (cm_eqD hr (ka := .nl (dL ((rung n x).filter fun u : Nat => (!decide ((u : Int) = 1) && !decide ((u : Int) = (n : Int) - 1))))) ?_ (ev_lst av_nil (by simp)) rfl rfl ((shwB_lst hsmall).eqb (by omega)) eqb_nil)).as hbit) (fun hk2 => ?_) fun hk2 => ?_)
    · refine ev_lc B hc [("unit", 4)] (by decide +kernel) (xs := rung n x) (φ := dI) (f := dI) ((iv_tup (hlast _ _ _ _ _)).as rfl) (by rw [sizeLine_eq]; omega) ?_
      intro u hu
      refine lcAt_name (by wtm_at "upw") (by wtm_at "mem") (by simp) fun X' kk => ⟨tsv_one (WV.tv (wv_and (by wtm_at "tv") fun _ => wv_and1 (by wtm_at "tv"))), fun _ => by wtm_at "nm"⟩
    · have hxh : x = h := by
        rcases Nat.lt_or_ge x h with e | e
        · have := hf.2 x e; rw [hk2] at this; cases this
        · omega
      subst hxh
      refine sd_seq (ss_ret (kd := .v (.tup (rungs n (x + 1)))) (ev_cT B call_tuple_of cb_tupL (by wtm_at "mem") (by wtm_at "mg") (by decide +kernel) (EV.sl (by wtm_at "nm"))) ?_)
      rfl
    · have hxh : x ≠ h := fun e => by subst e; rw [hf.1] at hk2; cases hk2
      clear hbit hsmall
      refine sd_nil ?_
      refine sd_seq (ss_setC Z B (own := [("unit", 4)]) (by decide +kernel) (xs := powL n x) (φ := dI) (f := fun u : Nat => D.int (((u : Int) * (u : Int)) % (n : Int))) (pr := fun _ => true) ((iv_list (hll _)).as rfl) (by rw [sizeLine_eq]; omega) ?_ (by wtm_at "mem") (by wtm_at "up") ?_ (hk := hk))
      · intro u hu
        have hub := pow_bd (by omega) hn hu
        exact lcAt_name (by wtm_at "upw") (by wtm_at "mem") (by simp) fun X' kk => ⟨tsv_nil, fun _ => ev_mod (ev_cT kk.bd call_int1 cb_int (by wtm_at "mem") (by wtm_at "mg") (by decide +kernel) (ev_mul (by wtm_at "nm") (by wtm_at "nm") (.inr ⟨by omega, by omega⟩))) (by wtm_at "nm") hn0⟩
      · rw [List.filter_eq_self.mpr (fun _ _ => rfl), sq_data]
        have eP : sqL n (powL n x) = powL n (x + 1) := rfl
        have G := grp_pow (show 2 ≤ n by omega) (x + 1)
        have eR : rung n (x + 1) = pm n (powL n (x + 1)) := rfl
        rw [eP]
        refine sd_frz (x := "powers") B (by wtm_at "sk") (by wtm_at "up") ?_
        refine sd_seq (ss_setL (ds := mk n []) Z B ?_ (by wtm_at "up") (by wtm_at "ls") ?_ (hs := sw_cell hmk))
        · rw [← mk_nil]
          refine EV.as (ev_lc B hc [("unit", 4)] (by decide +kernel) (xs := List.range n) (φ := fun i : Nat => D.int (i : Int)) (f := fun _ => D.int 0) (pr := fun _ => true) ((iv_r1 (j := (n : Int)) B (by wtm_at "mem") (by wtm_at "mg") (by wtm_at "nm") (by omega) (by omega)).as (by rw [Int.toNat_natCast])) (by rw [List.length_range, sizeLine_eq]; omega) ?_) (by rw [List.filter_eq_self.mpr (fun _ _ => rfl)])
          intro u hu
          exact lcAt_name (by wtm_at "upw") (by wtm_at "mem") (by simp) fun X' kk => ⟨tsv_nil, fun _ => ev_int⟩
        generalize hP : powL n (x + 1) = P at G eR
        refine sd_seq (ss_for Z (xs := P) (φ := dI) ((iv_list (ds := dL P) (by wtm_at "nm")).as rfl) (fun j ρ => ρ = [some (.fz (.int (n : Int))), some (.fz (.lst (dL P))), some (.ol (rungs n (x + 1))), some (.fz (.int (x : Int))), none, some (.ol (mk n (P.take j)))])
          ⟨_, Le.refl _, rfl⟩ (fun j u ρ' hu hI => ?_) fun ρ' hI => ?_)
        · subst hI
          have hum : u ∈ P := List.mem_of_getElem? hu
          have u1 := G.pos (by omega) hum
          have u2 := G.lt u hum
          have ix1 : ixN (mk n (P.take j)).length ((u : Nat) : Int) = some u := by
            rw [mk_len]; unfold ixN; rw [if_pos (by omega), if_pos (by omega)]; rw [Int.toNat_natCast]
          have ix2 : ixN ((mk n (P.take j)).set u (.int 1)).length ((n : Int) - (u : Int)) = some (n - u) := by
            rw [List.length_set, mk_len]; unfold ixN; rw [if_pos (by omega), if_pos (by omega)]; congr 1; omega
          refine ⟨[some (.fz (.int (n : Int))), some (.fz (.lst (dL P))), some (.ol (rungs n (x + 1))), some (.fz (.int (x : Int))), some (.fz (.int (u : Int))), some (.ol (mk n (P.take j)))], [4], tg_name B (by wtm_at "up") (by wtm_at "mem") (by simp), ?_⟩
          refine sd_seq (ss_put B (by wtm_at "sk") (by wtm_at "vs") ev_int (by wtm_at "nm") ix1 (by wtm_at "up") ?_)
          refine sd_seq (ss_put B (by wtm_at "sk") (by wtm_at "vs") ev_int (ev_sub (by wtm_at "nm") (by wtm_at "nm")) ix2 (by wtm_at "up") ?_)
          rw [mk_put u1 u2, ← take_last hu]
          refine sd_drop "unit" B (by wtm_at "up") (sd_nil ⟨_, Le.refl _, ?_⟩)
          rfl
        · subst hI
          rw [List.take_length]
          refine sd_seq (ss_app (d := .tup (dL (pm n P))) B (by wtm_at "sk") (by wtm_at "vs") (ev_cT B call_tuple_of cb_tupL (by wtm_at "mem") (by wtm_at "mg") (by decide +kernel) (EV.sl (EV.nll ?_))) (by rw [rungs_len, sizeLine_eq]; omega) (by wtm_at "up") ?_)
          · rw [← pm_data]
            refine ev_lc B hc [("unit", 4)] (by decide +kernel) (xs := List.range (n - 1)) (φ := fun i : Nat => D.int (1 + (i : Int)))
              ((iv_r2 (i := 1) (j := (n : Int)) B (by wtm_at "mem") (by wtm_at "mg") ev_int (by wtm_at "nm") (by omega)).as (by rw [show ((n : Int) - 1).toNat = n - 1 by omega])) (by rw [List.length_range, sizeLine_eq]; omega) ?_
            intro i hi
            have hi' : i < n - 1 := List.mem_range.mp hi
            exact lcAt_name (by wtm_at "upw") (by wtm_at "mem") (by simp) fun X' kk => ⟨(tsv_one (Cm.tv (cm_eqI (ev_ixL (EV.sl (by wtm_at "nm")) (by wtm_at "nm") (mk_at hi')) ev_int))).as pm_bit, fun _ => by wtm_at "nm"⟩
          · refine sd_drop "turn" B (by wtm_at "up") (sd_drop "marks" B (by wtm_at "up") (sd_nil ⟨_, Le.refl _, by omega, ?_⟩))
            simp only [ρD, hP, rungs_succ n (x + 1), eR]
  · rintro ρ' ⟨hih, rfl⟩
    rw [List.length_range] at hih
    omega
end K87
namespace K87
open PySem PySem.Spec PyProof.Rows L2 DL
section
variable {X : Cx} {W : WX} {N : List Str} {nm : List (Str × NameKind)} {ρ ρ' : Rho} {P : Out → Prop}
/-- if c: x = e -/
theorem ss_ifset {x : Str} {i : Nat} {c e : Expr} {a b : Int} {k : Bool} {p' pos1 pos : Pos} (Z : Sx X W) (B : Bd X N nm) (ht : TV X ρ c k) (hi : Sk N ρ x i (some (.fz (.int a)))) (he : k = true → EV X ρ e (.v (.int b)))
    (hu : Up N ρ x i (some (.fz (.int (if k = true then b else a)))) ρ') (hx : Ls nm x) (q : P (.nx ρ')) (hs : swapsWith e (some (.Name x p')) pos1.line X.env = pure false := by rfl) : SS X W ρ (.If c [.Assign [.Name x p'] e pos1] [] pos) P := by
  refine ss_if ht (fun hk => ?_) fun hk => ?_
  · rw [if_pos hk] at hu
    exact sd_seq (ss_set Z B (he hk) hu hx (sd_nil q) hs)
  · rw [hk, if_neg (by decide)] at hu
    obtain ⟨_, rfl, hl⟩ := hu.get
    have e1 := hi.get.2
    have e2 : ρ.set i (some (.fz (.int a))) = ρ := by
      apply List.ext_getElem?
      intro j
      rw [List.getElem?_set]
      split
      · rename_i h; subst h; exact e1.symm
      · rfl
    rw [e2] at q
    exact sd_nil q
end
theorem flat_of {n : Nat} (h1 : 1 ≤ n) (hn : n ≤ 2000) (ho : oddP n = none) : Flat n := by
  have z := flat_t
  rw [List.all_eq_true] at z
  have y := z (n - 1) (List.mem_range.mpr (by omega))
  rw [Nat.sub_add_cancel h1] at y
  unfold flatB at y
  rw [ho] at y
  simp only [Option.isSome_none, Bool.false_or, List.all_eq_true] at y
  intro u hu
  have := y u hu
  exact eq_of_beq this
theorem height_of {n : Nat} (h1 : 1 ≤ n) (hn : n ≤ 2000) : ∃ h, h ≤ 10 ∧ (oddP n = none → First (stopH n) h) := by
  cases ho : oddP n with
  | some q => exact ⟨0, by omega, fun e => by cases e⟩
  | none =>
    by_cases e : n = 1
    · subst e
      exact ⟨0, by omega, fun _ => ⟨by decide +kernel, fun j hj => absurd hj (Nat.not_lt_zero _)⟩⟩
    · obtain ⟨h, a, b⟩ := first_le 10 (stopH_flat (by omega) (flat_of h1 hn ho))
      exact ⟨h, a, fun _ => b⟩
theorem ladder_of {n : Nat} (h4 : 4 ≤ n) (hn : n ≤ 2000) (ho : oddP n = none) : ∃ h, h ≤ 10 ∧ First (stopL n) h := by
  obtain ⟨h, a, b⟩ := first_le 10 (stopL_flat (by omega) (flat_of (by omega) hn ho))
  exact ⟨h, a, b⟩
/-! the law's whole -/
def stp (b : Nat) (f w : Int) : Int := if (decide ((b : Int) = 1) && decide (w * f ≤ 2000)) = true then f * w else w
def whI (r0 r1 r2 r3 r4 : Nat) : Int := if (decide ((r4 : Int) = 0) && decide ((6 : Int) < (r0 : Int))) = true then 4 * 257 else stp r3 17 (stp r2 5 (stp r1 3 (4 * 2 ^ r0)))
theorem wh_t : (List.range 9).all (fun a => (List.range 2).all fun b => (List.range 2).all fun c => (List.range 2).all fun d => (List.range 3).all fun e =>
    decide (4 ≤ whI a b c d e) && decide (whI a b c d e ≤ 2000) && (oddP (whI a b c d e).toNat).isNone) = true := by decide +kernel
theorem wh_ok {a b c d e : Nat} (ha : a < 9) (hb : b < 2) (hc : c < 2) (hd : d < 2) (he : e < 3) : ∃ w : Nat, whI a b c d e = (w : Int) ∧ 4 ≤ w ∧ w ≤ 2000 ∧ oddP w = none := by
  have z := wh_t
  simp only [List.all_eq_true, List.mem_range, Bool.and_eq_true, decide_eq_true_eq, Option.isNone_iff_eq_none] at z
  obtain ⟨⟨z1, z2⟩, z3⟩ := z a ha b hb c hc d hd e he
  exact ⟨(whI a b c d e).toNat, by omega, by omega, by omega, z3⟩
theorem oddP_le {n q : Nat} (h1 : 1 ≤ n) (hn : n ≤ 1000000) (ho : oddP n = some q) : q ≤ 1000000 := by
  have z := leastO_ok (oddDue n)
  have e : leastO (oddDue n) = some q := ho
  rw [e] at z
  obtain ⟨_, _, hd⟩ := (mem_odd (phi_bd h1 hn).1).mp z.1
  exact Nat.le_trans (Nat.le_of_dvd (phi_bd h1 hn).1 hd) (phi_bd h1 hn).2
theorem shwB_dI {x : Nat} (h : x ≤ 1000000) : ShwB (dI x) 41 0 := shwB_int (by rw [Int.natAbs_natCast]; exact Nat.lt_of_le_of_lt h (by decide))
theorem shw_odd {n : Nat} (h1 : 1 ≤ n) (hn : n ≤ 1000000) : Shw (oD (oddP n)) := by
  cases ho : oddP n with
  | none => exact shwB_non.shw (by omega) (by omega)
  | some q => exact (shwB_dI (oddP_le h1 hn ho)).shw (by omega) (by omega)
theorem shw_units {n : Nat} (hn : n ≤ 2000) : Shw (.tup (dL (unitsN n))) := by
  have hl := units_le n
  refine (shwB_tup (w := 41) (t := 0) (eqb_dL fun x hx => ?_)).shw ?_ (by omega)
  · have := (mem_units.mp hx).2.1; omega
  · rw [dL_len]; omega
theorem shw_rungs {n k : Nat} (h4 : 4 ≤ n) (hn : n ≤ 2000) (hk : k ≤ 11) : Shw (.tup (rungs n k)) := by
  refine (shwB_tup (w := 84000) (t := 1) fun d hd => ?_).shw ?_ (by omega)
  · unfold rungs at hd
    obtain ⟨j, _, rfl⟩ := List.mem_map.mp hd
    have hl := len_rung n j
    refine (shwB_tup (w := 41) (t := 0) (eqb_dL fun x hx => ?_)).mono ?_ (by omega)
    · have := (rung_lt (show 2 ≤ n by omega) hx).2; omega
    · rw [dL_len]; omega
  · rw [rungs_len]; omega
theorem shw_uD {n h : Nat} (h1 : 1 ≤ n) (hn : n ≤ 2000) (hh : h ≤ 10) : Shw (uD h (oddP n)) := by
  have s1 : ShwB (.str "ok") 41 0 := (shwB_str (by decide +kernel) (by decide +kernel)).mono (by decide +kernel) (by omega)
  have s2 : ShwB (.str "NeverDrawn") 41 0 := (shwB_str (by decide +kernel) (by decide +kernel)).mono (by decide +kernel) (by omega)
  cases ho : oddP n with
  | none =>
    refine (shwB_tup (w := 41) (t := 0) (ds := [.str "ok", dI h]) fun d hd => ?_).shw (by simp) (by omega)
    rcases List.mem_cons.mp hd with rfl | hd
    · exact s1
    · rw [List.mem_singleton.mp hd]; exact shwB_dI (by omega)
  | some q =>
    refine (shwB_tup (w := 41) (t := 0) (ds := [.str "NeverDrawn", dI q]) fun d hd => ?_).shw (by simp) (by omega)
    rcases List.mem_cons.mp hd with rfl | hd
    · exact s2
    · rw [List.mem_singleton.mp hd]; exact shwB_dI (oddP_le h1 (by omega) ho)
theorem big_at {d : Int} (h0 : 0 ≤ d) (h1 : d < 4) : ∃ v : Nat, atI [D.int 65537, D.int (257 * 17), D.int 65535, D.int 100000] d = some (dI v) ∧ 1 ≤ v ∧ v ≤ 100000 := by
  have : d = 0 ∨ d = 1 ∨ d = 2 ∨ d = 3 := by omega
  rcases this with rfl | rfl | rfl | rfl
  · exact ⟨65537, rfl, by decide, by decide⟩
  · exact ⟨257 * 17, rfl, by decide, by decide⟩
  · exact ⟨65535, rfl, by decide, by decide⟩
  · exact ⟨100000, rfl, by decide, by decide⟩
end K87
namespace K87
open PySem PySem.Spec PyProof.Rows L2 DL
abbrev szL : List Int := [9, 2, 2, 2, 3, 4]
theorem szL_ok : ∀ s ∈ szL, 0 < s ∧ s ≤ 100 := by decide
theorem dgN {c : Int} {i : Nat} {s : Nat} (h : szL[i]? = some (s : Int)) (h0 : 0 < s) : ∃ d : Nat, atI ((digI c szL).map D.int) (i : Int) = some (.int (d : Int)) ∧ d < s := by
  obtain ⟨a, b, e⟩ := dg_at (c := c) h (by omega)
  refine ⟨(dg c szL i).toNat, ?_, by omega⟩
  rw [show (((dg c szL i).toNat : Nat) : Int) = dg c szL i by omega]
  exact atI_nat a
theorem b_law {X : Cx} {W : WX} (Z : Sx X W) (B : Bd X N_law nm_law) (hr : Room 19 X.A) (g1 : X.mg "int" = none) (g2 : X.mg "range" = none) (g3 : X.mg "tuple" = none)
    (Gcell : FdX X "_law_cell" 1 Tcell) (Gdig : FdX X "_law_digits" 1 Tdig) (Gsame : FdX X "_law_same" 2 Tsame) (GU : FdX X "units" 1 Tunits) (GLU : FdX X "_law_units" 2 TLunits) (Gmade : FdX X "_law_made" 2 Tmade)
    (GLodd : FdX X "_law_odd_prime" 3 Todd) (Godd : FdX X "odd_part_prime" 3 Todd) (Glad : FdX X "unit_ladder" 3 Tladder) (Gdue : FdX X "_law_ladder_due" 3 Tladder) (Ghgt : FdX X "_law_height" 3 Theight) (Guni : FdX X "_law_unity" 6 Tunity)
    (ns : List Int) (hns : ns.length ≤ 63) :
    SD X W [some (.fz (.scr (ns.map D.int))), none, none, none, none, none, none, none, none, none] (defBody s_law) (PostR (.val (.v (.bl true)))) := by
  have hc := Z.calm
  have ecell : ∀ (k : Nat) (t : Rho) (q r a p : Pos) (j : Nat), k ≤ 100 → EV X (some (.fz (.scr (ns.map D.int))) :: t) (.Call (.Name "_law_cell" q) [.Name "script" r, .Constant (.int (k : Int)) j a] [] p) (.v (.int (cellI ns k))) := by
    intro k t q r a p j hk
    exact ev_call (T := Tcell) (ds := [.scr (ns.map D.int), dI k]) (by wtm_at "fd") (by wtm_at "bd") (by wtm_at "room") (by wtm_at "side") (by wtm_at "mem") (av_cons (by wtm_at "nm") (av_cons ev_int av_nil)) ⟨ns, k, hns, hk, rfl, rfl⟩
  have c0 : ∀ (t : Rho) (q r a p : Pos) (j : Nat), EV X (some (.fz (.scr (ns.map D.int))) :: t) (.Call (.Name "_law_cell" q) [.Name "script" r, .Constant (.int 0) j a] [] p) (.v (.int (cellI ns 0))) := fun t q r a p j => ecell 0 t q r a p j (by omega)
  have c1 : ∀ (t : Rho) (q r a p : Pos) (j : Nat), EV X (some (.fz (.scr (ns.map D.int))) :: t) (.Call (.Name "_law_cell" q) [.Name "script" r, .Constant (.int 1) j a] [] p) (.v (.int (cellI ns 1))) := fun t q r a p j => ecell 1 t q r a p j (by omega)
  have c2 : ∀ (t : Rho) (q r a p : Pos) (j : Nat), EV X (some (.fz (.scr (ns.map D.int))) :: t) (.Call (.Name "_law_cell" q) [.Name "script" r, .Constant (.int 2) j a] [] p) (.v (.int (cellI ns 2))) := fun t q r a p j => ecell 2 t q r a p j (by omega)
  have c3 : ∀ (t : Rho) (q r a p : Pos) (j : Nat), EV X (some (.fz (.scr (ns.map D.int))) :: t) (.Call (.Name "_law_cell" q) [.Name "script" r, .Constant (.int 3) j a] [] p) (.v (.int (cellI ns 3))) := fun t q r a p j => ecell 3 t q r a p j (by omega)
  clear ecell
  generalize cellI ns 0 = z0 at c0
  generalize cellI ns 1 = z1 at c1
  generalize cellI ns 2 = z2 at c2
  generalize cellI ns 3 = z3 at c3
  generalize hscr : some (Sl.fz (.scr (ns.map D.int))) = S0 at c0 c1 c2 c3 ⊢
  -- row
  refine sd_seq (ss_setL (ds := (digI z0 szL).map D.int) Z B (ev_call (T := Tdig) (ds := [.int z0, .lst (szL.map D.int)]) (by wtm_at "fd") (by wtm_at "bd") (by wtm_at "room") (by wtm_at "side") (by wtm_at "mem") (av_cons (c0 _ _ _ _ _ _) (av_cons (EV.frz (EV.as (ev_lst (av_cons ev_int (av_cons ev_int (av_cons ev_int (av_cons ev_int (av_cons ev_int (av_cons ev_int av_nil)))))) (by simp)) rfl)) av_nil)) ⟨z0, szL, by decide, szL_ok, rfl, rfl⟩) (by wtm_at "up") (by wtm_at "ls") ?_)
  obtain ⟨r0, a0, b0⟩ := dgN (c := z0) (i := 0) (s := 9) rfl (by decide)
  obtain ⟨r1, a1, b1⟩ := dgN (c := z0) (i := 1) (s := 2) rfl (by decide)
  obtain ⟨r2, a2, b2⟩ := dgN (c := z0) (i := 2) (s := 2) rfl (by decide)
  obtain ⟨r3, a3, b3⟩ := dgN (c := z0) (i := 3) (s := 2) rfl (by decide)
  obtain ⟨r4, a4, b4⟩ := dgN (c := z0) (i := 4) (s := 3) rfl (by decide)
  obtain ⟨r5, a5, b5⟩ := dgN (c := z0) (i := 5) (s := 4) rfl (by decide)
  generalize (digI z0 szL).map D.int = R at a0 a1 a2 a3 a4 a5 ⊢
  have erow : ∀ (i : Int) (r : Nat) (t : Rho) (q a p : Pos) (j : Nat), atI R i = some (.int (r : Int)) → EV X (S0 :: some (.ol R) :: t) (.Subscript (.Name "row" q) (.Constant (.int i) j a) p) (.v (.int (r : Int))) := by
    intro i r t q a p j h
    exact ev_ixL (EV.sl (by wtm_at "nm")) ev_int h
  have e0 : ∀ (t : Rho) (q a p : Pos) (j : Nat), EV X (S0 :: some (.ol R) :: t) (.Subscript (.Name "row" q) (.Constant (.int 0) j a) p) (.v (.int (r0 : Int))) := fun t q a p j => erow 0 r0 t q a p j a0
  have e1 : ∀ (t : Rho) (q a p : Pos) (j : Nat), EV X (S0 :: some (.ol R) :: t) (.Subscript (.Name "row" q) (.Constant (.int 1) j a) p) (.v (.int (r1 : Int))) := fun t q a p j => erow 1 r1 t q a p j a1
  have e2 : ∀ (t : Rho) (q a p : Pos) (j : Nat), EV X (S0 :: some (.ol R) :: t) (.Subscript (.Name "row" q) (.Constant (.int 2) j a) p) (.v (.int (r2 : Int))) := fun t q a p j => erow 2 r2 t q a p j a2
  have e3 : ∀ (t : Rho) (q a p : Pos) (j : Nat), EV X (S0 :: some (.ol R) :: t) (.Subscript (.Name "row" q) (.Constant (.int 3) j a) p) (.v (.int (r3 : Int))) := fun t q a p j => erow 3 r3 t q a p j a3
  have e4 : ∀ (t : Rho) (q a p : Pos) (j : Nat), EV X (S0 :: some (.ol R) :: t) (.Subscript (.Name "row" q) (.Constant (.int 4) j a) p) (.v (.int (r4 : Int))) := fun t q a p j => erow 4 r4 t q a p j a4
  have e5 : ∀ (t : Rho) (q a p : Pos) (j : Nat), EV X (S0 :: some (.ol R) :: t) (.Subscript (.Name "row" q) (.Constant (.int 5) j a) p) (.v (.int (r5 : Int))) := fun t q a p j => erow 5 r5 t q a p j a5
  clear erow a0 a1 a2 a3 a4 a5
  -- small
  refine sd_seq (ss_set Z B (ev_add ev_int (ev_mod (ev_cT B call_int1 cb_int (by wtm_at "mem") (by wtm_at "mg") (by decide +kernel) (c1 _ _ _ _ _ _)) ev_int (by decide))) (by wtm_at "up") (by wtm_at "ls") ?_)
  refine sd_seq (ss_ifset Z B (Cm.tv (cm_eqI (e5 _ _ _ _ _) ev_int)) (by wtm_at "sk") (fun _ => ev_add ev_int (ev_mod (ev_cT B call_int1 cb_int (by wtm_at "mem") (by wtm_at "mg") (by decide +kernel) (c1 _ _ _ _ _ _)) ev_int (by decide))) (by wtm_at "up") (by wtm_at "ls") ?_)
  obtain ⟨sm, hsm, sm1, sm2⟩ : ∃ sm : Nat, (if decide ((r5 : Int) = 0) = true then 1 + z1 % 2000 else 1 + z1 % 300) = (sm : Int) ∧ 1 ≤ sm ∧ sm ≤ 2000 := by
    refine ⟨(if decide ((r5 : Int) = 0) = true then 1 + z1 % 2000 else 1 + z1 % 300).toNat, ?_, ?_, ?_⟩ <;> split <;> omega
  rw [hsm]
  clear hsm
  -- the units
  refine sd_seq (ss_for Z (xs := [sm, 1, 2, 2000]) (φ := dI) (iv_list (EV.frz (EV.as (ev_lst (av_cons (by wtm_at "nm") (av_cons ev_int (av_cons ev_int (av_cons ev_int av_nil)))) (by simp)) rfl))) (fun i ρ => ρ = [S0, some (.ol R), some (.fz (.int (sm : Int))), none, none, none, none, none, none, none])
    ⟨_, Le.refl _, rfl⟩ (fun i n ρ' hx hI => ?_) fun ρ' hI => ?_)
  · subst hI
    have hn : 1 ≤ n ∧ n ≤ 2000 := by
      have := List.mem_of_getElem? hx
      simp at this
      omega
    obtain ⟨n1, n2⟩ := hn
    refine ⟨[S0, some (.ol R), some (.fz (.int (sm : Int))), some (.fz (.int (n : Int))), none, none, none, none, none, none], [3], tg_name B (by wtm_at "up") (by wtm_at "mem") (by simp), ?_⟩
    have hU : ∀ q r p, EV X [S0, some (.ol R), some (.fz (.int (sm : Int))), some (.fz (.int (n : Int))), none, none, none, none, none, none] (.Call (.Name "units" q) [.Name "item" r] [] p) (.v (.tup (dL (unitsN n)))) := by
      intro q r p
      exact ev_call (T := Tunits) (ds := [dI n]) (by wtm_at "fd") (by wtm_at "bd") (by wtm_at "room") (by wtm_at "side") (by wtm_at "mem") (av_cons (by wtm_at "nm") av_nil) ⟨n, n1, by omega, rfl, rfl⟩
    have hL : ∀ q r p, EV X [S0, some (.ol R), some (.fz (.int (sm : Int))), some (.fz (.int (n : Int))), none, none, none, none, none, none] (.Call (.Name "_law_units" q) [.Name "item" r] [] p) (.nl (dL (unitsN n))) := by
      intro q r p
      exact ev_call (T := TLunits) (ds := [dI n]) (by wtm_at "fd") (by wtm_at "bd") (by wtm_at "room") (by wtm_at "side") (by wtm_at "mem") (av_cons (by wtm_at "nm") av_nil) ⟨n, n1, by omega, rfl, rfl⟩
    refine sd_seq (ss_if (WV.tv (wv_and (WV.tv (wv_or (Cm.tv (cm_lt (by wtm_at "nm") ev_int)) fun _ => wv_or1 (Cm.tv (cm_eqI (e5 _ _ _ _ _) ev_int)))) fun _ => wv_and1 (tv_not (k := true) (tv_val (ev_call (T := Tsame) (ds := [.tup (dL (unitsN n)), .tup (dL (unitsN n))]) (by wtm_at "fd") (by wtm_at "bd") (by wtm_at "room") (by wtm_at "side") (by wtm_at "mem")
      (av_cons (hU _ _ _) (av_cons (ev_cT B call_tuple_of cb_tupL (by wtm_at "mem") (by wtm_at "mg") (by decide +kernel) (EV.sl (EV.nll (hL _ _ _)))) av_nil)) ⟨_, shw_units n2, rfl, rfl⟩))))) (fun hk => ?_) fun hk => ?_)
    · simp at hk
    · refine sd_nil ?_
      refine sd_drop "item" B (by wtm_at "up") (sd_nil ⟨_, Le.refl _, ?_⟩)
      rfl
  subst hI
  -- great
  obtain ⟨gr, hgr, gr1, gr2⟩ : ∃ gr : Nat, 1 + z2 % 100000 = (gr : Int) ∧ 1 ≤ gr ∧ gr ≤ 100000 := ⟨(1 + z2 % 100000).toNat, by omega, by omega, by omega⟩
  refine sd_seq (ss_set (d := .int (gr : Int)) Z B (EV.as (ev_add ev_int (ev_mod (ev_cT B call_int1 cb_int (by wtm_at "mem") (by wtm_at "mg") (by decide +kernel) (c2 _ _ _ _ _ _)) ev_int (by decide))) (by rw [hgr])) (by wtm_at "up") (by wtm_at "ls") ?_)
  clear hgr
  obtain ⟨md, hmd, md1, md2⟩ : ∃ md : Nat, madeI z3 = (md : Int) ∧ 1 ≤ md ∧ md ≤ 100000 := by
    have := madeK_bd z3 4 (by omega)
    refine ⟨(madeK z3 4).toNat, ?_, ?_, ?_⟩
    · show madeK z3 4 = _; omega
    · omega
    · omega
  obtain ⟨bg, hbg, bg1, bg2⟩ := big_at (d := (r5 : Int)) (by omega) (by omega)
  have emade : ∀ (t : Rho) (q q2 r a p p2 : Pos) (j : Nat), EV X (S0 :: t) (.Call (.Name "_law_made" q2) [.Call (.Name "_law_cell" q) [.Name "script" r, .Constant (.int 3) j a] [] p] [] p2) (.v (.int (md : Int))) := by
    intro t q q2 r a p p2 j
    refine EV.as (ev_call (T := Tmade) (ds := [.int z3]) (kd := .v (.int (madeI z3))) (by wtm_at "fd") (by wtm_at "bd") (by wtm_at "room") (by wtm_at "side") (by wtm_at "mem") (av_cons (c3 _ _ _ _ _ _) av_nil) ⟨z3, rfl, rfl⟩) (by rw [hmd])
  refine sd_seq (ss_for Z (xs := [sm, gr, 1, md, bg]) (φ := dI) (iv_list (EV.frz (EV.as (ev_lst (av_cons (by wtm_at "nm") (av_cons (by wtm_at "nm") (av_cons ev_int (av_cons (emade _ _ _ _ _ _ _ _) (av_cons (ev_ixL (EV.sl (EV.nll (ev_lst (av_cons ev_int (av_cons (ev_mul ev_int ev_int (.inl ⟨by decide, by decide⟩)) (av_cons ev_int (av_cons ev_int av_nil)))) (by simp)))) (e5 _ _ _ _ _) hbg) av_nil))))) (by simp)) rfl))) (fun i ρ => ρ = [S0, some (.ol R), some (.fz (.int (sm : Int))), none, some (.fz (.int (gr : Int))), none, none, none, none, none])
    ⟨_, Le.refl _, rfl⟩ (fun i n ρ' hx hI => ?_) fun ρ' hI => ?_)
  · subst hI
    have hn : 1 ≤ n ∧ n ≤ 100000 := by
      have := List.mem_of_getElem? hx
      simp at this
      omega
    obtain ⟨n1, n2⟩ := hn
    refine ⟨[S0, some (.ol R), some (.fz (.int (sm : Int))), some (.fz (.int (n : Int))), some (.fz (.int (gr : Int))), none, none, none, none, none], [3], tg_name B (by wtm_at "up") (by wtm_at "mem") (by simp), ?_⟩
    refine sd_seq (ss_set (d := oD (oddP n)) Z B (ev_call (T := Todd) (ds := [dI n]) (by wtm_at "fd") (by wtm_at "bd") (by wtm_at "room") (by wtm_at "side") (by wtm_at "mem") (av_cons (by wtm_at "nm") av_nil) ⟨n, n1, by omega, rfl, rfl⟩) (by wtm_at "up") (by wtm_at "ls") ?_)
    refine sd_seq (ss_set (d := oD (oddP n)) Z B (ev_call (T := Todd) (ds := [dI n]) (by wtm_at "fd") (by wtm_at "bd") (by wtm_at "room") (by wtm_at "side") (by wtm_at "mem") (av_cons (by wtm_at "nm") av_nil) ⟨n, n1, by omega, rfl, rfl⟩) (by wtm_at "up") (by wtm_at "ls") ?_)
    refine sd_seq (ss_if (tv_not (k := true) (tv_val (ev_call (T := Tsame) (ds := [oD (oddP n), oD (oddP n)]) (by wtm_at "fd") (by wtm_at "bd") (by wtm_at "room") (by wtm_at "side") (by wtm_at "mem") (av_cons (by wtm_at "nm") (av_cons (by wtm_at "nm") av_nil)) ⟨_, shw_odd n1 (by omega), rfl, rfl⟩))) (fun hk => by cases hk) fun hk => ?_)
    refine sd_nil ?_
    refine sd_drop "item" B (by wtm_at "up") (sd_drop "due" B (by wtm_at "up") (sd_drop "got" B (by wtm_at "up") (sd_nil ⟨_, Le.refl _, ?_⟩)))
    rfl
  subst hI
  clear hbg hmd emade
  -- whole
  refine sd_seq (ss_set Z B (by wtm_at "ev") (by wtm_at "up") (by wtm_at "ls") ?_)
  refine sd_seq (ss_for Z (xs := List.range r0) (φ := fun i : Nat => D.int (i : Int)) ((iv_r1 (j := (r0 : Int)) B (by wtm_at "mem") (by wtm_at "mg") (e0 _ _ _ _ _) (by omega) (by omega)).as (by rw [Int.toNat_natCast])) (fun i ρ => ρ = [S0, some (.ol R), some (.fz (.int (sm : Int))), none, some (.fz (.int (gr : Int))), none, none, some (.fz (.int (4 * 2 ^ i))), none, none])
    ⟨_, Le.refl _, rfl⟩ (fun i x ρ' hx hI => ?_) fun ρ' hI => ?_)
  · subst hI
    have hil : i < r0 := by have := (List.getElem?_eq_some_iff.mp hx).1; simpa using this
    refine ⟨_, [8], tg_name B (by wtm_at "up") (by wtm_at "mem") (by simp), ?_⟩
    have hw : (4 : Int) * 2 ^ i < 513 ∧ (2 : Int) * (4 * 2 ^ i) = 4 * 2 ^ (i + 1) := by
      have : i = 0 ∨ i = 1 ∨ i = 2 ∨ i = 3 ∨ i = 4 ∨ i = 5 ∨ i = 6 ∨ i = 7 := by omega
      rcases this with rfl | rfl | rfl | rfl | rfl | rfl | rfl | rfl <;> decide
    refine sd_seq (ss_ifset Z B (Cm.tv (cm_lt (by wtm_at "nm") ev_int)) (by wtm_at "sk") (fun _ => ev_mul ev_int (by wtm_at "nm") (.inl ⟨by decide, by decide⟩)) (by wtm_at "up") (by wtm_at "ls") ?_)
    rw [decide_eq_true hw.1, if_pos rfl, hw.2]
    refine sd_drop "k" B (by wtm_at "up") (sd_nil ⟨_, Le.refl _, ?_⟩)
    rfl
  subst hI
  rw [List.length_range]
  have hcm : ∀ (w f : Int), -(2 ^ 64) < f → f < 2 ^ 64 → CMul w f := fun w f h1 h2 => .inr ⟨h1, h2⟩
  refine sd_seq (ss_ifset Z B (WV.tv (wv_and (Cm.tv (cm_eqI (e1 _ _ _ _ _) ev_int)) fun _ => wv_and1 (Cm.tv (cm_le (ev_mul (by wtm_at "nm") ev_int (.inr ⟨by decide, by decide⟩)) ev_int)))) (by wtm_at "sk") (fun _ => ev_mul ev_int (by wtm_at "nm") (.inl ⟨by decide, by decide⟩)) (by wtm_at "up") (by wtm_at "ls") ?_)
  refine sd_seq (ss_ifset Z B (WV.tv (wv_and (Cm.tv (cm_eqI (e2 _ _ _ _ _) ev_int)) fun _ => wv_and1 (Cm.tv (cm_le (ev_mul (by wtm_at "nm") ev_int (.inr ⟨by decide, by decide⟩)) ev_int)))) (by wtm_at "sk") (fun _ => ev_mul ev_int (by wtm_at "nm") (.inl ⟨by decide, by decide⟩)) (by wtm_at "up") (by wtm_at "ls") ?_)
  refine sd_seq (ss_ifset Z B (WV.tv (wv_and (Cm.tv (cm_eqI (e3 _ _ _ _ _) ev_int)) fun _ => wv_and1 (Cm.tv (cm_le (ev_mul (by wtm_at "nm") ev_int (.inr ⟨by decide, by decide⟩)) ev_int)))) (by wtm_at "sk") (fun _ => ev_mul ev_int (by wtm_at "nm") (.inl ⟨by decide, by decide⟩)) (by wtm_at "up") (by wtm_at "ls") ?_)
  refine sd_seq (ss_ifset Z B (WV.tv (wv_and (Cm.tv (cm_eqI (e4 _ _ _ _ _) ev_int)) fun _ => wv_and1 (Cm.tv (cm_gt (e0 _ _ _ _ _) ev_int)))) (by wtm_at "sk") (fun _ => ev_mul ev_int ev_int (.inl ⟨by decide, by decide⟩)) (by wtm_at "up") (by wtm_at "ls") ?_)
  obtain ⟨w, hw, w4, w2, wo⟩ := wh_ok b0 b1 b2 b3 b4
  obtain ⟨lh, lh1, lh2⟩ := ladder_of w4 w2 wo
  show SD X W [S0, some (.ol R), some (.fz (.int (sm : Int))), none, some (.fz (.int (gr : Int))), none, none, some (.fz (.int (whI r0 r1 r2 r3 r4))), none, none] _ _
  rw [hw]
  clear hw
  have hlad : ∀ q r p, EV X [S0, some (.ol R), some (.fz (.int (sm : Int))), none, some (.fz (.int (gr : Int))), none, none, some (.fz (.int (w : Int))), none, none] (.Call (.Name "unit_ladder" q) [.Name "whole" r] [] p) (.v (.tup (rungs w (lh + 1)))) := by
    intro q r p
    exact ev_call (T := Tladder) (ds := [dI w]) (by wtm_at "fd") (by wtm_at "bd") (by wtm_at "room") (by wtm_at "side") (by wtm_at "mem") (av_cons (by wtm_at "nm") av_nil) ⟨w, lh, w4, w2, rfl, lh1, lh2, rfl⟩
  refine sd_seq (ss_set Z B (hlad _ _ _) (by wtm_at "up") (by wtm_at "ls") ?_)
  have hdue : ∀ q r p, EV X [S0, some (.ol R), some (.fz (.int (sm : Int))), none, some (.fz (.int (gr : Int))), none, none, some (.fz (.int (w : Int))), none, some (.fz (.tup (rungs w (lh + 1))))] (.Call (.Name "_law_ladder_due" q) [.Name "whole" r] [] p) (.v (.tup (rungs w (lh + 1)))) := by
    intro q r p
    exact ev_call (T := Tladder) (ds := [dI w]) (by wtm_at "fd") (by wtm_at "bd") (by wtm_at "room") (by wtm_at "side") (by wtm_at "mem") (av_cons (by wtm_at "nm") av_nil) ⟨w, lh, w4, w2, rfl, lh1, lh2, rfl⟩
  refine sd_seq (ss_if (tv_not (k := true) (tv_val (ev_call (T := Tsame) (ds := [.tup (rungs w (lh + 1)), .tup (rungs w (lh + 1))]) (by wtm_at "fd") (by wtm_at "bd") (by wtm_at "room") (by wtm_at "side") (by wtm_at "mem") (av_cons (by wtm_at "nm") (av_cons (hdue _ _ _) av_nil)) ⟨_, shw_rungs w4 w2 (by omega), rfl, rfl⟩))) (fun hk => by cases hk) fun hk => ?_)
  refine sd_nil ?_
  -- unity
  refine sd_seq (ss_for Z (xs := [w, sm, 1, 2]) (φ := dI) (iv_list (EV.frz (EV.as (ev_lst (av_cons (by wtm_at "nm") (av_cons (by wtm_at "nm") (av_cons ev_int (av_cons ev_int av_nil)))) (by simp)) rfl))) (fun i ρ => ρ = [S0, some (.ol R), some (.fz (.int (sm : Int))), none, none, none, none, some (.fz (.int (w : Int))), none, none])
    ⟨[S0, some (.ol R), some (.fz (.int (sm : Int))), none, none, none, none, some (.fz (.int (w : Int))), none, none], ⟨rfl, ?_⟩, rfl⟩ (fun i n ρ' hx hI => ?_) fun ρ' hI => ?_)
  · intro i s h
    match i, h with
    | 0, h => exact h
    | 1, h => exact h
    | 2, h => exact h
    | 7, h => exact h
    | i + 8, h => (match i, h with
      | 0, h => exact h
      | 1, h => simp at h
      | j + 2, h => exact h)
  · subst hI
    have hn : 1 ≤ n ∧ n ≤ 2000 := by
      have := List.mem_of_getElem? hx
      simp at this
      omega
    obtain ⟨n1, n2⟩ := hn
    obtain ⟨h, hh, hf⟩ := height_of n1 n2
    refine ⟨[S0, some (.ol R), some (.fz (.int (sm : Int))), some (.fz (.int (n : Int))), none, none, none, some (.fz (.int (w : Int))), none, none], [3], tg_name B (by wtm_at "up") (by wtm_at "mem") (by simp), ?_⟩
    refine sd_seq (ss_set (d := .tup [.str "NeverDrawn", oD (oddP n)]) Z B (ev_tup (av_cons ev_str (av_cons (ev_call (T := Todd) (ds := [dI n]) (by wtm_at "fd") (by wtm_at "bd") (by wtm_at "room") (by wtm_at "side") (by wtm_at "mem") (av_cons (by wtm_at "nm") av_nil) ⟨n, n1, by omega, rfl, rfl⟩) av_nil)) (by simp)) (by wtm_at "up") (by wtm_at "ls") ?_)
    have rest : ∀ (ss : List Stmt) (P : Out → Prop), SD X W [S0, some (.ol R), some (.fz (.int (sm : Int))), some (.fz (.int (n : Int))), none, some (.fz (uD h (oddP n))), none, some (.fz (.int (w : Int))), none, none] ss P → SD X W [S0, some (.ol R), some (.fz (.int (sm : Int))), some (.fz (.int (n : Int))), none, some (.fz (uD h (oddP n))), none, some (.fz (.int (w : Int))), none, none] ss P := fun _ _ h => h
    clear rest
    have hu : ∀ q r p, EV X [S0, some (.ol R), some (.fz (.int (sm : Int))), some (.fz (.int (n : Int))), none, some (.fz (uD h (oddP n))), none, some (.fz (.int (w : Int))), none, none] (.Call (.Name "_law_unity" q) [.Name "item" r] [] p) (.v (uD h (oddP n))) := by
      intro q r p
      exact ev_call (T := Tunity) (ds := [dI n]) (by wtm_at "fd") (by wtm_at "bd") (by wtm_at "room") (by wtm_at "side") (by wtm_at "mem") (av_cons (by wtm_at "nm") av_nil) ⟨n, h, n1, n2, rfl, hf, rfl⟩
    have hsw := shw_uD n1 n2 hh
    cases ho : oddP n with
    | none =>
      rw [ho] at hu hsw
      have hf' := hf ho
      show SD X W [S0, some (.ol R), some (.fz (.int (sm : Int))), some (.fz (.int (n : Int))), none, some (.fz (.tup [.str "NeverDrawn", .non])), none, some (.fz (.int (w : Int))), none, none] _ _
      refine sd_seq (ss_if (k := true) (Cm.tv (cm_isN (d := .non) (ev_ixT (EV.st (by wtm_at "nm")) ev_int rfl) ev_non)) (fun _ => ?_) fun hk => by cases hk)
      refine sd_seq (ss_set (d := .tup [.str "ok", dI h]) Z B (ev_tup (av_cons ev_str (av_cons (ev_call (T := Theight) (ds := [dI n]) (by wtm_at "fd") (by wtm_at "bd") (by wtm_at "room") (by wtm_at "side") (by wtm_at "mem") (av_cons (by wtm_at "nm") av_nil) ⟨n, h, n1, n2, rfl, hh, hf', rfl⟩) av_nil)) (by simp)) (by wtm_at "up") (by wtm_at "ls") ?_)
      refine sd_nil ?_
      refine sd_seq (ss_if (tv_not (k := true) (tv_val (ev_call (T := Tsame) (ds := [uD h none, uD h none]) (by wtm_at "fd") (by wtm_at "bd") (by wtm_at "room") (by wtm_at "side") (by wtm_at "mem") (av_cons (hu _ _ _) (av_cons (EV.as (kd := .v (.tup [.str "ok", dI h])) (by wtm_at "nm") rfl) av_nil)) ⟨_, hsw, rfl, rfl⟩))) (fun hk => by cases hk) fun hk => ?_)
      refine sd_nil ?_
      refine sd_drop "item" B (by wtm_at "up") (sd_drop "due" B (by wtm_at "up") (sd_nil ⟨_, Le.refl _, ?_⟩))
      rfl
    | some q =>
      rw [ho] at hu hsw
      show SD X W [S0, some (.ol R), some (.fz (.int (sm : Int))), some (.fz (.int (n : Int))), none, some (.fz (.tup [.str "NeverDrawn", .int (q : Int)])), none, some (.fz (.int (w : Int))), none, none] _ _
      refine sd_seq (ss_if (k := false) (Cm.tv (cm_isN (d := .int (q : Int)) (ev_ixT (EV.st (by wtm_at "nm")) ev_int rfl) ev_non)) (fun hk => by cases hk) fun _ => ?_)
      refine sd_nil ?_
      refine sd_seq (ss_if (tv_not (k := true) (tv_val (ev_call (T := Tsame) (ds := [uD h (some q), uD h (some q)]) (by wtm_at "fd") (by wtm_at "bd") (by wtm_at "room") (by wtm_at "side") (by wtm_at "mem") (av_cons (hu _ _ _) (av_cons (EV.as (kd := .v (.tup [.str "NeverDrawn", .int (q : Int)])) (by wtm_at "nm") rfl) av_nil)) ⟨_, hsw, rfl, rfl⟩))) (fun hk => by cases hk) fun hk => ?_)
      refine sd_nil ?_
      refine sd_drop "item" B (by wtm_at "up") (sd_drop "due" B (by wtm_at "up") (sd_nil ⟨_, Le.refl _, ?_⟩))
      rfl
  · subst hI
    refine sd_seq (ss_ret ev_bl ?_)
    rfl
end K87
namespace K87
open PySem PySem.Spec PyProof.Rows L2 DL
theorem exm_self {K : PySem.W.Frag} {S : Addr} (h1 : PySem.W.subIn K (.ref S) (.type "BaseException") = some true) (h2 : PySem.W.isClsIn K S = true) (h3 : PySem.W.typeIn K (.ref S) = some (.type "type")) (h4 : PySem.W.subIn K (.ref S) (.ref S) = some true) :
    PySem.W.exmOne K (.ref S) (.ref S) = some true := by
  have e1 : (PySem.W.subIn K (.ref S) (.type "BaseException") == some true) = true := by rw [h1] <;> rfl
  have e2 : ((PySem.W.clsIn K S).isSome && PySem.W.typeIn K (.ref S) == some (.type "type")) = true := by
    have h2' : (PySem.W.clsIn K S).isSome = true := h2
    rw [h2', h3] <;> rfl
  show (if (PySem.W.subIn K (.ref S) (.type "BaseException") == some true) = true then (if ((PySem.W.clsIn K S).isSome && PySem.W.typeIn K (.ref S) == some (.type "type")) = true then PySem.W.subIn K (.ref S) (.ref S) else none) else none) = some true
  rw [if_pos e1, if_pos e2]
  exact h4
def sInit : Stmt := match top 3 with
  | .ClassDef _ _ _ body _ _ _ _ _ _ _ => body.getD 0 (.Pass ⟨0, 0, 0, 0⟩)
  | s => s
theorem fdx {P : Program} {w : World} {K : PySem.W.Frag} {mg : Str → Option Value} {base : Heap} {X : Cx} {x : Str} {k : Nat} {T : List D → Res → Prop} (eP : X.prog = P) (ew : X.w = w) (eK : X.K = K) (em : X.mg = mg) (eb : X.base = base) (G : Fd P w K mg base x k T) : FdX X x k T := by
  subst eP ew eK em eb; exact G
theorem xcx {P : Program} {w : World} {K : PySem.W.Frag} {mg : Str → Option Value} {base : Heap} {X : Cx} {x : Str} {C : Addr} {n : Nat} {fv : List V → List (Str × V)} (eP : X.prog = P) (ew : X.w = w) (eK : X.K = K) (em : X.mg = mg) (eb : X.base = base) (G : Xc P w K mg base x C n fv) : XcX X x C n fv := by
  subst eP ew eK em eb; exact G
section
variable {P : Program} {w : World} {K : PySem.W.Frag} {mg : Str → Option Value} {base : Heap} {C : Addr}
theorem fd_units {f : Addr} {fd : FuncData} (F : Fun K "units" "units" s_units f fd) (hm : mg "units" = some (.ref f)) (m_tuple : mg "tuple" = none) (m_range : mg "range" = none) (m_gcd : mg "gcd" = some (.builtin "math.gcd")) :
    Fd P w K mg base "units" 1 Tunits := by
  refine fd_of (N := N_units) (ps := ["whole"]) (nm := nm_units) F ⟨rfl, rfl, rfl, by decide +kernel, rfl, by decide +kernel, by decide +kernel⟩ (F.binds (ps := ["whole"]) fun _ _ _ _ _ _ us hl => match us, hl with | [_], _ => rfl) hm (by decide +kernel) (fun ds r ht => ?_) (fun X W eP ew eK emg eb esc Z B hr ds r ht => ?_)
  · obtain ⟨n, h1, h2, rfl, rfl⟩ := ht; rfl
  · obtain ⟨n, h1, h2, rfl, rfl⟩ := ht
    exact b_units Z B (by rw [emg]; exact m_tuple) (by rw [emg]; exact m_range) (by rw [emg]; exact m_gcd) n h2
theorem fd_prime_powers {f : Addr} {fd : FuncData} (F : Fun K "prime_powers" "prime_powers" s_prime_powers f fd) (hm : mg "prime_powers" = some (.ref f)) (m_tuple : mg "tuple" = none) :
    Fd P w K mg base "prime_powers" 1 Tpp := by
  refine fd_of (N := N_prime_powers) (ps := ["whole"]) (nm := nm_prime_powers) F ⟨rfl, rfl, rfl, by decide +kernel, rfl, by decide +kernel, by decide +kernel⟩ (F.binds (ps := ["whole"]) fun _ _ _ _ _ _ us hl => match us, hl with | [_], _ => rfl) hm (by decide +kernel) (fun ds r ht => ?_) (fun X W eP ew eK emg eb esc Z B hr ds r ht => ?_)
  · obtain ⟨n, h1, h2, rfl, rfl⟩ := ht; rfl
  · obtain ⟨n, h1, h2, rfl, rfl⟩ := ht
    exact b_pp Z B (by rw [emg]; exact m_tuple) n h1 h2
theorem fd_odd_part_prime {f : Addr} {fd : FuncData} (F : Fun K "odd_part_prime" "odd_part_prime" s_odd_part_prime f fd) (hm : mg "odd_part_prime" = some (.ref f)) (m_min : mg "min" = none) (G_prime_powers : Fd P w K mg base "prime_powers" 1 Tpp) :
    Fd P w K mg base "odd_part_prime" 3 Todd := by
  refine fd_of (N := N_odd_part_prime) (ps := ["whole"]) (nm := nm_odd_part_prime) F ⟨rfl, rfl, rfl, by decide +kernel, rfl, by decide +kernel, by decide +kernel⟩ (F.binds (ps := ["whole"]) fun _ _ _ _ _ _ us hl => match us, hl with | [_], _ => rfl) hm (by decide +kernel) (fun ds r ht => ?_) (fun X W eP ew eK emg eb esc Z B hr ds r ht => ?_)
  · obtain ⟨n, h1, h2, rfl, rfl⟩ := ht; rfl
  · obtain ⟨n, h1, h2, rfl, rfl⟩ := ht
    exact b_odd Z B hr (by rw [emg]; exact m_min) (fdx eP ew eK emg eb G_prime_powers) n h1 h2
theorem fd_must_be_written {f : Addr} {fd : FuncData} (F : Fun K "must_be_written" "must_be_written" s_must_be_written f fd) (hm : mg "must_be_written" = some (.ref f)) (G_odd_part_prime : Fd P w K mg base "odd_part_prime" 3 Todd) (XN : Xc P w K mg base "NeverDrawn" C 1 fvN) :
    Fd P w K mg base "must_be_written" 4 (Tmbw C) := by
  refine fd_of (N := N_must_be_written) (ps := ["whole"]) (nm := nm_must_be_written) F ⟨rfl, rfl, rfl, by decide +kernel, rfl, by decide +kernel, by decide +kernel⟩ (F.binds (ps := ["whole"]) fun _ _ _ _ _ _ us hl => match us, hl with | [_], _ => rfl) hm (by decide +kernel) (fun ds r ht => ?_) (fun X W eP ew eK emg eb esc Z B hr ds r ht => ?_)
  · obtain ⟨n, h1, h2, rfl, rfl⟩ := ht; rfl
  · obtain ⟨n, h1, h2, rfl, rfl⟩ := ht
    exact b_mbw Z B hr (fdx eP ew eK emg eb G_odd_part_prime) (xcx eP ew eK emg eb XN) n h1 h2
theorem fd_generated_units {f : Addr} {fd : FuncData} (F : Fun K "generated_units" "generated_units" s_generated_units f fd) (hm : mg "generated_units" = some (.ref f)) (m_len : mg "len" = none) (m_tuple : mg "tuple" = none) (m_sorted : mg "sorted" = none) :
    Fd P w K mg base "generated_units" 2 Tgen := by
  refine fd_of (N := N_generated_units) (ps := ["whole", "generators"]) (nm := nm_generated_units) F ⟨rfl, rfl, rfl, by decide +kernel, rfl, by decide +kernel, by decide +kernel⟩ (F.binds (ps := ["whole", "generators"]) fun _ _ _ _ _ _ us hl => match us, hl with | [_, _], _ => rfl) hm (by decide +kernel) (fun ds r ht => ?_) (fun X W eP ew eK emg eb esc Z B hr ds r ht => ?_)
  · obtain ⟨n, gs, out, h1, h2, h3, rfl, h4, rfl⟩ := ht; rfl
  · obtain ⟨n, gs, out, h1, h2, h3, rfl, h4, rfl⟩ := ht
    exact b_gen Z B hr (by rw [emg]; exact m_len) (by rw [emg]; exact m_tuple) (by rw [emg]; exact m_sorted) n gs out h1 h2 h3 h4
theorem fd_unit_ladder {f : Addr} {fd : FuncData} (F : Fun K "unit_ladder" "unit_ladder" s_unit_ladder f fd) (hm : mg "unit_ladder" = some (.ref f)) (m_all : mg "all" = none) (m_tuple : mg "tuple" = none) (m_sorted : mg "sorted" = none) (G_units : Fd P w K mg base "units" 1 Tunits) (G_generated_units : Fd P w K mg base "generated_units" 2 Tgen) :
    Fd P w K mg base "unit_ladder" 3 Tladder := by
  refine fd_of (N := N_unit_ladder) (ps := ["whole"]) (nm := nm_unit_ladder) F ⟨rfl, rfl, rfl, by decide +kernel, rfl, by decide +kernel, by decide +kernel⟩ (F.binds (ps := ["whole"]) fun _ _ _ _ _ _ us hl => match us, hl with | [_], _ => rfl) hm (by decide +kernel) (fun ds r ht => ?_) (fun X W eP ew eK emg eb esc Z B hr ds r ht => ?_)
  · obtain ⟨n, h, h1, h2, rfl, h3, h4, rfl⟩ := ht; rfl
  · obtain ⟨n, h, h1, h2, rfl, h3, h4, rfl⟩ := ht
    exact b_ladder Z B hr (by rw [emg]; exact m_all) (by rw [emg]; exact m_tuple) (by rw [emg]; exact m_sorted) (fdx eP ew eK emg eb G_units) (fdx eP ew eK emg eb G_generated_units) n h h1 h2 h3 h4
theorem fd_unity_nest {f : Addr} {fd : FuncData} (F : Fun K "unity_nest" "unity_nest" s_unity_nest f fd) (hm : mg "unity_nest" = some (.ref f)) (m_len : mg "len" = none) (m_sorted : mg "sorted" = none) (G_units : Fd P w K mg base "units" 1 Tunits) (G_generated_units : Fd P w K mg base "generated_units" 2 Tgen) (G_must_be_written : Fd P w K mg base "must_be_written" 4 (Tmbw C)) :
    Fd P w K mg base "unity_nest" 5 (Tun C) := by
  refine fd_of (N := N_unity_nest) (ps := ["whole"]) (nm := nm_unity_nest) F ⟨rfl, rfl, rfl, by decide +kernel, rfl, by decide +kernel, by decide +kernel⟩ (F.binds (ps := ["whole"]) fun _ _ _ _ _ _ us hl => match us, hl with | [_], _ => rfl) hm (by decide +kernel) (fun ds r ht => ?_) (fun X W eP ew eK emg eb esc Z B hr ds r ht => ?_)
  · obtain ⟨n, h, h1, h2, rfl, h3, rfl⟩ := ht; rfl
  · obtain ⟨n, h, h1, h2, rfl, h3, rfl⟩ := ht
    exact b_nest Z B hr (by rw [emg]; exact m_len) (by rw [emg]; exact m_sorted) (fdx eP ew eK emg eb G_units) (fdx eP ew eK emg eb G_generated_units) (fdx eP ew eK emg eb G_must_be_written) n h h1 h2 h3
theorem fd__law_same {f : Addr} {fd : FuncData} (F : Fun K "_law_same" "_law_same" s__law_same f fd) (hm : mg "_law_same" = some (.ref f)) (m_repr : mg "repr" = none) :
    Fd P w K mg base "_law_same" 2 Tsame := by
  refine fd_of (N := N__law_same) (ps := ["told", "due"]) (nm := nm__law_same) F ⟨rfl, rfl, rfl, by decide +kernel, rfl, by decide +kernel, by decide +kernel⟩ (F.binds (ps := ["told", "due"]) fun _ _ _ _ _ _ us hl => match us, hl with | [_, _], _ => rfl) hm (by decide +kernel) (fun ds r ht => ?_) (fun X W eP ew eK emg eb esc Z B hr ds r ht => ?_)
  · obtain ⟨d, hs, rfl, rfl⟩ := ht; rfl
  · obtain ⟨d, hs, rfl, rfl⟩ := ht
    exact b_same Z B hr (by rw [emg]; exact m_repr) d hs
theorem fd__law_cell {f : Addr} {fd : FuncData} (F : Fun K "_law_cell" "_law_cell" s__law_cell f fd) (hm : mg "_law_cell" = some (.ref f)) (m_len : mg "len" = none) (m_int : mg "int" = none) :
    Fd P w K mg base "_law_cell" 1 Tcell := by
  refine fd_of (N := N__law_cell) (ps := ["script", "k"]) (nm := nm__law_cell) F ⟨rfl, rfl, rfl, by decide +kernel, rfl, by decide +kernel, by decide +kernel⟩ (F.binds (ps := ["script", "k"]) fun _ _ _ _ _ _ us hl => match us, hl with | [_, _], _ => rfl) hm (by decide +kernel) (fun ds r ht => ?_) (fun X W eP ew eK emg eb esc Z B hr ds r ht => ?_)
  · obtain ⟨ns, k, h1, h2, rfl, rfl⟩ := ht; rfl
  · obtain ⟨ns, k, h1, h2, rfl, rfl⟩ := ht
    exact b_cell Z B (by rw [emg]; exact m_len) (by rw [emg]; exact m_int) ns k h2
theorem fd__law_digits {f : Addr} {fd : FuncData} (F : Fun K "_law_digits" "_law_digits" s__law_digits f fd) (hm : mg "_law_digits" = some (.ref f)) (m_int : mg "int" = none) (m_range : mg "range" = none) (m_len : mg "len" = none) :
    Fd P w K mg base "_law_digits" 1 Tdig := by
  refine fd_of (N := N__law_digits) (ps := ["cell", "sizes"]) (nm := nm__law_digits) F ⟨rfl, rfl, rfl, by decide +kernel, rfl, by decide +kernel, by decide +kernel⟩ (F.binds (ps := ["cell", "sizes"]) fun _ _ _ _ _ _ us hl => match us, hl with | [_, _], _ => rfl) hm (by decide +kernel) (fun ds r ht => ?_) (fun X W eP ew eK emg eb esc Z B hr ds r ht => ?_)
  · obtain ⟨c, ss, h1, h2, rfl, rfl⟩ := ht; rfl
  · obtain ⟨c, ss, h1, h2, rfl, rfl⟩ := ht
    exact b_dig Z B (by rw [emg]; exact m_int) (by rw [emg]; exact m_range) (by rw [emg]; exact m_len) c ss h1 h2
theorem fd__law_gcd {f : Addr} {fd : FuncData} (F : Fun K "_law_gcd" "_law_gcd" s__law_gcd f fd) (hm : mg "_law_gcd" = some (.ref f)) (m_abs : mg "abs" = none) (m_int : mg "int" = none) :
    Fd P w K mg base "_law_gcd" 1 Tgcd := by
  refine fd_of (N := N__law_gcd) (ps := ["one", "two"]) (nm := nm__law_gcd) F ⟨rfl, rfl, rfl, by decide +kernel, rfl, by decide +kernel, by decide +kernel⟩ (F.binds (ps := ["one", "two"]) fun _ _ _ _ _ _ us hl => match us, hl with | [_, _], _ => rfl) hm (by decide +kernel) (fun ds r ht => ?_) (fun X W eP ew eK emg eb esc Z B hr ds r ht => ?_)
  · obtain ⟨a, b, rfl, rfl⟩ := ht; rfl
  · obtain ⟨a, b, rfl, rfl⟩ := ht
    exact b_gcd Z B (by rw [emg]; exact m_abs) (by rw [emg]; exact m_int) a b
theorem fd__law_units {f : Addr} {fd : FuncData} (F : Fun K "_law_units" "_law_units" s__law_units f fd) (hm : mg "_law_units" = some (.ref f)) (m_range : mg "range" = none) (G__law_gcd : Fd P w K mg base "_law_gcd" 1 Tgcd) :
    Fd P w K mg base "_law_units" 2 TLunits := by
  refine fd_of (N := N__law_units) (ps := ["whole"]) (nm := nm__law_units) F ⟨rfl, rfl, rfl, by decide +kernel, rfl, by decide +kernel, by decide +kernel⟩ (F.binds (ps := ["whole"]) fun _ _ _ _ _ _ us hl => match us, hl with | [_], _ => rfl) hm (by decide +kernel) (fun ds r ht => ?_) (fun X W eP ew eK emg eb esc Z B hr ds r ht => ?_)
  · obtain ⟨n, h1, h2, rfl, rfl⟩ := ht; rfl
  · obtain ⟨n, h1, h2, rfl, rfl⟩ := ht
    exact b_Lunits Z B hr (by rw [emg]; exact m_range) (fdx eP ew eK emg eb G__law_gcd) n h2
theorem fd__law_factors {f : Addr} {fd : FuncData} (F : Fun K "_law_factors" "_law_factors" s__law_factors f fd) (hm : mg "_law_factors" = some (.ref f)) (m_int : mg "int" = none) :
    Fd P w K mg base "_law_factors" 1 TLfac := by
  refine fd_of (N := N__law_factors) (ps := ["whole"]) (nm := nm__law_factors) F ⟨rfl, rfl, rfl, by decide +kernel, rfl, by decide +kernel, by decide +kernel⟩ (F.binds (ps := ["whole"]) fun _ _ _ _ _ _ us hl => match us, hl with | [_], _ => rfl) hm (by decide +kernel) (fun ds r ht => ?_) (fun X W eP ew eK emg eb esc Z B hr ds r ht => ?_)
  · obtain ⟨n, h1, h2, rfl, rfl⟩ := ht; rfl
  · obtain ⟨n, h1, h2, rfl, rfl⟩ := ht
    exact b_Lfac Z B (by rw [emg]; exact m_int) n h1 h2
theorem fd__law_unit_count {f : Addr} {fd : FuncData} (F : Fun K "_law_unit_count" "_law_unit_count" s__law_unit_count f fd) (hm : mg "_law_unit_count" = some (.ref f)) (m_range : mg "range" = none) (G__law_factors : Fd P w K mg base "_law_factors" 1 TLfac) :
    Fd P w K mg base "_law_unit_count" 2 Tcount := by
  refine fd_of (N := N__law_unit_count) (ps := ["whole"]) (nm := nm__law_unit_count) F ⟨rfl, rfl, rfl, by decide +kernel, rfl, by decide +kernel, by decide +kernel⟩ (F.binds (ps := ["whole"]) fun _ _ _ _ _ _ us hl => match us, hl with | [_], _ => rfl) hm (by decide +kernel) (fun ds r ht => ?_) (fun X W eP ew eK emg eb esc Z B hr ds r ht => ?_)
  · obtain ⟨n, h1, h2, rfl, rfl⟩ := ht; rfl
  · obtain ⟨n, h1, h2, rfl, rfl⟩ := ht
    exact b_count Z B hr (by rw [emg]; exact m_range) (fdx eP ew eK emg eb G__law_factors) n h1 h2
theorem fd__law_odd_prime {f : Addr} {fd : FuncData} (F : Fun K "_law_odd_prime" "_law_odd_prime" s__law_odd_prime f fd) (hm : mg "_law_odd_prime" = some (.ref f)) (m_min : mg "min" = none) (G__law_factors : Fd P w K mg base "_law_factors" 1 TLfac) (G__law_unit_count : Fd P w K mg base "_law_unit_count" 2 Tcount) :
    Fd P w K mg base "_law_odd_prime" 3 Todd := by
  refine fd_of (N := N__law_odd_prime) (ps := ["whole"]) (nm := nm__law_odd_prime) F ⟨rfl, rfl, rfl, by decide +kernel, rfl, by decide +kernel, by decide +kernel⟩ (F.binds (ps := ["whole"]) fun _ _ _ _ _ _ us hl => match us, hl with | [_], _ => rfl) hm (by decide +kernel) (fun ds r ht => ?_) (fun X W eP ew eK emg eb esc Z B hr ds r ht => ?_)
  · obtain ⟨n, h1, h2, rfl, rfl⟩ := ht; rfl
  · obtain ⟨n, h1, h2, rfl, rfl⟩ := ht
    exact b_Lodd Z B hr (by rw [esc]; rfl) (by rw [emg]; exact m_min) (fdx eP ew eK emg eb G__law_factors) (fdx eP ew eK emg eb G__law_unit_count) n h1 h2
theorem fd__law_ladder_due {f : Addr} {fd : FuncData} (F : Fun K "_law_ladder_due" "_law_ladder_due" s__law_ladder_due f fd) (hm : mg "_law_ladder_due" = some (.ref f)) (m_int : mg "int" = none) (m_range : mg "range" = none) (m_tuple : mg "tuple" = none) (G__law_units : Fd P w K mg base "_law_units" 2 TLunits) :
    Fd P w K mg base "_law_ladder_due" 3 Tladder := by
  refine fd_of (N := N__law_ladder_due) (ps := ["whole"]) (nm := nm__law_ladder_due) F ⟨rfl, rfl, rfl, by decide +kernel, rfl, by decide +kernel, by decide +kernel⟩ (F.binds (ps := ["whole"]) fun _ _ _ _ _ _ us hl => match us, hl with | [_], _ => rfl) hm (by decide +kernel) (fun ds r ht => ?_) (fun X W eP ew eK emg eb esc Z B hr ds r ht => ?_)
  · obtain ⟨n, h, h1, h2, rfl, h3, h4, rfl⟩ := ht; rfl
  · obtain ⟨n, h, h1, h2, rfl, h3, h4, rfl⟩ := ht
    exact b_due Z B hr (by rw [esc]; rfl) (by rw [esc]; decide +kernel) (by rw [emg]; exact m_int) (by rw [emg]; exact m_range) (by rw [emg]; exact m_tuple) (fdx eP ew eK emg eb G__law_units) n h h1 h2 h3 h4
theorem fd__law_height {f : Addr} {fd : FuncData} (F : Fun K "_law_height" "_law_height" s__law_height f fd) (hm : mg "_law_height" = some (.ref f)) (m_int : mg "int" = none) (m_range : mg "range" = none) (G__law_units : Fd P w K mg base "_law_units" 2 TLunits) :
    Fd P w K mg base "_law_height" 3 Theight := by
  refine fd_of (N := N__law_height) (ps := ["whole"]) (nm := nm__law_height) F ⟨rfl, rfl, rfl, by decide +kernel, rfl, by decide +kernel, by decide +kernel⟩ (F.binds (ps := ["whole"]) fun _ _ _ _ _ _ us hl => match us, hl with | [_], _ => rfl) hm (by decide +kernel) (fun ds r ht => ?_) (fun X W eP ew eK emg eb esc Z B hr ds r ht => ?_)
  · obtain ⟨n, h, h1, h2, rfl, h3, h4, rfl⟩ := ht; rfl
  · obtain ⟨n, h, h1, h2, rfl, h3, h4, rfl⟩ := ht
    exact b_height Z B hr (by rw [esc]; rfl) (by rw [emg]; exact m_int) (by rw [emg]; exact m_range) (fdx eP ew eK emg eb G__law_units) n h h1 h2 h3 h4
theorem fd__law_made {f : Addr} {fd : FuncData} (F : Fun K "_law_made" "_law_made" s__law_made f fd) (hm : mg "_law_made" = some (.ref f)) (m_range : mg "range" = none) (G__law_digits : Fd P w K mg base "_law_digits" 1 Tdig) :
    Fd P w K mg base "_law_made" 2 Tmade := by
  refine fd_of (N := N__law_made) (ps := ["cell"]) (nm := nm__law_made) F ⟨rfl, rfl, rfl, by decide +kernel, rfl, by decide +kernel, by decide +kernel⟩ (F.binds (ps := ["cell"]) fun _ _ _ _ _ _ us hl => match us, hl with | [_], _ => rfl) hm (by decide +kernel) (fun ds r ht => ?_) (fun X W eP ew eK emg eb esc Z B hr ds r ht => ?_)
  · obtain ⟨c, rfl, rfl⟩ := ht; rfl
  · obtain ⟨c, rfl, rfl⟩ := ht
    exact b_made Z B hr (by rw [emg]; exact m_range) (fdx eP ew eK emg eb G__law_digits) c
theorem fd__law_unity {f : Addr} {fd : FuncData} (F : Fun K "_law_unity" "_law_unity" s__law_unity f fd) (hm : mg "_law_unity" = some (.ref f)) (G_unity_nest : Fd P w K mg base "unity_nest" 5 (Tun C)) (mC : mg "NeverDrawn" = some (.ref C)) (te : PySem.W.exmOne K (.ref C) (.ref C) = some true) (xf : XfC K C) (nw : PySem.W.findIn K (.ref C) "word" = some none) (np : PySem.W.findIn K (.ref C) "prime" = some none) :
    Fd P w K mg base "_law_unity" 6 Tunity := by
  refine fd_of (N := N__law_unity) (ps := ["whole"]) (nm := nm__law_unity) F ⟨rfl, rfl, rfl, by decide +kernel, rfl, by decide +kernel, by decide +kernel⟩ (F.binds (ps := ["whole"]) fun _ _ _ _ _ _ us hl => match us, hl with | [_], _ => rfl) hm (by decide +kernel) (fun ds r ht => ?_) (fun X W eP ew eK emg eb esc Z B hr ds r ht => ?_)
  · obtain ⟨n, h, h1, h2, rfl, h3, rfl⟩ := ht; rfl
  · obtain ⟨n, h, h1, h2, rfl, h3, rfl⟩ := ht
    exact b_unity Z B hr (fdx eP ew eK emg eb G_unity_nest) (by rw [emg]; exact mC) (by rw [eK]; exact te) (by rw [eK]; exact xf) (by rw [eK]; exact nw) (by rw [eK]; exact np) n h h1 h2 h3
theorem fd_law {f : Addr} {fd : FuncData} (F : Fun K "law" "law" s_law f fd) (hm : mg "law" = some (.ref f)) (m_int : mg "int" = none) (m_range : mg "range" = none) (m_tuple : mg "tuple" = none) (G__law_cell : Fd P w K mg base "_law_cell" 1 Tcell) (G__law_digits : Fd P w K mg base "_law_digits" 1 Tdig) (G__law_same : Fd P w K mg base "_law_same" 2 Tsame) (G_units : Fd P w K mg base "units" 1 Tunits) (G__law_units : Fd P w K mg base "_law_units" 2 TLunits) (G__law_made : Fd P w K mg base "_law_made" 2 Tmade) (G__law_odd_prime : Fd P w K mg base "_law_odd_prime" 3 Todd) (G_odd_part_prime : Fd P w K mg base "odd_part_prime" 3 Todd) (G_unit_ladder : Fd P w K mg base "unit_ladder" 3 Tladder) (G__law_ladder_due : Fd P w K mg base "_law_ladder_due" 3 Tladder) (G__law_height : Fd P w K mg base "_law_height" 3 Theight) (G__law_unity : Fd P w K mg base "_law_unity" 6 Tunity) :
    Fd P w K mg base "law" 20 (TLaw 63) := by
  refine fd_of (N := N_law) (ps := ["script"]) (nm := nm_law) F ⟨rfl, rfl, rfl, by decide +kernel, rfl, by decide +kernel, by decide +kernel⟩ (F.binds (ps := ["script"]) fun _ _ _ _ _ _ us hl => match us, hl with | [_], _ => rfl) hm (by decide +kernel) (fun ds r ht => ?_) (fun X W eP ew eK emg eb esc Z B hr ds r ht => ?_)
  · obtain ⟨ns, rfl, h1, rfl⟩ := ht; rfl
  · obtain ⟨ns, rfl, h1, rfl⟩ := ht
    exact b_law Z B hr (by rw [emg]; exact m_int) (by rw [emg]; exact m_range) (by rw [emg]; exact m_tuple) (fdx eP ew eK emg eb G__law_cell) (fdx eP ew eK emg eb G__law_digits) (fdx eP ew eK emg eb G__law_same) (fdx eP ew eK emg eb G_units) (fdx eP ew eK emg eb G__law_units) (fdx eP ew eK emg eb G__law_made) (fdx eP ew eK emg eb G__law_odd_prime) (fdx eP ew eK emg eb G_odd_part_prime) (fdx eP ew eK emg eb G_unit_ladder) (fdx eP ew eK emg eb G__law_ladder_due) (fdx eP ew eK emg eb G__law_height) (fdx eP ew eK emg eb G__law_unity) ns h1
end
theorem all_mk {P : Program} {w : World} {K : PySem.W.Frag} {h base : Heap} {mg : Str → Option Value} {C : Addr} (X : K.In h) (G : h.Ns mainGlobals mg)
    {nm q : Str} {NN : Addr} {bs bm : List Value} {sn : List Str} {sub : List Value} {ab : Bool} {col : Option Bool} {dd : Option Addr} {m0 m1 m2 m3 m5 : Option Value}
    {odI anI : Option Addr} {slI : Array (Option Value)} {ocI kVI dcI pmI cdI ctI : Value} {fI : Addr}
    {od0 an0 : Option Addr} {sl0 : Array (Option Value)} {oc0 kV0 dc0 pm0 cd0 ct0 : Value} {f0 : Addr}
    {od1 an1 : Option Addr} {sl1 : Array (Option Value)} {oc1 kV1 dc1 pm1 cd1 ct1 : Value} {f1 : Addr}
    {od2 an2 : Option Addr} {sl2 : Array (Option Value)} {oc2 kV2 dc2 pm2 cd2 ct2 : Value} {f2 : Addr}
    {od3 an3 : Option Addr} {sl3 : Array (Option Value)} {oc3 kV3 dc3 pm3 cd3 ct3 : Value} {f3 : Addr}
    {od4 an4 : Option Addr} {sl4 : Array (Option Value)} {oc4 kV4 dc4 pm4 cd4 ct4 : Value} {f4 : Addr}
    {od5 an5 : Option Addr} {sl5 : Array (Option Value)} {oc5 kV5 dc5 pm5 cd5 ct5 : Value} {f5 : Addr}
    {od6 an6 : Option Addr} {sl6 : Array (Option Value)} {oc6 kV6 dc6 pm6 cd6 ct6 : Value} {f6 : Addr}
    {od7 an7 : Option Addr} {sl7 : Array (Option Value)} {oc7 kV7 dc7 pm7 cd7 ct7 : Value} {f7 : Addr}
    {od8 an8 : Option Addr} {sl8 : Array (Option Value)} {oc8 kV8 dc8 pm8 cd8 ct8 : Value} {f8 : Addr}
    {od9 an9 : Option Addr} {sl9 : Array (Option Value)} {oc9 kV9 dc9 pm9 cd9 ct9 : Value} {f9 : Addr}
    {od10 an10 : Option Addr} {sl10 : Array (Option Value)} {oc10 kV10 dc10 pm10 cd10 ct10 : Value} {f10 : Addr}
    {od11 an11 : Option Addr} {sl11 : Array (Option Value)} {oc11 kV11 dc11 pm11 cd11 ct11 : Value} {f11 : Addr}
    {od12 an12 : Option Addr} {sl12 : Array (Option Value)} {oc12 kV12 dc12 pm12 cd12 ct12 : Value} {f12 : Addr}
    {od13 an13 : Option Addr} {sl13 : Array (Option Value)} {oc13 kV13 dc13 pm13 cd13 ct13 : Value} {f13 : Addr}
    {od14 an14 : Option Addr} {sl14 : Array (Option Value)} {oc14 kV14 dc14 pm14 cd14 ct14 : Value} {f14 : Addr}
    {od15 an15 : Option Addr} {sl15 : Array (Option Value)} {oc15 kV15 dc15 pm15 cd15 ct15 : Value} {f15 : Addr}
    {od16 an16 : Option Addr} {sl16 : Array (Option Value)} {oc16 kV16 dc16 pm16 cd16 ct16 : Value} {f16 : Addr}
    {od17 an17 : Option Addr} {sl17 : Array (Option Value)} {oc17 kV17 dc17 pm17 cd17 ct17 : Value} {f17 : Addr}
    {od18 an18 : Option Addr} {sl18 : Array (Option Value)} {oc18 kV18 dc18 pm18 cd18 ct18 : Value} {f18 : Addr}
    {od19 an19 : Option Addr} {sl19 : Array (Option Value)} {oc19 kV19 dc19 pm19 cd19 ct19 : Value} {f19 : Addr}
    (aC : PySem.W.nsIn K mainGlobals "NeverDrawn" = some (some (.ref C)))
    (xL : K.lookup C = some (excClassObj nm q C NN bs bm true sn sub ab col dd m0 m1 m2 m3 m5 "ValueError.__new__")) (rb : PySem.HandSPX.refsVE bm = true)
    (sa : PySem.W.findIn K (.ref C) "__setattr__" = some (some (.builtin "object.__setattr__"))) (ga : PySem.W.findIn K (.ref C) "__getattribute__" = some (some (.builtin "BaseException.__getattribute__"))) (gg : PySem.W.findIn K (.ref C) "__getattr__" = some none)
    (nw : PySem.W.findIn K (.ref C) "word" = some none) (np : PySem.W.findIn K (.ref C) "prime" = some none)
    (aI : PySem.W.findIn K (.ref C) "__init__" = some (some (.ref fI))) (tI : PySem.W.typeIn K (.ref fI) = some (.type "function"))
    (lI : K.lookup fI = some ⟨ocI, odI, .func (PySem.W.fnOf "__init__" "NeverDrawn.__init__" (defArgs sInit) (defBody sInit) (defScope sInit) .none kVI dcI pmI anI cdI ctI), slI⟩) (cI : PySem.W.codeIn K cdI "NeverDrawn.__init__" = true) (kI : PySem.W.keepIn K (.ref fI) = true)
    (kC : PySem.W.keepIn K (.ref C) = true) (eC : PySem.W.subIn K (.ref C) (.type "BaseException") = some true) (tC : PySem.W.typeIn K (.ref C) = some (.type "type")) (hC : PySem.W.hasDictIn K C = true) (iC : PySem.W.isClsIn K C = true) (sC : PySem.W.subIn K (.ref C) (.ref C) = some true)
    (a0 : PySem.W.nsIn K mainGlobals "units" = some (some (.ref f0))) (l0 : K.lookup f0 = some ⟨oc0, od0, .func (PySem.W.fnOf "units" "units" (defArgs s_units) (defBody s_units) (defScope s_units) .none kV0 dc0 pm0 an0 cd0 ct0), sl0⟩) (c0 : PySem.W.codeIn K cd0 "units" = true) (k0 : PySem.W.keepIn K (.ref f0) = true)
    (a1 : PySem.W.nsIn K mainGlobals "prime_powers" = some (some (.ref f1))) (l1 : K.lookup f1 = some ⟨oc1, od1, .func (PySem.W.fnOf "prime_powers" "prime_powers" (defArgs s_prime_powers) (defBody s_prime_powers) (defScope s_prime_powers) .none kV1 dc1 pm1 an1 cd1 ct1), sl1⟩) (c1 : PySem.W.codeIn K cd1 "prime_powers" = true) (k1 : PySem.W.keepIn K (.ref f1) = true)
    (a2 : PySem.W.nsIn K mainGlobals "odd_part_prime" = some (some (.ref f2))) (l2 : K.lookup f2 = some ⟨oc2, od2, .func (PySem.W.fnOf "odd_part_prime" "odd_part_prime" (defArgs s_odd_part_prime) (defBody s_odd_part_prime) (defScope s_odd_part_prime) .none kV2 dc2 pm2 an2 cd2 ct2), sl2⟩) (c2 : PySem.W.codeIn K cd2 "odd_part_prime" = true) (k2 : PySem.W.keepIn K (.ref f2) = true)
    (a3 : PySem.W.nsIn K mainGlobals "must_be_written" = some (some (.ref f3))) (l3 : K.lookup f3 = some ⟨oc3, od3, .func (PySem.W.fnOf "must_be_written" "must_be_written" (defArgs s_must_be_written) (defBody s_must_be_written) (defScope s_must_be_written) .none kV3 dc3 pm3 an3 cd3 ct3), sl3⟩) (c3 : PySem.W.codeIn K cd3 "must_be_written" = true) (k3 : PySem.W.keepIn K (.ref f3) = true)
    (a4 : PySem.W.nsIn K mainGlobals "generated_units" = some (some (.ref f4))) (l4 : K.lookup f4 = some ⟨oc4, od4, .func (PySem.W.fnOf "generated_units" "generated_units" (defArgs s_generated_units) (defBody s_generated_units) (defScope s_generated_units) .none kV4 dc4 pm4 an4 cd4 ct4), sl4⟩) (c4 : PySem.W.codeIn K cd4 "generated_units" = true) (k4 : PySem.W.keepIn K (.ref f4) = true)
    (a5 : PySem.W.nsIn K mainGlobals "unit_ladder" = some (some (.ref f5))) (l5 : K.lookup f5 = some ⟨oc5, od5, .func (PySem.W.fnOf "unit_ladder" "unit_ladder" (defArgs s_unit_ladder) (defBody s_unit_ladder) (defScope s_unit_ladder) .none kV5 dc5 pm5 an5 cd5 ct5), sl5⟩) (c5 : PySem.W.codeIn K cd5 "unit_ladder" = true) (k5 : PySem.W.keepIn K (.ref f5) = true)
    (a6 : PySem.W.nsIn K mainGlobals "unity_nest" = some (some (.ref f6))) (l6 : K.lookup f6 = some ⟨oc6, od6, .func (PySem.W.fnOf "unity_nest" "unity_nest" (defArgs s_unity_nest) (defBody s_unity_nest) (defScope s_unity_nest) .none kV6 dc6 pm6 an6 cd6 ct6), sl6⟩) (c6 : PySem.W.codeIn K cd6 "unity_nest" = true) (k6 : PySem.W.keepIn K (.ref f6) = true)
    (a7 : PySem.W.nsIn K mainGlobals "_law_same" = some (some (.ref f7))) (l7 : K.lookup f7 = some ⟨oc7, od7, .func (PySem.W.fnOf "_law_same" "_law_same" (defArgs s__law_same) (defBody s__law_same) (defScope s__law_same) .none kV7 dc7 pm7 an7 cd7 ct7), sl7⟩) (c7 : PySem.W.codeIn K cd7 "_law_same" = true) (k7 : PySem.W.keepIn K (.ref f7) = true)
    (a8 : PySem.W.nsIn K mainGlobals "_law_cell" = some (some (.ref f8))) (l8 : K.lookup f8 = some ⟨oc8, od8, .func (PySem.W.fnOf "_law_cell" "_law_cell" (defArgs s__law_cell) (defBody s__law_cell) (defScope s__law_cell) .none kV8 dc8 pm8 an8 cd8 ct8), sl8⟩) (c8 : PySem.W.codeIn K cd8 "_law_cell" = true) (k8 : PySem.W.keepIn K (.ref f8) = true)
    (a9 : PySem.W.nsIn K mainGlobals "_law_digits" = some (some (.ref f9))) (l9 : K.lookup f9 = some ⟨oc9, od9, .func (PySem.W.fnOf "_law_digits" "_law_digits" (defArgs s__law_digits) (defBody s__law_digits) (defScope s__law_digits) .none kV9 dc9 pm9 an9 cd9 ct9), sl9⟩) (c9 : PySem.W.codeIn K cd9 "_law_digits" = true) (k9 : PySem.W.keepIn K (.ref f9) = true)
    (a10 : PySem.W.nsIn K mainGlobals "_law_gcd" = some (some (.ref f10))) (l10 : K.lookup f10 = some ⟨oc10, od10, .func (PySem.W.fnOf "_law_gcd" "_law_gcd" (defArgs s__law_gcd) (defBody s__law_gcd) (defScope s__law_gcd) .none kV10 dc10 pm10 an10 cd10 ct10), sl10⟩) (c10 : PySem.W.codeIn K cd10 "_law_gcd" = true) (k10 : PySem.W.keepIn K (.ref f10) = true)
    (a11 : PySem.W.nsIn K mainGlobals "_law_units" = some (some (.ref f11))) (l11 : K.lookup f11 = some ⟨oc11, od11, .func (PySem.W.fnOf "_law_units" "_law_units" (defArgs s__law_units) (defBody s__law_units) (defScope s__law_units) .none kV11 dc11 pm11 an11 cd11 ct11), sl11⟩) (c11 : PySem.W.codeIn K cd11 "_law_units" = true) (k11 : PySem.W.keepIn K (.ref f11) = true)
    (a12 : PySem.W.nsIn K mainGlobals "_law_factors" = some (some (.ref f12))) (l12 : K.lookup f12 = some ⟨oc12, od12, .func (PySem.W.fnOf "_law_factors" "_law_factors" (defArgs s__law_factors) (defBody s__law_factors) (defScope s__law_factors) .none kV12 dc12 pm12 an12 cd12 ct12), sl12⟩) (c12 : PySem.W.codeIn K cd12 "_law_factors" = true) (k12 : PySem.W.keepIn K (.ref f12) = true)
    (a13 : PySem.W.nsIn K mainGlobals "_law_unit_count" = some (some (.ref f13))) (l13 : K.lookup f13 = some ⟨oc13, od13, .func (PySem.W.fnOf "_law_unit_count" "_law_unit_count" (defArgs s__law_unit_count) (defBody s__law_unit_count) (defScope s__law_unit_count) .none kV13 dc13 pm13 an13 cd13 ct13), sl13⟩) (c13 : PySem.W.codeIn K cd13 "_law_unit_count" = true) (k13 : PySem.W.keepIn K (.ref f13) = true)
    (a14 : PySem.W.nsIn K mainGlobals "_law_odd_prime" = some (some (.ref f14))) (l14 : K.lookup f14 = some ⟨oc14, od14, .func (PySem.W.fnOf "_law_odd_prime" "_law_odd_prime" (defArgs s__law_odd_prime) (defBody s__law_odd_prime) (defScope s__law_odd_prime) .none kV14 dc14 pm14 an14 cd14 ct14), sl14⟩) (c14 : PySem.W.codeIn K cd14 "_law_odd_prime" = true) (k14 : PySem.W.keepIn K (.ref f14) = true)
    (a15 : PySem.W.nsIn K mainGlobals "_law_ladder_due" = some (some (.ref f15))) (l15 : K.lookup f15 = some ⟨oc15, od15, .func (PySem.W.fnOf "_law_ladder_due" "_law_ladder_due" (defArgs s__law_ladder_due) (defBody s__law_ladder_due) (defScope s__law_ladder_due) .none kV15 dc15 pm15 an15 cd15 ct15), sl15⟩) (c15 : PySem.W.codeIn K cd15 "_law_ladder_due" = true) (k15 : PySem.W.keepIn K (.ref f15) = true)
    (a16 : PySem.W.nsIn K mainGlobals "_law_height" = some (some (.ref f16))) (l16 : K.lookup f16 = some ⟨oc16, od16, .func (PySem.W.fnOf "_law_height" "_law_height" (defArgs s__law_height) (defBody s__law_height) (defScope s__law_height) .none kV16 dc16 pm16 an16 cd16 ct16), sl16⟩) (c16 : PySem.W.codeIn K cd16 "_law_height" = true) (k16 : PySem.W.keepIn K (.ref f16) = true)
    (a17 : PySem.W.nsIn K mainGlobals "_law_made" = some (some (.ref f17))) (l17 : K.lookup f17 = some ⟨oc17, od17, .func (PySem.W.fnOf "_law_made" "_law_made" (defArgs s__law_made) (defBody s__law_made) (defScope s__law_made) .none kV17 dc17 pm17 an17 cd17 ct17), sl17⟩) (c17 : PySem.W.codeIn K cd17 "_law_made" = true) (k17 : PySem.W.keepIn K (.ref f17) = true)
    (a18 : PySem.W.nsIn K mainGlobals "_law_unity" = some (some (.ref f18))) (l18 : K.lookup f18 = some ⟨oc18, od18, .func (PySem.W.fnOf "_law_unity" "_law_unity" (defArgs s__law_unity) (defBody s__law_unity) (defScope s__law_unity) .none kV18 dc18 pm18 an18 cd18 ct18), sl18⟩) (c18 : PySem.W.codeIn K cd18 "_law_unity" = true) (k18 : PySem.W.keepIn K (.ref f18) = true)
    (a19 : PySem.W.nsIn K mainGlobals "law" = some (some (.ref f19))) (l19 : K.lookup f19 = some ⟨oc19, od19, .func (PySem.W.fnOf "law" "law" (defArgs s_law) (defBody s_law) (defScope s_law) .none kV19 dc19 pm19 an19 cd19 ct19), sl19⟩) (c19 : PySem.W.codeIn K cd19 "law" = true) (k19 : PySem.W.keepIn K (.ref f19) = true)
    (zg : PySem.W.nsIn K mainGlobals "gcd" = some (some (.builtin "math.gcd")))
    (z_abs : PySem.W.nsIn K mainGlobals "abs" = some none)
    (z_all : PySem.W.nsIn K mainGlobals "all" = some none)
    (z_int : PySem.W.nsIn K mainGlobals "int" = some none)
    (z_len : PySem.W.nsIn K mainGlobals "len" = some none)
    (z_min : PySem.W.nsIn K mainGlobals "min" = some none)
    (z_range : PySem.W.nsIn K mainGlobals "range" = some none)
    (z_repr : PySem.W.nsIn K mainGlobals "repr" = some none)
    (z_sorted : PySem.W.nsIn K mainGlobals "sorted" = some none)
    (z_tuple : PySem.W.nsIn K mainGlobals "tuple" = some none)
    : Fd P w K mg base "law" 20 (TLaw 63) := by
  have m_gcd := PySem.W.mg_of X G zg
  have m_abs := PySem.W.mg_none_of X G z_abs
  have m_all := PySem.W.mg_none_of X G z_all
  have m_int := PySem.W.mg_none_of X G z_int
  have m_len := PySem.W.mg_none_of X G z_len
  have m_min := PySem.W.mg_none_of X G z_min
  have m_range := PySem.W.mg_none_of X G z_range
  have m_repr := PySem.W.mg_none_of X G z_repr
  have m_sorted := PySem.W.mg_none_of X G z_sorted
  have m_tuple := PySem.W.mg_none_of X G z_tuple
  have mC := PySem.W.mg_of X G aC
  have TC : OexC K C := ⟨⟨_, _, _, _, _, _, _, _, _, _, _, _, _, _, _, xL, rb⟩, sa, eC, tC, kC⟩
  have xf : XfC K C := ⟨ga, gg, eC, hC⟩
  have te := exm_self eC iC tC sC
  have FI := fun_mk (st := sInit) lI cI kI
  have bI := FI.binds (ps := ["self", "prime"]) fun _ _ _ _ _ _ us hl => match us, hl with | [_, _], _ => rfl
  have XN : Xc P w K mg base "NeverDrawn" C 1 fvN := ⟨TC, mC, ⟨fI, _, ["self", "prime"], aI, tI, ok_init1 (fn := "prime") (an := "prime") (wd := "NeverDrawn") FI ⟨rfl, rfl, rfl, by decide +kernel, rfl, by decide +kernel, by decide +kernel⟩ rfl TC np nw (by decide) (by decide), bI⟩, xf⟩
  have G__law_cell := fd__law_cell (P := P) (w := w) (base := base) (fun_mk (st := s__law_cell) l8 c8 k8) (PySem.W.mg_of X G a8) m_len m_int
  have G__law_digits := fd__law_digits (P := P) (w := w) (base := base) (fun_mk (st := s__law_digits) l9 c9 k9) (PySem.W.mg_of X G a9) m_int m_range m_len
  have G__law_same := fd__law_same (P := P) (w := w) (base := base) (fun_mk (st := s__law_same) l7 c7 k7) (PySem.W.mg_of X G a7) m_repr
  have G_units := fd_units (P := P) (w := w) (base := base) (fun_mk (st := s_units) l0 c0 k0) (PySem.W.mg_of X G a0) m_tuple m_range m_gcd
  have G__law_gcd := fd__law_gcd (P := P) (w := w) (base := base) (fun_mk (st := s__law_gcd) l10 c10 k10) (PySem.W.mg_of X G a10) m_abs m_int
  have G__law_units := fd__law_units (P := P) (w := w) (base := base) (fun_mk (st := s__law_units) l11 c11 k11) (PySem.W.mg_of X G a11) m_range G__law_gcd
  have G__law_made := fd__law_made (P := P) (w := w) (base := base) (fun_mk (st := s__law_made) l17 c17 k17) (PySem.W.mg_of X G a17) m_range G__law_digits
  have G__law_factors := fd__law_factors (P := P) (w := w) (base := base) (fun_mk (st := s__law_factors) l12 c12 k12) (PySem.W.mg_of X G a12) m_int
  have G__law_unit_count := fd__law_unit_count (P := P) (w := w) (base := base) (fun_mk (st := s__law_unit_count) l13 c13 k13) (PySem.W.mg_of X G a13) m_range G__law_factors
  have G__law_odd_prime := fd__law_odd_prime (P := P) (w := w) (base := base) (fun_mk (st := s__law_odd_prime) l14 c14 k14) (PySem.W.mg_of X G a14) m_min G__law_factors G__law_unit_count
  have G_prime_powers := fd_prime_powers (P := P) (w := w) (base := base) (fun_mk (st := s_prime_powers) l1 c1 k1) (PySem.W.mg_of X G a1) m_tuple
  have G_odd_part_prime := fd_odd_part_prime (P := P) (w := w) (base := base) (fun_mk (st := s_odd_part_prime) l2 c2 k2) (PySem.W.mg_of X G a2) m_min G_prime_powers
  have G_generated_units := fd_generated_units (P := P) (w := w) (base := base) (fun_mk (st := s_generated_units) l4 c4 k4) (PySem.W.mg_of X G a4) m_len m_tuple m_sorted
  have G_unit_ladder := fd_unit_ladder (P := P) (w := w) (base := base) (fun_mk (st := s_unit_ladder) l5 c5 k5) (PySem.W.mg_of X G a5) m_all m_tuple m_sorted G_units G_generated_units
  have G__law_ladder_due := fd__law_ladder_due (P := P) (w := w) (base := base) (fun_mk (st := s__law_ladder_due) l15 c15 k15) (PySem.W.mg_of X G a15) m_int m_range m_tuple G__law_units
  have G__law_height := fd__law_height (P := P) (w := w) (base := base) (fun_mk (st := s__law_height) l16 c16 k16) (PySem.W.mg_of X G a16) m_int m_range G__law_units
  have G_must_be_written := fd_must_be_written (P := P) (w := w) (base := base) (C := C) (fun_mk (st := s_must_be_written) l3 c3 k3) (PySem.W.mg_of X G a3) G_odd_part_prime XN
  have G_unity_nest := fd_unity_nest (P := P) (w := w) (base := base) (C := C) (fun_mk (st := s_unity_nest) l6 c6 k6) (PySem.W.mg_of X G a6) m_len m_sorted G_units G_generated_units G_must_be_written
  have G__law_unity := fd__law_unity (P := P) (w := w) (base := base) (C := C) (fun_mk (st := s__law_unity) l18 c18 k18) (PySem.W.mg_of X G a18) G_unity_nest mC te xf nw np
  have G_law := fd_law (P := P) (w := w) (base := base) (fun_mk (st := s_law) l19 c19 k19) (PySem.W.mg_of X G a19) m_int m_range m_tuple G__law_cell G__law_digits G__law_same G_units G__law_units G__law_made G__law_odd_prime G_odd_part_prime G_unit_ladder G__law_ladder_due G__law_height G__law_unity
  exact G_law
end K87
end
open PySem PySem.W PyProof.Rows
set_option maxRecDepth 100000 in
set_option maxHeartbeats 0 in
theorem PySem.Challenge.cw_leastnest_k87_units_and_ladders_whole_holds : PySem.Challenge.rw_leastnest_k87_units_and_ladders_whole.Holds := by
  w_on; o_law; k_head; (case hw => w_witness2)
  k_fill
  refine DL.walk_ofG (l := PySem.Challenge.rw_leastnest_k87_units_and_ladders_whole) (n := 63) (k := 20) rfl (by decide) rfl ⟨rfl, by decide, by decide⟩ (fun w h Y => PySem.W.kIn_of Y) ?F
  case F =>
    intro w mg h KX G base hb hm
    refine' K87.all_mk KX G ?aC ?xL ?rb ?sa ?ga ?gg ?nw ?np ?aI ?tI ?lI ?cI ?kI ?kC ?eC ?tC ?hC ?iC ?sC ?a0 ?l0 ?c0 ?k0 ?a1 ?l1 ?c1 ?k1 ?a2 ?l2 ?c2 ?k2 ?a3 ?l3 ?c3 ?k3 ?a4 ?l4 ?c4 ?k4 ?a5 ?l5 ?c5 ?k5 ?a6 ?l6 ?c6 ?k6 ?a7 ?l7 ?c7 ?k7 ?a8 ?l8 ?c8 ?k8 ?a9 ?l9 ?c9 ?k9 ?a10 ?l10 ?c10 ?k10 ?a11 ?l11 ?c11 ?k11 ?a12 ?l12 ?c12 ?k12 ?a13 ?l13 ?c13 ?k13 ?a14 ?l14 ?c14 ?k14 ?a15 ?l15 ?c15 ?k15 ?a16 ?l16 ?c16 ?k16 ?a17 ?l17 ?c17 ?k17 ?a18 ?l18 ?c18 ?k18 ?a19 ?l19 ?c19 ?k19 ?zg ?z_abs ?z_all ?z_int ?z_len ?z_min ?z_range ?z_repr ?z_sorted ?z_tuple
    (case aC => k_is)
    (case xL => k_is)
    (case rb => first | rfl | decide +kernel)
    (case sa => k_is)
    (case ga => k_is)
    (case gg => k_is)
    (case nw => k_is)
    (case np => k_is)
    (case aI => k_is)
    (case tI => k_is)
    (case lI => k_is)
    (case cI => k_is)
    (case kI => k_is)
    (case kC => k_is)
    (case eC => k_is)
    (case tC => k_is)
    (case hC => k_is)
    (case iC => k_is)
    (case sC => first | rfl | k_is)
    (case a0 => k_is); (case l0 => k_is); (case c0 => k_is); (case k0 => k_is)
    (case a1 => k_is); (case l1 => k_is); (case c1 => k_is); (case k1 => k_is)
    (case a2 => k_is); (case l2 => k_is); (case c2 => k_is); (case k2 => k_is)
    (case a3 => k_is); (case l3 => k_is); (case c3 => k_is); (case k3 => k_is)
    (case a4 => k_is); (case l4 => k_is); (case c4 => k_is); (case k4 => k_is)
    (case a5 => k_is); (case l5 => k_is); (case c5 => k_is); (case k5 => k_is)
    (case a6 => k_is); (case l6 => k_is); (case c6 => k_is); (case k6 => k_is)
    (case a7 => k_is); (case l7 => k_is); (case c7 => k_is); (case k7 => k_is)
    (case a8 => k_is); (case l8 => k_is); (case c8 => k_is); (case k8 => k_is)
    (case a9 => k_is); (case l9 => k_is); (case c9 => k_is); (case k9 => k_is)
    (case a10 => k_is); (case l10 => k_is); (case c10 => k_is); (case k10 => k_is)
    (case a11 => k_is); (case l11 => k_is); (case c11 => k_is); (case k11 => k_is)
    (case a12 => k_is); (case l12 => k_is); (case c12 => k_is); (case k12 => k_is)
    (case a13 => k_is); (case l13 => k_is); (case c13 => k_is); (case k13 => k_is)
    (case a14 => k_is); (case l14 => k_is); (case c14 => k_is); (case k14 => k_is)
    (case a15 => k_is); (case l15 => k_is); (case c15 => k_is); (case k15 => k_is)
    (case a16 => k_is); (case l16 => k_is); (case c16 => k_is); (case k16 => k_is)
    (case a17 => k_is); (case l17 => k_is); (case c17 => k_is); (case k17 => k_is)
    (case a18 => k_is); (case l18 => k_is); (case c18 => k_is); (case k18 => k_is)
    (case a19 => k_is); (case l19 => k_is); (case c19 => k_is); (case k19 => k_is)
    (case zg => k_is)
    (case z_abs => k_is)
    (case z_all => k_is)
    (case z_int => k_is)
    (case z_len => k_is)
    (case z_min => k_is)
    (case z_range => k_is)
    (case z_repr => k_is)
    (case z_sorted => k_is)
    (case z_tuple => k_is)
#print axioms PySem.Challenge.cw_leastnest_k87_units_and_ladders_whole_holds
