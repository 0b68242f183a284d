import PyProof.Rows.All
import Wide.All
import OpenK.AllK
import Wide.FinOn
import PyProof.ExcBaseAll.ValueError
import HandS.ForMost
import HandS.Exc
import HandS.ExcOwn
import HandS.TryOnly
import HandS.WordsExc
import HandS.RaiseOp
import HandS.IsInst
import HandS.Ends
import HandS.Set
import HandS.Strs
import KE.SortData
import PyProof.Rows.SetFrom
import KE.KDictCopyH
import HandS.More
import HandS.Property
import HandS.DictComp
import HandS.Style
import HandS.ClsMeth
import HandS.Defaults
import PyProof.DictUpdate
import HandS.Small
import HandS.Star
import HandS.SetBool
import HandS.ExcValue
import HandS.OwnEq
import PyProof.InstEq
import KE.KExcIs
import KE.KEqDict
import KE.DataEq
import PySem.Challenge.RW_keptroutes_k22_pairs_of_other_widths
set_option Elab.async false
set_option linter.all false
set_option maxRecDepth 100000
set_option maxHeartbeats 4000000
/-! DL: data in place of heaps. First: a def's promise where it is known that nothing is being shown (repr's guards are empty). -/
namespace DL
open PySem L2 PySem.Spec PyProof.Rows
/-- what is known of the place: nothing is being shown, sys.modules stands -/
def Tp (A : Around) (base : Heap) : Prop := A.guards = some [] ∧ ∃ o, base.get? sysModules = some o
structure FnG (P : Program) (wd : World) (K : PySem.W.Frag) (mg : Str → Option Value) (base : Heap) (k : Nat) (f : Addr) (fd : FuncData) (ps : List Str) (sp : Sp) : Prop where
  len : ∀ vs H Q E, sp vs H Q E → vs.length = ps.length
  go : ∀ {A : Around} {outer : List PySem.Env} {s : Shared} {H : Hp} {args : Args} {us : List Value} {vs : List V} {Q : VK} {E : XK}, Room k A ∧ Tp A base → Env0 P wd K mg base A outer s H → BindsTo s fd args (ps.zip us) → Vals vs us → sp vs H Q E →
    codeAny (model P wd) A (.call (.ref f) args) (CR (L2.CX P wd) outer P wd H s Q E) s
section
variable {P : Program} {wd : World} {K : PySem.W.Frag} {mg : Str → Option Value} {base : Heap} {k : Nat} {f : Addr} {fd : FuncData} {ps : List Str} {sp : Sp}
theorem FnG.imp {sp' : Sp} (F : FnG P wd K mg base k f fd ps sp) (h : ∀ vs H Q E, sp' vs H Q E → sp vs H Q E) : FnG P wd K mg base k f fd ps sp' :=
  ⟨fun _ _ _ _ q => F.len _ _ _ _ (h _ _ _ _ q), fun hr he hb hv hs => F.go hr he hb hv (h _ _ _ _ hs)⟩
theorem FnG.mono {j : Nat} (F : FnG P wd K mg base j f fd ps sp) (h : j ≤ k) : FnG P wd K mg base k f fd ps sp := ⟨F.len, fun hr => F.go ⟨hr.1.mono h, hr.2⟩⟩
/-- a def of the text keeps its promise, by its body -/
theorem FnG.mk' {x qual : Str} {st : Stmt} {N : List Str} (F : Fun K x qual st f fd) (S : FnScope N ps (defScope st)) (len : ∀ vs H Q E, sp vs H Q E → vs.length = ps.length)
    (body : ∀ (cdv : Value) (A : Around) (outer : List PySem.Env) (s : Shared) (H : Hp) (vs : List V) (Q : VK) (E : XK), Room k (A.deeper (envOfC qual (defScope st) s.heap.objs.size f cdv)) ∧ Tp (A.deeper (envOfC qual (defScope st) s.heap.objs.size f cdv)) base → sp vs H Q E →
      ∃ t, PSs (cxOf (L2.CX P wd) P wd K mg base N qual (defScope st) f cdv A outer s H E) (defBody st) t ∧ t { nx := fun _ H' => Q .non H', rt := Q } (L2.start N vs) H) : FnG P wd K mg base (k + 1) f fd ps sp := by
  obtain ⟨oc, od, kV, doc, pm, an, cdv, ct, osl, rfl, look, code⟩ := F.ex
  refine ⟨len, fun {A outer s H args us vs Q E} room env bound rel ask => ?_⟩
  have inK : K.In s.heap := env.mod.kin.keeps fun b o e => (env.bs b o e).1
  have noLim : s.heap.NoLimit := env.mod.nolimit.keeps fun b o e => (env.bs b o e).1
  have kinds : ∀ y ∈ ps.zip us, (defScope st).names.lookup y.1 = some .local ∨ ((defScope st).names.lookup y.1 = some .cell ∧ ((cellsFrom (s.heap.objs.size + 1) (defScope st).names []).lookup y.1).isSome = true) := by
    rintro ⟨n, v⟩ hy
    exact (S.par n (List.of_mem_zip hy).1).imp _root_.id fun q => ⟨q, PySem.W.cellsFrom_some _ _ _ (.inl q)⟩
  refine codeAny_call_function room.1.depth (inK _ _ look) rfl S.co S.gen rfl (PySem.W.codeRec_of inK code) (bound _ _ _ _ (wpAny_newFunctionEnv_cells S.kind kinds ?_))
  intro env' heq s1 inC
  subst heq
  refine ⟨noLim.keeps inC.toInCall.keep, codeAny_func ?_⟩
  obtain ⟨t, ht, hq⟩ := body cdv A outer s H vs Q E ⟨room.1.deeper _, room.2⟩ ask
  have J0 := inv_start (CX := L2.CX P wd) (qual := qual) (E := E) S room.1.hd env (len _ _ _ _ ask) rel inC
  refine wpAny_mono (ht.run [] s1 _ H _ J0 hq) ?_ fun _ _ z => z
  intro fl s' hs
  match fl, hs with
  | .ret u, ⟨v, _, H', J, rv, q⟩ => exact ⟨v, H', J.os, J.bare, J.base, J.hok, rv, q⟩
  | .next, ⟨_, H', J, q⟩ => exact ⟨.non, H', J.os, J.bare, J.base, J.hok, rfl, q⟩
  | .brk, ⟨_, _, _, q⟩ => exact q.elim
  | .cont, ⟨_, _, _, q⟩ => exact q.elim
end
section
variable {X : Cx} {k : Nat} {f C : Addr} {fd : FuncData} {ps : List Str} {sp : Sp} {ds : List Value} {pins : List (Addr × Obj)} {σ : L2.St} {H : Hp} {s : Shared} {Q : VK} {us : List Value} {vs : List V} {E : L2.St → XK}
/-- a def is called with args, which bind its parameters to us -/
theorem call_g {Post : Result → Shared → Prop} (F : FnG X.prog X.w X.K X.mg X.base k f fd ps sp) (hr : Room k X.A ∧ Tp X.A X.base) (args : Args) (hb : BindsTo s fd args (ps.zip us)) (hx : PassesAt (L2.CX X.prog X.w) X σ (E σ)) (I : Inv X pins σ H s) (rel : Vals vs us) (h : sp vs H Q (E σ))
    (pe : ∀ e s', X.xe e s' → Post (.error e) s') (pr : ∀ u s', EP X pins σ Q u s' → Post (.ok (.ret u)) s') : codeAny (model X.prog X.w) X.A (.call (.ref f) args) Post s := by
  refine codeAny_mono (F.go hr I.env0 hb rel h) fun r s' hq => ?_
  match r, hq with
  | .error e, hq => exact pe e s' (hx pins H s e s' I hq)
  | .ok (.ret u), hq => exact pr u s' (I.after hq)
end
end DL
/-! A value of the program is a tree (D); mutable things are a slot's own (ow) or stand in a store. -/
namespace DL
open PySem L2

inductive D where
  | non | bl (b : Bool) | int (i : Int) | str (x : Str)
  | tup (xs : List D) | lst (xs : List D) | dct (kvs : List (Key × D)) | ins (C : String) (fs : List (Str × D))
  | ref (l : Nat) | scr (ns : List Int) | ty (n : String) | cls (n : String) | opq | tomb | exc (C : String) (fs : List (Str × D))

/-- where the module's class of that name stands -/
def cA (K : PySem.W.Frag) (n : String) : Addr := match PySem.W.nsIn K mainGlobals (Str.ofString n) with
  | some (some (.ref C)) => C
  | _ => 0
abbrev Store := List D
/-- what stands: the frozen part M, where the store's things lie, the store, the heap -/
structure Wd where
  M : Hp
  ρ : Nat → Addr
  st : Store
  H : Hp

/-- an exception that is kept: its class is known -/
def ExK (cls : Value) (d : Option Addr) (a : Addr) : HO := .ext fun h => ∃ (oe : Obj) (vs : Array Value), h.get? a = some oe ∧ Zc cls d oe ∧ oe.data = .fields vs
inductive Rep (K : PySem.W.Frag) (w : Wd) : V → D → Prop
  | non : Rep K w .non .non
  | bl {b : Bool} : Rep K w (.bl b) (.bl b)
  | int {i : Int} : Rep K w (.int i) (.int i)
  | str {x : Str} : Rep K w (.str x) (.str x)
  | tup {a : Addr} {vs : List V} {xs : List D} : SqT K w.M a vs → vs.length = xs.length → (∀ (i : Nat) (v : V) (x : D), vs[i]? = some v → xs[i]? = some x → Rep K w v x) → Rep K w (.ref a) (.tup xs)
  | lst {a : Addr} {vs : List V} {xs : List D} : w.M a = some (.lst vs) → vs.length = xs.length → (∀ (i : Nat) (v : V) (x : D), vs[i]? = some v → xs[i]? = some x → Rep K w v x) → Rep K w (.ref a) (.lst xs)
  | dct {a : Addr} {o : Obj} {vs : List (Key × V)} {xs : List (Key × D)} : w.M a = some (.frz o (.dK vs)) → vs.map (·.1) = xs.map (·.1) → (∀ (i : Nat) (v : Key × V) (x : Key × D), vs[i]? = some v → xs[i]? = some x → Rep K w v.2 x.2) → Rep K w (.ref a) (.dct xs)
  | ins {a dx : Addr} {C : String} {vs : List (Str × V)} {xs : List (Str × D)} : w.M a = some (.ins (cA K C) dx vs) → vs.map (·.1) = xs.map (·.1) → (∀ (i : Nat) (v : Str × V) (x : Str × D), vs[i]? = some v → xs[i]? = some x → Rep K w v.2 x.2) → Rep K w (.ref a) (.ins C xs)
  | ref {l : Nat} : l < w.st.length → Rep K w (.ref (w.ρ l)) (.ref l)
  | scr {a : Addr} {ns : List Int} : SqL K w.M a (ns.map V.int) → Rep K w (.ref a) (.scr ns)
  | ty {n : String} : Rep K w (.ty n) (.ty n)
  | cls {n : String} : Rep K w (.ref (cA K n)) (.cls n)
  | opq {a : Addr} : Rep K w (.ref a) .opq
  | exc0 {a : Addr} {C : String} : w.M a = some (ExK (.ref (cA K C)) none a) → Rep K w (.ref a) (.exc C [])
  | exc1 {a d : Addr} {C : String} {vs : List (Str × V)} {xs : List (Str × D)} : w.M a = some (ExK (.ref (cA K C)) (some d) a) → w.M d = some (.xd vs) → xs ≠ [] → vs.map (·.1) = xs.map (·.1) → (∀ (i : Nat) (v : Str × V) (x : Str × D), vs[i]? = some v → xs[i]? = some x → Rep K w v.2 x.2) → Rep K w (.ref a) (.exc C xs)

/-- lists, alike by place -/
def RepL (K : PySem.W.Frag) (w : Wd) (vs : List V) (xs : List D) : Prop := vs.length = xs.length ∧ ∀ (i : Nat) (v : V) (x : D), vs[i]? = some v → xs[i]? = some x → Rep K w v x
def RepP {κ : Type} (K : PySem.W.Frag) (w : Wd) (vs : List (κ × V)) (xs : List (κ × D)) : Prop := vs.map (·.1) = xs.map (·.1) ∧ ∀ (i : Nat) (v : κ × V) (x : κ × D), vs[i]? = some v → xs[i]? = some x → Rep K w v.2 x.2

/-- what a mutable thing holds -/
def RO (K : PySem.W.Frag) (w : Wd) (o : HO) (d : D) : Prop := match d with
  | .lst xs => ∃ vs, o = .lst vs ∧ RepL K w vs xs
  | .dct xs => ∃ vs, o = .dK vs ∧ RepP K w vs xs
  | .ins C xs => ∃ dx vs, o = .ins (cA K C) dx vs ∧ RepP K w vs xs
  | _ => False

structure Ok (K : PySem.W.Frag) (w : Wd) : Prop where
  ex : ∀ a o, w.M a = some o → w.H a = some o
  sto : ∀ (l : Nat) (d : D), w.st[l]? = some d → ∃ o, w.H (w.ρ l) = some o ∧ (d = .tomb ∨ (w.M (w.ρ l) = none ∧ RO K w o d))
  inj : ∀ l m, l < w.st.length → m < w.st.length → w.ρ l = w.ρ m → l = m

theorem Ok.live {K : PySem.W.Frag} {w : Wd} (k : Ok K w) {l : Nat} {d : D} (h : w.st[l]? = some d) (hd : d ≠ .tomb) : ∃ o, w.H (w.ρ l) = some o ∧ w.M (w.ρ l) = none ∧ RO K w o d := by
  obtain ⟨o, a, b⟩ := k.sto l d h
  rcases b with b | b
  · exact absurd b hd
  · exact ⟨o, a, b.1, b.2⟩
structure Evo (w w' : Wd) : Prop where
  mono : ∀ a o, w.M a = some o → w'.M a = some o
  rho : ∀ l, l < w.st.length → w'.ρ l = w.ρ l
  le : w.st.length ≤ w'.st.length
  newM : ∀ a o, w'.M a = some o → w.M a = none → w.H a = none
  newR : ∀ l, w.st.length ≤ l → l < w'.st.length → w.H (w'.ρ l) = none
  keep : ∀ a o, w.H a = some o → w.M a = none → (∀ l, l < w.st.length → w.ρ l ≠ a) → w'.H a = some o

/-- what is told of data goes on being so -/
structure Ext (w w' : Wd) : Prop where
  mono : ∀ a o, w.M a = some o → w'.M a = some o
  rho : ∀ l, l < w.st.length → w'.ρ l = w.ρ l
  le : w.st.length ≤ w'.st.length
theorem Evo.ext {w w' : Wd} (e : Evo w w') : Ext w w' := ⟨e.mono, e.rho, e.le⟩
theorem Ext.refl (w : Wd) : Ext w w := ⟨fun _ _ h => h, fun _ _ => rfl, Nat.le_refl _⟩
theorem Ext.trans {w w' w'' : Wd} (a : Ext w w') (b : Ext w' w'') : Ext w w'' := ⟨fun x o h => b.mono x o (a.mono x o h), fun l h => (b.rho l (Nat.lt_of_lt_of_le h a.le)).trans (a.rho l h), Nat.le_trans a.le b.le⟩

section
variable {K : PySem.W.Frag} {w w' w'' : Wd}
theorem Evo.refl (w : Wd) : Evo w w := ⟨fun _ _ h => h, fun _ _ => rfl, Nat.le_refl _, fun a o h n => absurd (h.symm.trans n) (fun q => nomatch q), fun l h1 h2 => absurd (Nat.lt_of_lt_of_le h2 h1) (Nat.lt_irrefl _), fun _ _ h _ _ => h⟩
theorem some_of_ne {α : Type} {o : Option α} (h : o ≠ none) : ∃ x, o = some x := by cases o with | none => exact absurd rfl h | some x => exact ⟨x, rfl⟩
theorem Evo.dom (e : Evo w w') (k : Ok K w') {a : Addr} {o : HO} (h : w.H a = some o) : ∃ o', w'.H a = some o' := by
  cases m : w.M a with
  | some u => exact ⟨_, k.ex a _ (e.mono a _ m)⟩
  | none =>
    by_cases z : ∃ l, l < w.st.length ∧ w.ρ l = a
    · obtain ⟨l, hl, rfl⟩ := z
      have hl' := Nat.lt_of_lt_of_le hl e.le
      obtain ⟨u, hu, _⟩ := k.sto l w'.st[l] (List.getElem?_eq_getElem hl')
      rw [e.rho l hl] at hu
      exact ⟨u, hu⟩
    · exact ⟨o, e.keep a o h m fun l hl q => z ⟨l, hl, q⟩⟩
theorem Evo.dom0 (e : Evo w w') (k : Ok K w') {a : Addr} (h : w'.H a = none) : w.H a = none := by
  cases q : w.H a with
  | none => rfl
  | some o => obtain ⟨u, hu⟩ := e.dom k q; rw [hu] at h; cases h
theorem Evo.trans (a : Evo w w') (k : Ok K w') (b : Evo w' w'') : Evo w w'' where
  mono := fun x o h => b.mono x o (a.mono x o h)
  rho := fun l h => (b.rho l (Nat.lt_of_lt_of_le h a.le)).trans (a.rho l h)
  le := Nat.le_trans a.le b.le
  newM := fun x o h n => by
    cases q : w'.M x with
    | some u => exact a.newM x u q n
    | none => exact a.dom0 k (b.newM x o h q)
  newR := fun l h1 h2 => by
    by_cases q : l < w'.st.length
    · rw [b.rho l q]; exact a.newR l h1 q
    · exact a.dom0 k (b.newR l (Nat.le_of_not_lt q) h2)
  keep := fun x o h n nl => by
    have h1 := a.keep x o h n nl
    refine b.keep x o h1 ?_ fun l hl q => ?_
    · cases q : w'.M x with
      | none => rfl
      | some u => have z := a.newM x u q n; rw [h] at z; cases z
    · by_cases z : l < w.st.length
      · exact nl l z ((a.rho l z).symm.trans q)
      · have y := a.newR l (Nat.le_of_not_lt z) hl
        rw [q, h] at y; cases y

theorem Ext.sqT (e : Ext w w') {a : Addr} {vs : List V} (h : SqT K w.M a vs) : SqT K w'.M a vs := by
  rcases h with (h | ⟨o, h⟩) | h
  · exact .inl (.inl (e.mono _ _ h))
  · exact .inl (.inr ⟨o, e.mono _ _ h⟩)
  · exact .inr h
theorem Ext.sqL (e : Ext w w') {a : Addr} {vs : List V} (h : SqL K w.M a vs) : SqL K w'.M a vs := by
  rcases h with (h | ⟨o, h⟩) | h
  · exact .inl (.inl (e.mono _ _ h))
  · exact .inl (.inr ⟨o, e.mono _ _ h⟩)
  · exact .inr h
theorem Ok.sqT (k : Ok K w) {a : Addr} {vs : List V} (h : SqT K w.M a vs) : SqT K w.H a vs := by
  rcases h with (h | ⟨o, h⟩) | h
  · exact .inl (.inl (k.ex _ _ h))
  · exact .inl (.inr ⟨o, k.ex _ _ h⟩)
  · exact .inr h
theorem Ok.sqL (k : Ok K w) {a : Addr} {vs : List V} (h : SqL K w.M a vs) : SqL K w.H a vs := by
  rcases h with (h | ⟨o, h⟩) | h
  · exact .inl (.inl (k.ex _ _ h))
  · exact .inl (.inr ⟨o, k.ex _ _ h⟩)
  · exact .inr h
theorem Rep.ext (e : Ext w w') {v : V} {d : D} (r : Rep K w v d) : Rep K w' v d := by
  induction r with
  | non => exact .non
  | bl => exact .bl
  | int => exact .int
  | str => exact .str
  | tup h l _ ih => exact .tup (e.sqT h) l ih
  | lst h l _ ih => exact .lst (e.mono _ _ h) l ih
  | dct h l _ ih => exact .dct (e.mono _ _ h) l ih
  | ins h l _ ih => exact .ins (e.mono _ _ h) l ih
  | ref h => rw [← e.rho _ h]; exact .ref (Nat.lt_of_lt_of_le h e.le)
  | scr h => exact .scr (e.sqL h)
  | ty => exact .ty
  | cls => exact .cls
  | opq => exact .opq
  | exc0 h => exact .exc0 (e.mono _ _ h)
  | exc1 h h' ne l _ ih => exact .exc1 (e.mono _ _ h) (e.mono _ _ h') ne l ih
theorem Rep.evo (e : Evo w w') {v : V} {d : D} (r : Rep K w v d) : Rep K w' v d := r.ext e.ext
theorem RepL.ext (e : Ext w w') {vs : List V} {xs : List D} (r : RepL K w vs xs) : RepL K w' vs xs := ⟨r.1, fun i v x a b => (r.2 i v x a b).ext e⟩
theorem RepL.evo (e : Evo w w') {vs : List V} {xs : List D} (r : RepL K w vs xs) : RepL K w' vs xs := r.ext e.ext
theorem RepP.ext {κ : Type} (e : Ext w w') {vs : List (κ × V)} {xs : List (κ × D)} (r : RepP K w vs xs) : RepP K w' vs xs := ⟨r.1, fun i v x a b => (r.2 i v x a b).ext e⟩
theorem RepP.evo {κ : Type} (e : Evo w w') {vs : List (κ × V)} {xs : List (κ × D)} (r : RepP K w vs xs) : RepP K w' vs xs := r.ext e.ext
theorem RO.ext (e : Ext w w') {o : HO} {d : D} (r : RO K w o d) : RO K w' o d := by
  cases d with
  | lst xs => obtain ⟨vs, z, r⟩ := r; exact ⟨vs, z, r.ext e⟩
  | dct xs => obtain ⟨vs, z, r⟩ := r; exact ⟨vs, z, r.ext e⟩
  | ins C xs => obtain ⟨dx, vs, z, r⟩ := r; exact ⟨dx, vs, z, r.ext e⟩
  | _ => exact r.elim
theorem RO.evo (e : Evo w w') {o : HO} {d : D} (r : RO K w o d) : RO K w' o d := r.ext e.ext

theorem RepL.nil : RepL K w [] [] := ⟨rfl, fun i v x h => by simp at h⟩
theorem RepL.cons {v : V} {x : D} {vs : List V} {xs : List D} (h : Rep K w v x) (t : RepL K w vs xs) : RepL K w (v :: vs) (x :: xs) := ⟨by simp [t.1], fun i a b p q => by
  cases i with
  | zero => simp at p q; subst p; subst q; exact h
  | succ i => simp at p q; exact t.2 i a b p q⟩
theorem RepL.inv {vs : List V} {x : D} {xs : List D} (h : RepL K w vs (x :: xs)) : ∃ v r, vs = v :: r ∧ Rep K w v x ∧ RepL K w r xs := by
  cases vs with
  | nil => simp [RepL] at h
  | cons v r => exact ⟨v, r, rfl, h.2 0 v x rfl rfl, by have := h.1; simpa using this, fun i a b p q => h.2 (i + 1) a b (by simpa using p) (by simpa using q)⟩
theorem RepL.inv0 {vs : List V} (h : RepL K w vs []) : vs = [] := List.length_eq_zero_iff.mp h.1
theorem RepL.append {vs us : List V} {xs ys : List D} (h : RepL K w vs xs) (t : RepL K w us ys) : RepL K w (vs ++ us) (xs ++ ys) := by
  induction xs generalizing vs with
  | nil => rw [h.inv0]; exact t
  | cons x xs ih => obtain ⟨v, r, rfl, a, b⟩ := h.inv; exact .cons a (ih b)
theorem RepL.get {vs : List V} {xs : List D} (h : RepL K w vs xs) {i : Nat} {x : D} (e : xs[i]? = some x) : ∃ v, vs[i]? = some v ∧ Rep K w v x := by
  have hl : i < vs.length := by rw [h.1]; exact (List.getElem?_eq_some_iff.mp e).1
  exact ⟨vs[i], List.getElem?_eq_getElem hl, h.2 i _ x (List.getElem?_eq_getElem hl) e⟩
theorem RepL.of_map {α : Type} {f : α → V} {g : α → D} (h : ∀ a, Rep K w (f a) (g a)) : ∀ l : List α, RepL K w (l.map f) (l.map g)
  | [] => .nil
  | a :: l => .cons (h a) (RepL.of_map h l)
theorem RepL.drop {vs : List V} {xs : List D} (h : RepL K w vs xs) (n : Nat) : RepL K w (vs.drop n) (xs.drop n) := ⟨by simp [h.1], fun i v x a b => h.2 (n + i) v x (by simpa using a) (by simpa using b)⟩
theorem RepL.take {vs : List V} {xs : List D} (h : RepL K w vs xs) (n : Nat) : RepL K w (vs.take n) (xs.take n) := ⟨by simp [h.1], fun i v x a b => by
  by_cases q : i < n
  · rw [List.getElem?_take_of_lt q] at a b; exact h.2 i v x a b
  · rw [List.getElem?_eq_none (by simp; omega)] at a; cases a⟩
theorem RepL.set {vs : List V} {xs : List D} (h : RepL K w vs xs) {v : V} {x : D} (r : Rep K w v x) (n : Nat) : RepL K w (vs.set n v) (xs.set n x) := ⟨by simp [h.1], fun i a b p q => by
  by_cases z : n = i
  · subst z
    have hl : n < vs.length := by have := (List.getElem?_eq_some_iff.mp p).1; simpa using this
    rw [List.getElem?_set_self hl] at p
    rw [List.getElem?_set_self (h.1 ▸ hl)] at q
    cases p; cases q; exact r
  · rw [List.getElem?_set_ne z] at p q; exact h.2 i a b p q⟩
theorem RepL.rev {vs : List V} {xs : List D} (h : RepL K w vs xs) : RepL K w vs.reverse xs.reverse := by
  induction xs generalizing vs with
  | nil => rw [h.inv0]; exact .nil
  | cons x xs ih => obtain ⟨v, r, rfl, a, b⟩ := h.inv; rw [List.reverse_cons, List.reverse_cons]; exact (ih b).append (.cons a .nil)

/-- what is read of a value: its top, by the heap as it stands -/
def Vw (K : PySem.W.Frag) (w : Wd) (v : V) (d : D) : Prop := match d with
  | .non => v = .non
  | .bl b => v = .bl b
  | .int i => v = .int i
  | .str x => v = .str x
  | .tup xs => ∃ a vs, v = .ref a ∧ SqT K w.H a vs ∧ RepL K w vs xs
  | .lst xs => ∃ a vs, v = .ref a ∧ w.H a = some (.lst vs) ∧ RepL K w vs xs
  | .dct xs => ∃ a vs, v = .ref a ∧ Rd w.H a (.dK vs) ∧ RepP K w vs xs
  | .ins C xs => ∃ a dx vs, v = .ref a ∧ w.H a = some (.ins (cA K C) dx vs) ∧ RepP K w vs xs
  | .scr ns => ∃ a, v = .ref a ∧ SqL K w.H a (ns.map V.int)
  | .ty n => v = .ty n
  | .cls n => v = .ref (cA K n)
  | .opq => ∃ a, v = .ref a
  | .exc C xs => ∃ a dd, v = .ref a ∧ w.H a = some (ExK (.ref (cA K C)) dd a) ∧ (match xs with | [] => dd = none | _ => ∃ d vs, dd = some d ∧ w.H d = some (.xd vs) ∧ RepP K w vs xs)
  | .tomb => ∃ a, v = .ref a
  | .ref l => v = .ref (w.ρ l) ∧ l < w.st.length
def deref (st : Store) (d : D) : D := match d with
  | .ref l => st[l]?.getD .non
  | d => d
theorem RO.vw {a : Addr} {o : HO} {d : D} (h : w.H a = some o) (r : RO K w o d) : Vw K w (.ref a) d := by
  cases d with
  | lst xs => obtain ⟨vs, rfl, r⟩ := r; exact ⟨a, vs, rfl, h, r⟩
  | dct xs => obtain ⟨vs, rfl, r⟩ := r; exact ⟨a, vs, rfl, .inl h, r⟩
  | ins C xs => obtain ⟨dx, vs, rfl, r⟩ := r; exact ⟨a, dx, vs, rfl, h, r⟩
  | _ => exact r.elim
theorem Rep.vw (k : Ok K w) {v : V} {d : D} (r : Rep K w v d) : Vw K w v (deref w.st d) := by
  cases r with
  | non => rfl
  | bl => rfl
  | int => rfl
  | str => rfl
  | tup h l z => exact ⟨_, _, rfl, k.sqT h, l, z⟩
  | lst h l z => exact ⟨_, _, rfl, k.ex _ _ h, l, z⟩
  | dct h l z => exact ⟨_, _, rfl, .inr ⟨_, k.ex _ _ h⟩, l, z⟩
  | ins h l z => exact ⟨_, _, _, rfl, k.ex _ _ h, l, z⟩
  | @ref l h =>
    have e : w.st[l]? = some w.st[l] := List.getElem?_eq_getElem h
    obtain ⟨o, ho, q⟩ := k.sto l _ e
    show Vw K w (.ref (w.ρ l)) (w.st[l]?.getD .non)
    rw [e]
    rcases q with q | ⟨_, r⟩
    · show Vw K w _ w.st[l]
      rw [q]; exact ⟨_, rfl⟩
    · exact r.vw ho
  | scr h => exact ⟨_, rfl, k.sqL h⟩
  | ty => rfl
  | cls => rfl
  | opq => exact ⟨_, rfl⟩
  | exc0 h => exact ⟨_, _, rfl, k.ex _ _ h, rfl⟩
  | @exc1 a d' C vs xs h h' ne l z =>
    cases xs with
    | nil => exact absurd rfl ne
    | cons x xs => exact ⟨_, _, rfl, k.ex _ _ h, _, _, rfl, k.ex _ _ h', l, z⟩
end

/-! ### the frame's slots -/
inductive Sl where
  | no | sh (d : D) | ow (d : D)
abbrev DEnv := List Sl
structure Fr (K : PySem.W.Frag) (H0 : Hp) (w : Wd) (Γ : DEnv) (σ : L2.St) : Prop where
  len : σ.length = Γ.length
  sh : ∀ (i : Nat) (d : D), Γ[i]? = some (.sh d) → ∃ v, σ[i]? = some (some v) ∧ Rep K w v d
  ow : ∀ (i : Nat) (d : D), Γ[i]? = some (.ow d) → ∃ a o, σ[i]? = some (some (.ref a)) ∧ w.H a = some o ∧ w.M a = none ∧ H0 a = none ∧ (∀ l, l < w.st.length → w.ρ l ≠ a) ∧ RO K w o d
  dj : ∀ (i j : Nat) (d e : D) (a : Addr), i ≠ j → Γ[i]? = some (.ow d) → Γ[j]? = some (.ow e) → σ[i]? = some (some (.ref a)) → σ[j]? ≠ some (some (.ref a))
section
variable {K : PySem.W.Frag} {w w' : Wd} {H0 : Hp} {Γ : DEnv} {σ : L2.St}
theorem Fr.evo (f : Fr K H0 w Γ σ) (e : Evo w w') : Fr K H0 w' Γ σ where
  len := f.len
  sh := fun i d h => let ⟨v, a, b⟩ := f.sh i d h; ⟨v, a, b.evo e⟩
  ow := fun i d h => by
    obtain ⟨a, o, h1, h2, h3, h4, h5, h6⟩ := f.ow i d h
    refine ⟨a, o, h1, e.keep a o h2 h3 h5, ?_, h4, fun l hl q => ?_, h6.evo e⟩
    · cases q : w'.M a with
      | none => rfl
      | some u => have z := e.newM a u q h3; rw [h2] at z; cases z
    · by_cases z : l < w.st.length
      · exact h5 l z ((e.rho l z).symm.trans q)
      · have y := e.newR l (Nat.le_of_not_lt z) hl
        rw [q, h2] at y; cases y
  dj := f.dj
/-- a slot's value, own or shared: readable now -/
def Den (K : PySem.W.Frag) (w : Wd) (Γ : DEnv) (σ : L2.St) (v : V) (d : D) : Prop := Rep K w v d ∨ ∃ i : Nat, Γ[i]? = some (.ow d) ∧ σ[i]? = some (some v)
theorem Den.evo {v : V} {d : D} (h : Den K w Γ σ v d) (e : Evo w w') : Den K w' Γ σ v d := h.elim (fun r => .inl (r.evo e)) .inr
theorem RO.noref {o : HO} {d : D} (r : RO K w o d) (st : Store) : deref st d = d := by
  cases d <;> first | rfl | exact r.elim
theorem Den.vw (k : Ok K w) (f : Fr K H0 w Γ σ) {v : V} {d : D} (h : Den K w Γ σ v d) : Vw K w v (deref w.st d) := by
  rcases h with r | ⟨i, a, b⟩
  · exact r.vw k
  · obtain ⟨p, o, h1, h2, _, _, _, r⟩ := f.ow i d a
    rw [b] at h1; cases h1
    rw [r.noref]
    exact r.vw h2
end

/-! ### what comes of an expression, a test, a statement -/
structure Xn where
  own : Bool
  C : String
  fs : List (Str × D)
inductive ER where
  | ok (d : D) (st : Store) | err (x : Xn) (st : Store) | no
inductive SR where
  | nx (Γ : DEnv) (st : Store) | ret (d : D) (st : Store) | bk (Γ : DEnv) (st : Store) | ct (Γ : DEnv) (st : Store) | err (x : Xn) (Γ : DEnv) (st : Store) | no
abbrev EM := DEnv → Store → ER
abbrev SM := DEnv → Store → SR

def RepX (K : PySem.W.Frag) (w : Wd) (cls : Value) (dd : Option Addr) (x : Xn) : Prop := cls = (if x.own = true then .ref (cA K x.C) else .type x.C) ∧ match x.fs with
  | [] => dd = none
  | fs => ∃ d gs, dd = some d ∧ w.M d = some (.xd gs) ∧ RepP K w gs fs
def PostE (K : PySem.W.Frag) (w : Wd) (r : ER) (Q : VK) (W : XK) : Prop := match r with
  | .ok d st' => ∀ v w', Evo w w' → Ok K w' → w'.st = st' → Rep K w' v d → Q v w'.H
  | .err x st' => ∀ c dd w', Evo w w' → Ok K w' → w'.st = st' → RepX K w' c dd x → W c dd w'.H
  | .no => False
def PostB (K : PySem.W.Frag) (w : Wd) (Γ : DEnv) (σ : L2.St) (r : ER) (Q : VK) (W : XK) : Prop := match r with
  | .ok d st' => ∀ v w', Evo w w' → Ok K w' → w'.st = st' → Den K w' Γ σ v d → Q v w'.H
  | .err x st' => ∀ c dd w', Evo w w' → Ok K w' → w'.st = st' → RepX K w' c dd x → W c dd w'.H
  | .no => False
def PostT (K : PySem.W.Frag) (w : Wd) (r : ER) (Q : Bool → Hp → Prop) (W : XK) : Prop := match r with
  | .ok (.bl b) st' => ∀ w', Evo w w' → Ok K w' → w'.st = st' → Q b w'.H
  | .ok _ _ => False
  | .err x st' => ∀ c dd w', Evo w w' → Ok K w' → w'.st = st' → RepX K w' c dd x → W c dd w'.H
  | .no => False
def PostA (K : PySem.W.Frag) (w : Wd) (r : ER) (Q : List V → Hp → Prop) (W : XK) : Prop := match r with
  | .ok (.tup ds) st' => ∀ vs w', Evo w w' → Ok K w' → w'.st = st' → RepL K w' vs ds → Q vs w'.H
  | .ok _ _ => False
  | .err x st' => ∀ c dd w', Evo w w' → Ok K w' → w'.st = st' → RepX K w' c dd x → W c dd w'.H
  | .no => False
def PostS (K : PySem.W.Frag) (w0 w : Wd) (r : SR) (D : Ends) (W : WX) : Prop := match r with
  | .nx Γ st' => ∀ w' σ, Evo w0 w' → Ext w w' → Ok K w' → w'.st = st' → Fr K w0.H w' Γ σ → D.nx σ w'.H
  | .bk Γ st' => ∀ w' σ, Evo w0 w' → Ext w w' → Ok K w' → w'.st = st' → Fr K w0.H w' Γ σ → D.bk σ w'.H
  | .ct Γ st' => ∀ w' σ, Evo w0 w' → Ext w w' → Ok K w' → w'.st = st' → Fr K w0.H w' Γ σ → D.ct σ w'.H
  | .ret d st' => ∀ v w', Evo w0 w' → Ok K w' → w'.st = st' → Rep K w' v d → D.rt v w'.H
  | .err x Γ st' => ∀ c dd w' σ, Evo w0 w' → Ext w w' → Ok K w' → w'.st = st' → Fr K w0.H w' Γ σ → RepX K w' c dd x → W c dd σ w'.H
  | .no => False
theorem PostS.shift {K : PySem.W.Frag} {w0 w w' : Wd} (e : Ext w w') {r : SR} {D : Ends} {W : WX} (p : PostS K w0 w r D W) : PostS K w0 w' r D W := by
  cases r with
  | nx Γ st => exact fun w2 σ a b => p w2 σ a (e.trans b)
  | bk Γ st => exact fun w2 σ a b => p w2 σ a (e.trans b)
  | ct Γ st => exact fun w2 σ a b => p w2 σ a (e.trans b)
  | ret d st => exact p
  | err x Γ st => exact fun c dd w2 σ a b => p c dd w2 σ a (e.trans b)
  | no => exact p

abbrev at_ (W : WX) (σ : L2.St) : XK := fun c d H => W c d σ H
def RT (K : PySem.W.Frag) (W : WX) (t : TE) (m : EM) : Prop := ∀ (H0 : Hp) (w : Wd) (Γ : DEnv) (σ : L2.St), Ok K w → Fr K H0 w Γ σ → ∀ Q : VK, PostE K w (m Γ w.st) Q (at_ W σ) → t σ w.H Q
def RB (K : PySem.W.Frag) (W : WX) (t : TE) (m : EM) : Prop := ∀ (H0 : Hp) (w : Wd) (Γ : DEnv) (σ : L2.St), Ok K w → Fr K H0 w Γ σ → ∀ Q : VK, PostB K w Γ σ (m Γ w.st) Q (at_ W σ) → t σ w.H Q
def RTT (K : PySem.W.Frag) (W : WX) (t : TT) (m : EM) : Prop := ∀ (H0 : Hp) (w : Wd) (Γ : DEnv) (σ : L2.St), Ok K w → Fr K H0 w Γ σ → ∀ Q : Bool → Hp → Prop, PostT K w (m Γ w.st) Q (at_ W σ) → t σ w.H Q
def RTA (K : PySem.W.Frag) (W : WX) (t : TA) (m : EM) : Prop := ∀ (H0 : Hp) (w : Wd) (Γ : DEnv) (σ : L2.St), Ok K w → Fr K H0 w Γ σ → ∀ Q : List V → Hp → Prop, PostA K w (m Γ w.st) Q (at_ W σ) → t σ w.H Q
def RTS (K : PySem.W.Frag) (W : WX) (t : TS) (m : SM) : Prop := ∀ (w0 w : Wd) (Γ : DEnv) (σ : L2.St), Evo w0 w → Ok K w → Fr K w0.H w Γ σ → ∀ D : Ends, PostS K w0 w (m Γ w.st) D W → t D σ w.H


/-! ### one after the other -/
def ER.bind (r : ER) (f : D → Store → ER) : ER := match r with
  | .ok d st => f d st
  | .err x st => .err x st
  | .no => .no
def ER.bs (r : ER) (Γ : DEnv) (f : D → Store → SR) : SR := match r with
  | .ok d st => f d st
  | .err x st => .err x Γ st
  | .no => .no
def SR.bind (r : SR) (f : DEnv → Store → SR) : SR := match r with
  | .nx Γ st => f Γ st
  | r => r
@[simp] theorem ok_bind {d : D} {st : Store} {f : D → Store → ER} : (ER.ok d st).bind f = f d st := rfl
@[simp] theorem err_bind {x : Xn} {st : Store} {f : D → Store → ER} : (ER.err x st).bind f = .err x st := rfl
@[simp] theorem no_bind {f : D → Store → ER} : ER.no.bind f = .no := rfl
@[simp] theorem ok_bs {d : D} {st : Store} {Γ : DEnv} {f : D → Store → SR} : (ER.ok d st).bs Γ f = f d st := rfl
@[simp] theorem err_bs {x : Xn} {st : Store} {Γ : DEnv} {f : D → Store → SR} : (ER.err x st).bs Γ f = .err x Γ st := rfl
@[simp] theorem no_bs {Γ : DEnv} {f : D → Store → SR} : ER.no.bs Γ f = .no := rfl
@[simp] theorem nx_bind {Γ : DEnv} {st : Store} {f : DEnv → Store → SR} : (SR.nx Γ st).bind f = f Γ st := rfl
@[simp] theorem ret_bind {d : D} {st : Store} {f : DEnv → Store → SR} : (SR.ret d st).bind f = .ret d st := rfl
@[simp] theorem bk_bind {Γ : DEnv} {st : Store} {f : DEnv → Store → SR} : (SR.bk Γ st).bind f = .bk Γ st := rfl
@[simp] theorem ct_bind {Γ : DEnv} {st : Store} {f : DEnv → Store → SR} : (SR.ct Γ st).bind f = .ct Γ st := rfl
@[simp] theorem errS_bind {x : Xn} {Γ : DEnv} {st : Store} {f : DEnv → Store → SR} : (SR.err x Γ st).bind f = .err x Γ st := rfl
@[simp] theorem noS_bind {f : DEnv → Store → SR} : SR.no.bind f = .no := rfl

section
variable {K : PySem.W.Frag} {W : WX} {w w' : Wd} {H0 : Hp} {Γ : DEnv} {σ : L2.St}
theorem PostE.shift (e : Evo w w') (k : Ok K w') {r : ER} {Q : VK} {E : XK} (p : PostE K w r Q E) : PostE K w' r Q E := by
  cases r with
  | ok d st => exact fun v w2 e2 k2 s r => p v w2 (e.trans k e2) k2 s r
  | err x st => exact fun c dd w2 e2 k2 s r => p c dd w2 (e.trans k e2) k2 s r
  | no => exact p
theorem PostB.shift (e : Evo w w') (k : Ok K w') {r : ER} {Q : VK} {E : XK} (p : PostB K w Γ σ r Q E) : PostB K w' Γ σ r Q E := by
  cases r with
  | ok d st => exact fun v w2 e2 k2 s r => p v w2 (e.trans k e2) k2 s r
  | err x st => exact fun c dd w2 e2 k2 s r => p c dd w2 (e.trans k e2) k2 s r
  | no => exact p
theorem PostT.shift (e : Evo w w') (k : Ok K w') {r : ER} {Q : Bool → Hp → Prop} {E : XK} (p : PostT K w r Q E) : PostT K w' r Q E := by
  cases r with
  | ok d st =>
    cases d with
    | bl b => exact fun w2 e2 k2 s => p w2 (e.trans k e2) k2 s
    | _ => exact p
  | err x st => exact fun c dd w2 e2 k2 s r => p c dd w2 (e.trans k e2) k2 s r
  | no => exact p
theorem PostA.shift (e : Evo w w') (k : Ok K w') {r : ER} {Q : List V → Hp → Prop} {E : XK} (p : PostA K w r Q E) : PostA K w' r Q E := by
  cases r with
  | ok d st =>
    cases d with
    | tup ds => exact fun v w2 e2 k2 s r => p v w2 (e.trans k e2) k2 s r
    | _ => exact p
  | err x st => exact fun c dd w2 e2 k2 s r => p c dd w2 (e.trans k e2) k2 s r
  | no => exact p
/-- what stands still is told at once -/
theorem PostE.now {d : D} {Q : VK} {E : XK} (p : PostE K w (.ok d w.st) Q E) (k : Ok K w) {v : V} (r : Rep K w v d) : Q v w.H := p v w (Evo.refl w) k rfl r
theorem PostB.now {d : D} {Q : VK} {E : XK} (p : PostB K w Γ σ (.ok d w.st) Q E) (k : Ok K w) {v : V} (r : Den K w Γ σ v d) : Q v w.H := p v w (Evo.refl w) k rfl r
theorem PostT.now {b : Bool} {Q : Bool → Hp → Prop} {E : XK} (p : PostT K w (.ok (.bl b) w.st) Q E) (k : Ok K w) : Q b w.H := p w (Evo.refl w) k rfl

/-- a part is evaluated, then g goes on: P is a later want that shifts -/
theorem RT.use {t : TE} {m : EM} (h : RT K W t m) (k : Ok K w) (f : Fr K H0 w Γ σ) {Q : VK} {P : Wd → ER → Prop} {g : D → Store → ER}
    (sh : ∀ w' r, Evo w w' → Ok K w' → P w r → P w' r) (pe : ∀ x st, P w (.err x st) → PostE K w (.err x st) Q (at_ W σ)) (pn : ¬ P w .no)
    (p : P w ((m Γ w.st).bind g)) (q : ∀ d v w', Evo w w' → Ok K w' → Fr K H0 w' Γ σ → Rep K w' v d → P w' (g d w'.st) → Q v w'.H) : t σ w.H Q := by
  refine h H0 w Γ σ k f Q ?_
  cases e : m Γ w.st with
  | ok d st => rw [e] at p; exact fun v w' ev k' s r => q d v w' ev k' (f.evo ev) r (by subst s; exact sh w' _ ev k' p)
  | err x st => rw [e] at p; exact pe x st p
  | no => rw [e] at p; exact (pn p).elim
theorem RB.use {t : TE} {m : EM} (h : RB K W t m) (k : Ok K w) (f : Fr K H0 w Γ σ) {Q : VK} {P : Wd → ER → Prop} {g : D → Store → ER}
    (sh : ∀ w' r, Evo w w' → Ok K w' → P w r → P w' r) (pe : ∀ x st, P w (.err x st) → PostB K w Γ σ (.err x st) Q (at_ W σ)) (pn : ¬ P w .no)
    (p : P w ((m Γ w.st).bind g)) (q : ∀ d v w', Evo w w' → Ok K w' → Fr K H0 w' Γ σ → Den K w' Γ σ v d → P w' (g d w'.st) → Q v w'.H) : t σ w.H Q := by
  refine h H0 w Γ σ k f Q ?_
  cases e : m Γ w.st with
  | ok d st => rw [e] at p; exact fun v w' ev k' s r => q d v w' ev k' (f.evo ev) r (by subst s; exact sh w' _ ev k' p)
  | err x st => rw [e] at p; exact pe x st p
  | no => rw [e] at p; exact (pn p).elim
theorem RTT.use {t : TT} {m : EM} (h : RTT K W t m) (k : Ok K w) (f : Fr K H0 w Γ σ) {Q : Bool → Hp → Prop} {P : Wd → ER → Prop} {g : D → Store → ER}
    (sh : ∀ w' r, Evo w w' → Ok K w' → P w r → P w' r) (pe : ∀ x st, P w (.err x st) → PostT K w (.err x st) Q (at_ W σ)) (pn : ¬ P w .no) (gn : ∀ d st, (∀ b, d ≠ .bl b) → g d st = .no)
    (p : P w ((m Γ w.st).bind g)) (q : ∀ b w', Evo w w' → Ok K w' → Fr K H0 w' Γ σ → P w' (g (.bl b) w'.st) → Q b w'.H) : t σ w.H Q := by
  refine h H0 w Γ σ k f Q ?_
  cases e : m Γ w.st with
  | ok d st =>
    rw [e] at p
    cases d with
    | bl b => exact fun w' ev k' s => q b w' ev k' (f.evo ev) (by subst s; exact sh w' _ ev k' p)
    | _ => rw [ok_bind, gn _ _ (fun b z => by cases z)] at p; exact (pn p).elim
  | err x st => rw [e] at p; exact pe x st p
  | no => rw [e] at p; exact (pn p).elim
theorem RTA.use {t : TA} {m : EM} (h : RTA K W t m) (k : Ok K w) (f : Fr K H0 w Γ σ) {Q : List V → Hp → Prop} {P : Wd → ER → Prop} {g : D → Store → ER}
    (sh : ∀ w' r, Evo w w' → Ok K w' → P w r → P w' r) (pe : ∀ x st, P w (.err x st) → PostA K w (.err x st) Q (at_ W σ)) (pn : ¬ P w .no) (gn : ∀ d st, (∀ b, d ≠ .tup b) → g d st = .no)
    (p : P w ((m Γ w.st).bind g)) (q : ∀ ds vs w', Evo w w' → Ok K w' → Fr K H0 w' Γ σ → RepL K w' vs ds → P w' (g (.tup ds) w'.st) → Q vs w'.H) : t σ w.H Q := by
  refine h H0 w Γ σ k f Q ?_
  cases e : m Γ w.st with
  | ok d st =>
    rw [e] at p
    cases d with
    | tup ds => exact fun vs w' ev k' s r => q ds vs w' ev k' (f.evo ev) r (by subst s; exact sh w' _ ev k' p)
    | _ => rw [ok_bind, gn _ _ (fun b z => by cases z)] at p; exact (pn p).elim
  | err x st => rw [e] at p; exact pe x st p
  | no => rw [e] at p; exact (pn p).elim
end
theorem RT.b {K : PySem.W.Frag} {W : WX} {t : TE} {m : EM} (h : RT K W t m) : RB K W t m := fun H0 w Γ σ k f Q p => h H0 w Γ σ k f Q (by
  cases e : m Γ w.st with
  | ok d st' => rw [e] at p; exact fun v w' a b c r => p v w' a b c (.inl r)
  | err x st' => rw [e] at p; exact p
  | no => rw [e] at p; exact p)
end DL
namespace DL
open PySem L2
section
variable {K : PySem.W.Frag} {W : WX} {w w' w0 : Wd} {H0 : Hp} {Γ : DEnv} {σ : L2.St}
theorem RT.useS {t : TE} {m : EM} (h : RT K W t m) (e0 : Evo w0 w) (k : Ok K w) (f : Fr K w0.H w Γ σ) {Q : VK} {Dn : Ends} {g : D → Store → SR}
    (p : PostS K w0 w ((m Γ w.st).bs Γ g) Dn W) (q : ∀ d v w', Evo w0 w' → Ok K w' → Fr K w0.H w' Γ σ → Rep K w' v d → Ext w w' → PostS K w0 w' (g d w'.st) Dn W → Q v w'.H) : t σ w.H Q := by
  refine h w0.H w Γ σ k f Q ?_
  cases e : m Γ w.st with
  | ok d st => rw [e] at p; exact fun v w' ev k' s r => q d v w' (e0.trans k ev) k' (f.evo ev) r ev.ext (by subst s; exact p.shift ev.ext)
  | err x st => rw [e] at p; exact fun c dd w' ev k' s r => p c dd w' σ (e0.trans k ev) ev.ext k' s (f.evo ev) r
  | no => rw [e] at p; exact p
theorem RB.useS {t : TE} {m : EM} (h : RB K W t m) (e0 : Evo w0 w) (k : Ok K w) (f : Fr K w0.H w Γ σ) {Q : VK} {Dn : Ends} {g : D → Store → SR}
    (p : PostS K w0 w ((m Γ w.st).bs Γ g) Dn W) (q : ∀ d v w', Evo w0 w' → Ok K w' → Fr K w0.H w' Γ σ → Den K w' Γ σ v d → Ext w w' → PostS K w0 w' (g d w'.st) Dn W → Q v w'.H) : t σ w.H Q := by
  refine h w0.H w Γ σ k f Q ?_
  cases e : m Γ w.st with
  | ok d st => rw [e] at p; exact fun v w' ev k' s r => q d v w' (e0.trans k ev) k' (f.evo ev) r ev.ext (by subst s; exact p.shift ev.ext)
  | err x st => rw [e] at p; exact fun c dd w' ev k' s r => p c dd w' σ (e0.trans k ev) ev.ext k' s (f.evo ev) r
  | no => rw [e] at p; exact p
theorem RTT.useS {t : TT} {m : EM} (h : RTT K W t m) (e0 : Evo w0 w) (k : Ok K w) (f : Fr K w0.H w Γ σ) {Q : Bool → Hp → Prop} {Dn : Ends} {g : D → Store → SR}
    (p : PostS K w0 w ((m Γ w.st).bs Γ g) Dn W) (gn : ∀ d st, (∀ b, d ≠ .bl b) → g d st = .no) (q : ∀ b w', Evo w0 w' → Ok K w' → Fr K w0.H w' Γ σ → Ext w w' → PostS K w0 w' (g (.bl b) w'.st) Dn W → Q b w'.H) : t σ w.H Q := by
  refine h w0.H w Γ σ k f Q ?_
  cases e : m Γ w.st with
  | ok d st =>
    rw [e] at p
    cases d with
    | bl b => exact fun w' ev k' s => q b w' (e0.trans k ev) k' (f.evo ev) ev.ext (by subst s; exact p.shift ev.ext)
    | _ => rw [ok_bs, gn _ _ (fun b z => by cases z)] at p; exact p
  | err x st => rw [e] at p; exact fun c dd w' ev k' s r => p c dd w' σ (e0.trans k ev) ev.ext k' s (f.evo ev) r
  | no => rw [e] at p; exact p

/-! ### a new frozen thing -/
theorem Ok.none (k : Ok K w) {p : Addr} (hp : w.H p = Option.none) : w.M p = Option.none := by
  cases q : w.M p with
  | none => rfl
  | some o => rw [k.ex p o q] at hp; cases hp
/-- the world with a frozen object o at p -/
def Wd.fz (w : Wd) (p : Addr) (o : HO) : Wd := { w with M := upd w.M p o, H := upd w.H p o }
theorem evo_fz (k : Ok K w) {p : Addr} (o : HO) (hp : w.H p = Option.none) : Evo w (w.fz p o) where
  mono := fun a u h => by show upd _ _ _ _ = _; rw [upd_ne (ne_of_none h (k.none hp))]; exact h
  rho := fun _ _ => rfl
  le := Nat.le_refl _
  newM := fun a u h n => by
    by_cases q : a = p
    · subst q; exact hp
    · have h' : upd w.M p o a = some u := h
      rw [upd_ne q, n] at h'; cases h'
  newR := fun l h1 h2 => absurd (Nat.lt_of_lt_of_le h2 h1) (Nat.lt_irrefl _)
  keep := fun a u h _ _ => by show upd _ _ _ _ = _; rw [upd_ne (ne_of_none h hp)]; exact h
theorem ok_fz (k : Ok K w) {p : Addr} (o : HO) (hp : w.H p = Option.none) : Ok K (w.fz p o) where
  ex := fun a u h => by
    have h' : upd w.M p o a = some u := h
    show upd w.H p o a = some u
    by_cases q : a = p
    · subst q; rw [upd_same] at h' ⊢; exact h'
    · rw [upd_ne q] at h' ⊢; exact k.ex a u h'
  sto := fun l d h => by
    obtain ⟨u, h1, h2⟩ := k.sto l d h
    have ne : w.ρ l ≠ p := ne_of_none h1 hp
    exact ⟨u, by show upd w.H p o (w.ρ l) = _; rw [upd_ne ne]; exact h1, h2.imp id fun ⟨h2, h3⟩ => ⟨by show upd w.M p o (w.ρ l) = _; rw [upd_ne ne]; exact h2, h3.evo (evo_fz k o hp)⟩⟩
  inj := k.inj
theorem rep_lst {p : Addr} {vs : List V} {xs : List D} (k : Ok K w) (hp : w.H p = Option.none) (r : RepL K w vs xs) : Rep K (w.fz p (.lst vs)) (.ref p) (.lst xs) :=
  have r' := r.evo (evo_fz k (.lst vs) hp)
  .lst (by show upd _ _ _ _ = _; exact upd_same) r'.1 r'.2
theorem rep_tup {p : Addr} {vs : List V} {xs : List D} (k : Ok K w) (hp : w.H p = Option.none) (r : RepL K w vs xs) : Rep K (w.fz p (.tup vs)) (.ref p) (.tup xs) :=
  have r' := r.evo (evo_fz k (.tup vs) hp)
  .tup (.inl (.inl (by show upd _ _ _ _ = _; exact upd_same))) r'.1 r'.2
theorem PostE.lst {st : Store} {xs : List D} {Q : VK} {E : XK} (p : PostE K w (.ok (.lst xs) st) Q E) (s : w.st = st) (k : Ok K w) {vs : List V} (r : RepL K w vs xs) (a : Addr) (ha : w.H a = Option.none) : Q (.ref a) (upd w.H a (.lst vs)) :=
  p (.ref a) (w.fz a (.lst vs)) (evo_fz k _ ha) (ok_fz k _ ha) s (rep_lst k ha r)
theorem PostE.tup {st : Store} {xs : List D} {Q : VK} {E : XK} (p : PostE K w (.ok (.tup xs) st) Q E) (s : w.st = st) (k : Ok K w) {vs : List V} (r : RepL K w vs xs) (a : Addr) (ha : w.H a = Option.none) : Q (.ref a) (upd w.H a (.tup vs)) :=
  p (.ref a) (w.fz a (.tup vs)) (evo_fz k _ ha) (ok_fz k _ ha) s (rep_tup k ha r)
end

/-- a scope, and the names whose cells were made at its entry -/
structure SC where
  s : Scope
  fn : Str → Bool
/-! ### the contexts that a def's body (and its comprehensions) run in -/
structure G (P : Program) (wd : World) (K : PySem.W.Frag) (mg : Str → Option Value) (base : Heap) (k : Nat) (N : List Str) (sc : SC) (W : WX) (X : Cx) : Prop where
  prog : X.prog = P
  wd : X.w = wd
  kk : X.K = K
  mg : X.mg = mg
  bs : X.base = base
  nn : X.N = N
  scp : X.env.scope = sc.s
  calm : X.calm = true
  room : Room k X.A
  grd : Tp X.A X.base
  tk : Takes X W
  pass : PassesOwn (model X.prog X.w) X.A X.env X.xe
  fnc : X.fn = sc.fn
  top : X.fn = (fun _ => true) → X.stack = X.env :: X.outer ∧ X.env.frame = some X.env.locals ∧ X.ex = []
def PR (P : Program) (wd : World) (K : PySem.W.Frag) (mg : Str → Option Value) (base : Heap) (k : Nat) (N : List Str) (sc : SC) (W : WX) (e : Expr) (m : EM) : Prop := ∃ t : TE, (∀ X, G P wd K mg base k N sc W X → PE X e t) ∧ RT K W t m
def PB (P : Program) (wd : World) (K : PySem.W.Frag) (mg : Str → Option Value) (base : Heap) (k : Nat) (N : List Str) (sc : SC) (W : WX) (e : Expr) (m : EM) : Prop := ∃ t : TE, (∀ X, G P wd K mg base k N sc W X → PE X e t) ∧ RB K W t m
def PTt (P : Program) (wd : World) (K : PySem.W.Frag) (mg : Str → Option Value) (base : Heap) (k : Nat) (N : List Str) (sc : SC) (W : WX) (e : Expr) (m : EM) : Prop := ∃ t : TT, (∀ X, G P wd K mg base k N sc W X → PT X e t) ∧ RTT K W t m
def PWt (P : Program) (wd : World) (K : PySem.W.Frag) (mg : Str → Option Value) (base : Heap) (k : Nat) (N : List Str) (sc : SC) (W : WX) (e : Expr) (m : EM) : Prop := ∃ t : TT, (∀ X, G P wd K mg base k N sc W X → PW X e t) ∧ RTT K W t m
def PAr (P : Program) (wd : World) (K : PySem.W.Frag) (mg : Str → Option Value) (base : Heap) (k : Nat) (N : List Str) (sc : SC) (W : WX) (es : List Expr) (m : EM) : Prop := ∃ t : TA, (∀ X, G P wd K mg base k N sc W X → PA X es t) ∧ RTA K W t m
def PSt (P : Program) (wd : World) (K : PySem.W.Frag) (mg : Str → Option Value) (base : Heap) (k : Nat) (N : List Str) (sc : SC) (W : WX) (s : Stmt) (m : SM) : Prop := ∃ t : TS, (∀ X, G P wd K mg base k N sc W X → PS X s t) ∧ RTS K W t m
def PSl (P : Program) (wd : World) (K : PySem.W.Frag) (mg : Str → Option Value) (base : Heap) (k : Nat) (N : List Str) (sc : SC) (W : WX) (ss : List Stmt) (m : SM) : Prop := ∃ t : TS, (∀ X, G P wd K mg base k N sc W X → PSs X ss t) ∧ RTS K W t m

section
variable {P : Program} {wd : World} {K : PySem.W.Frag} {mg : Str → Option Value} {base : Heap} {k : Nat} {N : List Str} {sc : SC} {W : WX}
theorem PR.b {e : Expr} {m : EM} (h : PR P wd K mg base k N sc W e m) : PB P wd K mg base k N sc W e m := let ⟨t, a, b⟩ := h; ⟨t, a, b.b⟩

/-! ### names and constants -/
def eVar (i : Nat) : EM := fun Γ st => match Γ[i]? with
  | some (.sh d) => .ok d st
  | _ => .no
def eVarB (i : Nat) : EM := fun Γ st => match Γ[i]? with
  | some (.sh d) => .ok d st
  | some (.ow d) => .ok d st
  | _ => .no
def eC (d : D) : EM := fun _ st => .ok d st
def VisS (sc : SC) (x : Str) : Prop := Vis sc.s x
theorem pr_var (i : Nat) {x : Str} {pos : Pos} (hN : N[i]? = some x := by rfl) (hv : Vis sc.s x := by first | exact Or.inl rfl | exact Or.inr (Or.inl rfl) | exact Or.inr (Or.inr rfl)) (hd : (x == ("__debug__" : Str)) = false := by decide)
    (hcd : (x == ("__classdict__" : Str)) = false := by decide) : PR P wd K mg base k N sc W (.Name x pos) (eVar i) := by
  refine ⟨tVar i, fun X g => pe_var (by rw [g.nn]; exact hN) (by rw [g.scp]; exact hv) hd hcd, ?_⟩
  intro H0 w Γ σ ok f Q p
  unfold eVar at p
  split at p
  · rename_i d h
    obtain ⟨v, h1, r⟩ := f.sh i d h
    exact ⟨v, h1, p.now ok r⟩
  · exact p.elim
theorem pb_var (i : Nat) {x : Str} {pos : Pos} (hN : N[i]? = some x := by rfl) (hv : Vis sc.s x := by first | exact Or.inl rfl | exact Or.inr (Or.inl rfl) | exact Or.inr (Or.inr rfl)) (hd : (x == ("__debug__" : Str)) = false := by decide)
    (hcd : (x == ("__classdict__" : Str)) = false := by decide) : PB P wd K mg base k N sc W (.Name x pos) (eVarB i) := by
  refine ⟨tVar i, fun X g => pe_var (by rw [g.nn]; exact hN) (by rw [g.scp]; exact hv) hd hcd, ?_⟩
  intro H0 w Γ σ ok f Q p
  unfold eVarB at p
  split at p
  · rename_i d h
    obtain ⟨v, h1, r⟩ := f.sh i d h
    exact ⟨v, h1, p.now ok (.inl r)⟩
  · rename_i d h
    obtain ⟨a, o, h1, _⟩ := f.ow i d h
    exact ⟨_, h1, p.now ok (.inr ⟨i, h, h1⟩)⟩
  · exact p.elim
theorem rt_c {v : V} {d : D} (r : ∀ w, Rep K w v d) : RT K W (tC v) (eC d) := fun H0 w Γ σ ok f Q p => p.now ok (r w)
theorem pr_int {i : Int} {j : Nat} {pos : Pos} : PR P wd K mg base k N sc W (.Constant (.int i) j pos) (eC (.int i)) := ⟨_, fun X g => pe_int, rt_c fun _ => .int⟩
theorem pr_bl {b : Bool} {j : Nat} {pos : Pos} : PR P wd K mg base k N sc W (.Constant (.bool b) j pos) (eC (.bl b)) := ⟨_, fun X g => pe_bl, rt_c fun _ => .bl⟩
theorem pr_non {j : Nat} {pos : Pos} : PR P wd K mg base k N sc W (.Constant .none j pos) (eC .non) := ⟨_, fun X g => pe_non, rt_c fun _ => .non⟩
theorem pr_str {x : Str} {j : Nat} {pos : Pos} : PR P wd K mg base k N sc W (.Constant (.str x) j pos) (eC (.str x)) := ⟨_, fun X g => pe_str, rt_c fun _ => .str⟩
/-- a constant of the module -/
theorem pr_glob {x : Str} {v : V} {d : D} {pos : Pos} (hm : ∃ u, mg x = some u ∧ RelV v u) (r : ∀ w, Rep K w v d) (hg : sc.s.names.lookup x = some .globalImplicit := by rfl) (hd : (x == ("__debug__" : Str)) = false := by decide) :
    PR P wd K mg base k N sc W (.Name x pos) (eC d) := by
  obtain ⟨u, hu, ru⟩ := hm
  exact ⟨tC v, fun X g => pe_glob (by unfold Gl PySem.Env.kindOf; rw [g.scp]; exact hg) (by rw [g.mg]; exact hu) ru hd, rt_c r⟩

/-! ### operators -/
def eOp (f : D → D → Store → ER) (ma mb : EM) : EM := fun Γ st => (ma Γ st).bind fun x s1 => (mb Γ s1).bind fun y s2 => f (deref s2 x) (deref s2 y) s2
/-- what an operation by values wants is had from the data -/
def OpD (K : PySem.W.Frag) (r : R2) (f : D → D → Store → ER) : Prop := ∀ (w : Wd) (x y : V) (dx dy : D) (Q : VK) (E : XK), Ok K w → Vw K w x dx → Vw K w y dy → PostE K w (f dx dy w.st) Q E → r x y w.H Q
theorem OpD.or {r r' : R2} {f g : D → D → Store → ER} {h : D → D → Store → ER} (a : OpD K r f) (b : OpD K r' g) (s : ∀ x y st, h x y st = f x y st ∨ h x y st = g x y st) : OpD K (fun x y H Q => r x y H Q ∨ r' x y H Q) h := fun w x y dx dy Q E k vx vy p => by
  rcases s dx dy w.st with e | e
  · exact .inl (a w x y dx dy Q E k vx vy (by rw [← e]; exact p))
  · exact .inr (b w x y dx dy Q E k vx vy (by rw [← e]; exact p))
theorem rt_op {r : R2} {f : D → D → Store → ER} {ta tb : TE} {ma mb : EM} (h : OpD K r f) (ra : RB K W ta ma) (rb : RB K W tb mb) : RT K W (tOp r ta tb) (eOp f ma mb) := by
  intro H0 w Γ σ ok f0 Q p
  refine ra.use ok f0 (P := fun w r => PostE K w r Q (at_ W σ)) (fun _ _ e k p => p.shift e k) (fun _ _ p => p) (fun p => p) p fun dx x w1 e1 k1 f1 vx p1 => ?_
  refine rb.use k1 f1 (P := fun w r => PostE K w r Q (at_ W σ)) (fun _ _ e k p => p.shift e k) (fun _ _ p => p) (fun p => p) p1 fun dy y w2 e2 k2 f2 vy p2 => ?_
  exact h w2 x y _ _ Q _ k2 ((vx.evo e2).vw k2 f2) (vy.vw k2 f2) p2
theorem pr_op {op : Operator} {r : R2} {f : D → D → Store → ER} {a b : Expr} {ma mb : EM} {pos : Pos} (ho : ∀ X, G P wd K mg base k N sc W X → OpR X (binaryOp op) r) (h : OpD K r f) (ha : PB P wd K mg base k N sc W a ma) (hb : PB P wd K mg base k N sc W b mb) :
    PR P wd K mg base k N sc W (.BinOp a op b pos) (eOp f ma mb) := by
  obtain ⟨ta, pa, ra⟩ := ha
  obtain ⟨tb, pb, rb⟩ := hb
  exact ⟨_, fun X g => pe_op (ho X g) (pa X g) (pb X g), rt_op h ra rb⟩
theorem pr_cmp {op : CmpOp} {r : R2} {f : D → D → Store → ER} {a b : Expr} {ma mb : EM} {pos : Pos} (ho : ∀ X, G P wd K mg base k N sc W X → OpR X (compareOp op) r) (h : OpD K r f) (ha : PB P wd K mg base k N sc W a ma) (hb : PB P wd K mg base k N sc W b mb)
    (hm : behindInMarks op b = false := by first | exact nomark _ | rfl) : PR P wd K mg base k N sc W (.Compare a [op] [b] pos) (eOp f ma mb) := by
  obtain ⟨ta, pa, ra⟩ := ha
  obtain ⟨tb, pb, rb⟩ := hb
  exact ⟨_, fun X g => pe_cmpR (ho X g) (pa X g) (pb X g) hm, rt_op h ra rb⟩
/-- a truth value as a test -/
theorem rtt_test {t : TE} {m : EM} (h : RT K W t m) : RTT K W (tTest t) m := by
  intro H0 w Γ σ ok f Q p
  refine h H0 w Γ σ ok f _ ?_
  cases e : m Γ w.st with
  | ok d st =>
    rw [e] at p
    cases d with
    | bl b => exact fun v w' ev k' s r => by cases r; exact ⟨b, rfl, p w' ev k' s⟩
    | _ => exact p.elim
  | err x st => rw [e] at p; exact p
  | no => rw [e] at p; exact p
theorem pt_cmp' {op : CmpOp} {r : R2} {f : D → D → Store → ER} {a b : Expr} {ma mb : EM} {pos : Pos} (ho : ∀ X, G P wd K mg base k N sc W X → OpR X (compareOp op) r) (h : OpD K r f) (ha : PB P wd K mg base k N sc W a ma) (hb : PB P wd K mg base k N sc W b mb)
    (hm : behindInMarks op b = false := by first | exact nomark _ | rfl) : PTt P wd K mg base k N sc W (.Compare a [op] [b] pos) (eOp f ma mb) := by
  obtain ⟨ta, pa, ra⟩ := ha
  obtain ⟨tb, pb, rb⟩ := hb
  exact ⟨_, fun X g => pt_cmpR (ho X g) (pa X g) (pb X g) hm, rtt_test (rt_op h ra rb)⟩
theorem pt_val' {e : Expr} {m : EM} (h : PR P wd K mg base k N sc W e m) (he : ∀ env whole, isTrue e env whole = (do let v ← whole; standAt e.pos; holding [v] (truthy v)) := by intro _ _; rfl) : PTt P wd K mg base k N sc W e m := by
  obtain ⟨t, p, r⟩ := h
  exact ⟨_, fun X g => pt_val (p X g) (fun whole => he X.env whole), rtt_test r⟩
theorem pt_not' {e : Expr} {m : EM} {pos : Pos} (h : PTt P wd K mg base k N sc W e m) : PTt P wd K mg base k N sc W (.UnaryOp .Not e pos) (fun Γ st => (m Γ st).bind fun d s => match d with | .bl b => .ok (.bl !b) s | _ => .no) := by
  obtain ⟨t, p, r⟩ := h
  refine ⟨_, fun X g => pt_not (p X g), ?_⟩
  intro H0 w Γ σ ok f Q q
  exact r.use ok f (P := fun w r => PostT K w r Q (at_ W σ)) (fun _ _ e k p => p.shift e k) (fun _ _ p => p) (fun p => p) (fun d st hb => by cases d <;> first | rfl | exact absurd rfl (hb _)) q fun b w1 e1 k1 f1 p1 => p1.now k1
end
end DL
namespace DL
open PySem L2
section
variable {P : Program} {wd : World} {K : PySem.W.Frag} {mg : Str → Option Value} {base : Heap} {k : Nat} {N : List Str} {sc : SC} {W : WX}

/-! ### and, or, if as expressions -/
def eAnd (ma mb : EM) : EM := fun Γ st => (ma Γ st).bind fun d s => match d with | .bl true => mb Γ s | .bl false => .ok (.bl false) s | _ => .no
def eOr (ma mb : EM) : EM := fun Γ st => (ma Γ st).bind fun d s => match d with | .bl true => .ok (.bl true) s | .bl false => mb Γ s | _ => .no
def eNot (ma : EM) : EM := fun Γ st => (ma Γ st).bind fun d s => match d with | .bl b => .ok (.bl !b) s | _ => .no
def eIf (mc ma mb : EM) : EM := fun Γ st => (mc Γ st).bind fun d s => match d with | .bl true => ma Γ s | .bl false => mb Γ s | _ => .no
theorem rtt_and {ta tb : TT} {ma mb : EM} (ra : RTT K W ta ma) (rb : RTT K W tb mb) : RTT K W (tAnd ta tb) (eAnd ma mb) := by
  intro H0 w Γ σ ok f Q q
  refine ra.use ok f (P := fun w r => PostT K w r Q (at_ W σ)) (fun _ _ e k p => p.shift e k) (fun _ _ p => p) (fun p => p) (fun d st hb => by cases d <;> first | rfl | exact absurd rfl (hb _)) q fun b w1 e1 k1 f1 p1 => ?_
  cases b with
  | true => exact iteT (rb H0 w1 Γ σ k1 f1 Q p1)
  | false => exact iteF (p1.now k1)
theorem rtt_or {ta tb : TT} {ma mb : EM} (ra : RTT K W ta ma) (rb : RTT K W tb mb) : RTT K W (tOr ta tb) (eOr ma mb) := by
  intro H0 w Γ σ ok f Q q
  refine ra.use ok f (P := fun w r => PostT K w r Q (at_ W σ)) (fun _ _ e k p => p.shift e k) (fun _ _ p => p) (fun p => p) (fun d st hb => by cases d <;> first | rfl | exact absurd rfl (hb _)) q fun b w1 e1 k1 f1 p1 => ?_
  cases b with
  | true => exact iteT (p1.now k1)
  | false => exact iteF (rb H0 w1 Γ σ k1 f1 Q p1)
theorem pw_and1' {a : Expr} {ma : EM} {pos : Pos} (h : PTt P wd K mg base k N sc W a ma) : PWt P wd K mg base k N sc W (.BoolOp .And [a] pos) ma := let ⟨t, p, r⟩ := h; ⟨t, fun X g => pw_and1 (p X g), r⟩
theorem pw_or1' {a : Expr} {ma : EM} {pos : Pos} (h : PTt P wd K mg base k N sc W a ma) : PWt P wd K mg base k N sc W (.BoolOp .Or [a] pos) ma := let ⟨t, p, r⟩ := h; ⟨t, fun X g => pw_or1 (p X g), r⟩
theorem pw_and' {a b : Expr} {rest : List Expr} {ma mb : EM} {pos : Pos} (h : PTt P wd K mg base k N sc W a ma) (h' : PWt P wd K mg base k N sc W (.BoolOp .And (b :: rest) pos) mb) : PWt P wd K mg base k N sc W (.BoolOp .And (a :: b :: rest) pos) (eAnd ma mb) :=
  let ⟨_, p, r⟩ := h; let ⟨_, p', r'⟩ := h'; ⟨_, fun X g => pw_and (p X g) (p' X g), rtt_and r r'⟩
theorem pw_or' {a b : Expr} {rest : List Expr} {ma mb : EM} {pos : Pos} (h : PTt P wd K mg base k N sc W a ma) (h' : PWt P wd K mg base k N sc W (.BoolOp .Or (b :: rest) pos) mb) : PWt P wd K mg base k N sc W (.BoolOp .Or (a :: b :: rest) pos) (eOr ma mb) :=
  let ⟨_, p, r⟩ := h; let ⟨_, p', r'⟩ := h'; ⟨_, fun X g => pw_or (p X g) (p' X g), rtt_or r r'⟩
theorem pt_w {e : Expr} {m : EM} (h : PWt P wd K mg base k N sc W e m) : PTt P wd K mg base k N sc W e m := let ⟨t, p, r⟩ := h; ⟨t, fun X g => (p X g).pt, r⟩
theorem pt_not'' {e : Expr} {m : EM} {pos : Pos} (h : PTt P wd K mg base k N sc W e m) : PTt P wd K mg base k N sc W (.UnaryOp .Not e pos) (eNot m) := pt_not' h
/-- and, or as values -/
theorem pr_one {op : BoolOp} {a : Expr} {ma : EM} {pos : Pos} (h : PR P wd K mg base k N sc W a ma) : PR P wd K mg base k N sc W (.BoolOp op [a] pos) ma := let ⟨t, p, r⟩ := h; ⟨t, fun X g => pe_one (p X g), r⟩
theorem rt_and {ta tb : TE} {ma mb : EM} (ra : RT K W ta ma) (rb : RT K W tb mb) : RT K W (tAndV ta tb) (eAnd ma mb) := by
  intro H0 w Γ σ ok f Q q
  refine ra.use ok f (P := fun w r => PostE K w r Q (at_ W σ)) (fun _ _ e k p => p.shift e k) (fun _ _ p => p) (fun p => p) q fun d v w1 e1 k1 f1 r p1 => ?_
  cases r with
  | @bl b =>
    refine ⟨b, rfl, ?_⟩
    cases b with
    | true => exact iteT (rb H0 w1 Γ σ k1 f1 Q p1)
    | false => exact iteF (p1.now k1 .bl)
  | _ => exact p1.elim
theorem rt_or {ta tb : TE} {ma mb : EM} (ra : RT K W ta ma) (rb : RT K W tb mb) : RT K W (tOrV ta tb) (eOr ma mb) := by
  intro H0 w Γ σ ok f Q q
  refine ra.use ok f (P := fun w r => PostE K w r Q (at_ W σ)) (fun _ _ e k p => p.shift e k) (fun _ _ p => p) (fun p => p) q fun d v w1 e1 k1 f1 r p1 => ?_
  cases r with
  | @bl b =>
    refine ⟨b, rfl, ?_⟩
    cases b with
    | true => exact iteT (p1.now k1 .bl)
    | false => exact iteF (rb H0 w1 Γ σ k1 f1 Q p1)
  | _ => exact p1.elim
theorem rt_not {ta : TE} {ma : EM} (ra : RT K W ta ma) : RT K W (tNotV ta) (eNot ma) := by
  intro H0 w Γ σ ok f Q q
  refine ra.use ok f (P := fun w r => PostE K w r Q (at_ W σ)) (fun _ _ e k p => p.shift e k) (fun _ _ p => p) (fun p => p) q fun d v w1 e1 k1 f1 r p1 => ?_
  cases r with
  | @bl b => exact ⟨b, rfl, p1.now k1 .bl⟩
  | _ => exact p1.elim
theorem pr_and {a b : Expr} {rest : List Expr} {ma mb : EM} {pos : Pos} (h : PR P wd K mg base k N sc W a ma) (h' : PR P wd K mg base k N sc W (.BoolOp .And (b :: rest) pos) mb) : PR P wd K mg base k N sc W (.BoolOp .And (a :: b :: rest) pos) (eAnd ma mb) :=
  let ⟨_, p, r⟩ := h; let ⟨_, p', r'⟩ := h'; ⟨_, fun X g => pe_and (p X g) (p' X g), rt_and r r'⟩
theorem pr_or {a b : Expr} {rest : List Expr} {ma mb : EM} {pos : Pos} (h : PR P wd K mg base k N sc W a ma) (h' : PR P wd K mg base k N sc W (.BoolOp .Or (b :: rest) pos) mb) : PR P wd K mg base k N sc W (.BoolOp .Or (a :: b :: rest) pos) (eOr ma mb) :=
  let ⟨_, p, r⟩ := h; let ⟨_, p', r'⟩ := h'; ⟨_, fun X g => pe_or (p X g) (p' X g), rt_or r r'⟩
theorem pr_not {a : Expr} {ma : EM} {pos : Pos} (h : PR P wd K mg base k N sc W a ma) : PR P wd K mg base k N sc W (.UnaryOp .Not a pos) (eNot ma) :=
  let ⟨_, p, r⟩ := h; ⟨_, fun X g => pe_not (p X g), rt_not r⟩
theorem pr_if {c a b : Expr} {mc ma mb : EM} {pos : Pos} (hc : PTt P wd K mg base k N sc W c mc) (ha : PR P wd K mg base k N sc W a ma) (hb : PR P wd K mg base k N sc W b mb) : PR P wd K mg base k N sc W (.IfExp c a b pos) (eIf mc ma mb) := by
  obtain ⟨tc, pc, rc⟩ := hc
  obtain ⟨ta, pa, ra⟩ := ha
  obtain ⟨tb, pb, rb⟩ := hb
  refine ⟨_, fun X g => pe_ifExp (pc X g) (pa X g) (pb X g), ?_⟩
  intro H0 w Γ σ ok f Q q
  refine RTT.use (P := fun w r => PostE K w r Q (at_ W σ)) rc ok f (fun _ _ e k p => p.shift e k) (fun _ _ p => p) (fun p => p) (fun d st hb => by cases d <;> first | rfl | exact absurd rfl (hb _)) q fun b w1 e1 k1 f1 p1 => ?_
  cases b with
  | true => exact iteT (ra H0 w1 Γ σ k1 f1 Q p1)
  | false => exact iteF (rb H0 w1 Γ σ k1 f1 Q p1)

/-! ### arguments, displays, calls -/
def eNil : EM := fun _ st => .ok (.tup []) st
def eCons (ma mr : EM) : EM := fun Γ st => (ma Γ st).bind fun d s => (mr Γ s).bind fun r s2 => match r with | .tup ds => .ok (.tup (d :: ds)) s2 | _ => .no
theorem pa_nil' : PAr P wd K mg base k N sc W [] eNil := ⟨_, fun X g => pa_nil, fun H0 w Γ σ ok f Q p => p [] w (Evo.refl w) ok rfl .nil⟩
theorem pa_cons' {e : Expr} {es : List Expr} {ma mr : EM} (ha : PR P wd K mg base k N sc W e ma) (hr : PAr P wd K mg base k N sc W es mr) (hs : ∀ env, starEach (e :: es) env = (false, eval e env) :: starEach es env := by intro _; rfl) :
    PAr P wd K mg base k N sc W (e :: es) (eCons ma mr) := by
  obtain ⟨ta, pa, ra⟩ := ha
  obtain ⟨tr, pr, rr⟩ := hr
  refine ⟨_, fun X g => pa_cons (pa X g) (pr X g) (hs X.env), ?_⟩
  intro H0 w Γ σ ok f Q q
  refine RT.use (P := fun w r => PostA K w r Q (at_ W σ)) ra ok f (fun _ _ e k p => p.shift e k) (fun _ _ p => p) (fun p => p) q fun d v w1 e1 k1 f1 r p1 => ?_
  refine RTA.use (P := fun w r => PostA K w r Q (at_ W σ)) rr k1 f1 (fun _ _ e k p => p.shift e k) (fun _ _ p => p) (fun p => p) (fun d st hb => by cases d <;> first | rfl | exact absurd rfl (hb _)) p1 fun ds vs w2 e2 k2 f2 r2 p2 => ?_
  exact p2 (v :: vs) w2 (Evo.refl w2) k2 rfl (.cons (r.evo e2) r2)
def eTup (ms : EM) : EM := fun Γ st => (ms Γ st).bind fun d s => match d with | .tup ds => if ds.length ≤ 16777216 then .ok (.tup ds) s else .no | _ => .no
def eLst (ms : EM) : EM := fun Γ st => (ms Γ st).bind fun d s => match d with | .tup ds => if ds.length ≤ 16777216 then .ok (.lst ds) s else .no | _ => .no
theorem pr_tup {es : List Expr} {ms : EM} {x1 : Nat} {pos : Pos} (h : PAr P wd K mg base k N sc W es ms) : PR P wd K mg base k N sc W (.Tuple es x1 pos) (eTup ms) := by
  obtain ⟨t, p, r⟩ := h
  refine ⟨_, fun X g => pe_tup (p X g), ?_⟩
  intro H0 w Γ σ ok f Q q
  refine RTA.use (P := fun w r => PostE K w r Q (at_ W σ)) r ok f (fun _ _ e k p => p.shift e k) (fun _ _ p => p) (fun p => p) (fun d st hb => by cases d <;> first | rfl | exact absurd rfl (hb _)) q fun ds vs w1 e1 k1 f1 r1 p1 => ?_
  simp only at p1
  split at p1
  · rename_i hl
    exact ⟨by rw [r1.1, sizeLine_eq]; exact hl, fun a ha => p1.tup rfl k1 r1 a ha⟩
  · exact p1.elim
theorem pr_lst {es : List Expr} {ms : EM} {pos : Pos} (h : PAr P wd K mg base k N sc W es ms) : PR P wd K mg base k N sc W (.List es pos) (eLst ms) := by
  obtain ⟨t, p, r⟩ := h
  refine ⟨_, fun X g => pe_lst (p X g), ?_⟩
  intro H0 w Γ σ ok f Q q
  refine RTA.use (P := fun w r => PostE K w r Q (at_ W σ)) r ok f (fun _ _ e k p => p.shift e k) (fun _ _ p => p) (fun p => p) (fun d st hb => by cases d <;> first | rfl | exact absurd rfl (hb _)) q fun ds vs w1 e1 k1 f1 r1 p1 => ?_
  simp only at p1
  split at p1
  · rename_i hl
    exact ⟨by rw [r1.1, sizeLine_eq]; exact hl, fun a ha => p1.lst rfl k1 r1 a ha⟩
  · exact p1.elim

/-- a def of data: what it does of its arguments and the store -/
abbrev DF := List D → Store → ER
def spD (K : PySem.W.Frag) (F : DF) : Sp := fun vs H Q E => ∃ (w : Wd) (ds : List D), w.H = H ∧ Ok K w ∧ RepL K w vs ds ∧ PostE K w (F ds w.st) Q E
structure Fn (P : Program) (wd : World) (K : PySem.W.Frag) (mg : Str → Option Value) (base : Heap) (k : Nat) (x : Str) (F : DF) : Prop where
  ex : ∃ (f : Addr) (fd : FuncData) (ps : List Str), FnG P wd K mg base k f fd ps (spD K F) ∧ mg x = some (.ref f) ∧ PySem.W.keepIn K (.ref f) = true ∧ Binds K fd ps []
def eCall (F : DF) (ms : EM) : EM := fun Γ st => (ms Γ st).bind fun d s => match d with | .tup ds => F ds s | _ => .no
theorem rt_call {F : DF} {t : TA} {ms : EM} (r : RTA K W t ms) : RT K W (tCallS (spD K F) (WE W) t) (eCall F ms) := by
  intro H0 w Γ σ ok f Q q
  refine RTA.use (P := fun w r => PostE K w r Q (at_ W σ)) r ok f (fun _ _ e k p => p.shift e k) (fun _ _ p => p) (fun p => p) (fun d st hb => by cases d <;> first | rfl | exact absurd rfl (hb _)) q fun ds vs w1 e1 k1 f1 r1 p1 => ?_
  exact ⟨w1, ds, rfl, k1, r1, p1⟩
theorem pr_call {j : Nat} {x : Str} {F : DF} {e : Expr} {es : List Expr} {ms : EM} {p pos : Pos} (c : Fn P wd K mg base j x F) (ha : PAr P wd K mg base k N sc W (e :: es) ms) (hk : j ≤ k := by decide) (hg : sc.s.names.lookup x = some .globalImplicit := by rfl)
    (hdb : (x == ("__debug__" : Str)) = false := by decide) (he : ∀ env, starEach (e :: es) env = (false, eval e env) :: starEach es env := by intro _; rfl) (hpl : ∀ env, (backTo pos (starEach es env)).any (·.1) = false := by intro _; rfl) :
    PR P wd K mg base k N sc W (.Call (.Name x p) (e :: es) [] pos) (eCall F ms) := by
  obtain ⟨f, fd, ps, F1, hm, hk1, hb⟩ := c.ex
  obtain ⟨t, pt, r⟩ := ha
  refine ⟨_, fun X g => ?_, rt_call r⟩
  have pa := pt X g
  obtain ⟨rfl, rfl, rfl, rfl, rfl, rfl, hsc, hc, hr, hgd, tk, _, _⟩ := g
  refine ⟨fun pins s σ H Q I want => ?_⟩
  have gl : Gl X x := by unfold Gl PySem.Env.kindOf; rw [hsc]; exact hg
  refine wpAny_Call_Name_kw (ld_glob (Q := _) I gl hm ?_ hdb)
  refine PySem.W.callWith_K (h₀ := X.base) I.ok.mod.kin hk1 (thn (pa.run pos pins s σ H _ I want) ?_) (he X.env) (hpl X.env)
  rintro us s1 ⟨vs, H1, I1, r1, q⟩
  refine ⟨I1.kIn, wpAny_call ?_⟩
  have hl : us.length = ps.length := by rw [← r1.length]; exact F1.len _ _ _ _ q
  have bd := hb s1 us I1.kIn (by rw [List.append_nil]; exact hl)
  rw [List.append_nil] at bd
  exact call_g (E := WE W) F1 ⟨hr.mono hk, hgd⟩ ⟨[] ++ us, []⟩ bd (passAt tk σ) I1 r1 q (fun _ _ z => z) fun _ _ z => z
end
end DL
namespace DL
open PySem L2
section
variable {P : Program} {wd : World} {K : PySem.W.Frag} {mg : Str → Option Value} {base : Heap} {k : Nat} {N : List Str} {sc : SC} {W : WX}

/-! ### statements -/
def sSkip : SM := fun Γ st => .nx Γ st
def sSeq (a b : SM) : SM := fun Γ st => (a Γ st).bind b
def sDrop (m : EM) : SM := fun Γ st => (m Γ st).bs Γ fun _ s => .nx Γ s
def sRet (m : EM) : SM := fun Γ st => (m Γ st).bs Γ fun d s => .ret d s
def sRetN : SM := fun _ st => .ret .non st
def sIf (c : EM) (a b : SM) : SM := fun Γ st => (c Γ st).bs Γ fun d s => match d with | .bl true => a Γ s | .bl false => b Γ s | _ => .no
def sAsg (i : Nat) (m : EM) : SM := fun Γ st => (m Γ st).bs Γ fun d s => .nx (Γ.set i (.sh d)) s
def sBreak : SM := fun Γ st => .bk Γ st
def sCont : SM := fun Γ st => .ct Γ st

theorem fr_set {H0 : Hp} {w : Wd} {Γ : DEnv} {σ : L2.St} (f : Fr K H0 w Γ σ) {v : V} {d : D} (r : Rep K w v d) (i : Nat) : Fr K H0 w (Γ.set i (.sh d)) (σ.set i (some v)) where
  len := by simp [f.len]
  sh := fun j e h => by
    by_cases q : i = j
    · subst q
      have hl : i < Γ.length := by have := (List.getElem?_eq_some_iff.mp h).1; simpa using this
      rw [List.getElem?_set_self hl] at h
      cases h
      exact ⟨v, List.getElem?_set_self (by rw [f.len]; exact hl), r⟩
    · rw [List.getElem?_set_ne q] at h ⊢; exact f.sh j e h
  ow := fun j e h => by
    by_cases q : i = j
    · subst q
      have hl : i < Γ.length := by have := (List.getElem?_eq_some_iff.mp h).1; simpa using this
      rw [List.getElem?_set_self hl] at h
      cases h
    · rw [List.getElem?_set_ne q] at h ⊢; exact f.ow j e h
  dj := fun a b d1 d2 x ne h1 h2 h3 h4 => by
    have na : i ≠ a := fun q => by
      subst q
      have hl : i < Γ.length := by have := (List.getElem?_eq_some_iff.mp h1).1; simpa using this
      rw [List.getElem?_set_self hl] at h1; cases h1
    have nb : i ≠ b := fun q => by
      subst q
      have hl : i < Γ.length := by have := (List.getElem?_eq_some_iff.mp h2).1; simpa using this
      rw [List.getElem?_set_self hl] at h2; cases h2
    rw [List.getElem?_set_ne na] at h1 h3
    rw [List.getElem?_set_ne nb] at h2 h4
    exact f.dj a b d1 d2 x ne h1 h2 h3 h4

theorem ps_nil' : PSl P wd K mg base k N sc W [] sSkip := ⟨_, fun X g => pss_nil, fun w0 w Γ σ e ok f D p => p w σ e (Ext.refl w) ok rfl f⟩
theorem rts_seq {t u : TS} {a b : SM} (ra : RTS K W t a) (rb : RTS K W u b) : RTS K W (tSeq t u) (sSeq a b) := by
  intro w0 w Γ σ e0 ok f Dn p
  refine ra w0 w Γ σ e0 ok f _ ?_
  have p' : PostS K w0 w ((a Γ w.st).bind b) Dn W := p
  cases h : a Γ w.st with
  | nx Γ' st' => rw [h] at p'; exact fun w' σ' e1 x1 k1 s1 f1 => rb w0 w' Γ' σ' e1 k1 f1 Dn (by rw [s1]; exact p'.shift x1)
  | ret d st' => rw [h] at p'; exact p'
  | bk Γ' st' => rw [h] at p'; exact p'
  | ct Γ' st' => rw [h] at p'; exact p'
  | err x Γ' st' => rw [h] at p'; exact p'
  | no => rw [h] at p'; exact p'
theorem ps_cons' {s : Stmt} {ss : List Stmt} {a b : SM} (ha : PSt P wd K mg base k N sc W s a) (hb : PSl P wd K mg base k N sc W ss b) : PSl P wd K mg base k N sc W (s :: ss) (sSeq a b) :=
  let ⟨_, p, r⟩ := ha; let ⟨_, p', r'⟩ := hb; ⟨_, fun X g => pss_cons (p X g) (p' X g), rts_seq r r'⟩
theorem ps_one' {s : Stmt} {a : SM} (ha : PSt P wd K mg base k N sc W s a) : PSl P wd K mg base k N sc W [s] a := let ⟨_, p, r⟩ := ha; ⟨_, fun X g => pss_one (p X g), r⟩
theorem ps_pass' {pos : Pos} : PSt P wd K mg base k N sc W (.Pass pos) sSkip := ⟨_, fun X g => ps_pass, fun w0 w Γ σ e ok f D p => p w σ e (Ext.refl w) ok rfl f⟩
theorem ps_break' {pos : Pos} : PSt P wd K mg base k N sc W (.Break pos) sBreak := ⟨_, fun X g => ps_break, fun w0 w Γ σ e ok f D p => p w σ e (Ext.refl w) ok rfl f⟩
theorem ps_cont' {pos : Pos} : PSt P wd K mg base k N sc W (.Continue pos) sCont := ⟨_, fun X g => ps_continue, fun w0 w Γ σ e ok f D p => p w σ e (Ext.refl w) ok rfl f⟩
theorem ps_expr' {e : Expr} {m : EM} {pos : Pos} (h : PR P wd K mg base k N sc W e m) (hs : ∀ env, swapsWith e none pos.line env = pure false := by intro _; rfl) : PSt P wd K mg base k N sc W (.Expr e pos) (sDrop m) := by
  obtain ⟨t, p, r⟩ := h
  refine ⟨_, fun X g => ps_expr (p X g) (hs X.env), ?_⟩
  intro w0 w Γ σ e0 ok f Dn q
  exact r.useS e0 ok f q fun d v w1 e1 k1 f1 r1 x1 p1 => p1 w1 σ e1 (Ext.refl w1) k1 rfl f1
theorem ps_ret' {e : Expr} {m : EM} {pos : Pos} (h : PR P wd K mg base k N sc W e m) : PSt P wd K mg base k N sc W (.Return (some e) pos) (sRet m) := by
  obtain ⟨t, p, r⟩ := h
  refine ⟨_, fun X g => ps_ret (p X g), ?_⟩
  intro w0 w Γ σ e0 ok f Dn q
  exact r.useS e0 ok f q fun d v w1 e1 k1 f1 r1 x1 p1 => p1 v w1 e1 k1 rfl r1
theorem ps_retN' {pos : Pos} : PSt P wd K mg base k N sc W (.Return none pos) sRetN := ⟨_, fun X g => ps_retN, fun w0 w Γ σ e ok f D p => p .non w e ok rfl .non⟩
theorem ps_if' {c : Expr} {a b : List Stmt} {mc : EM} {ma mb : SM} {pos : Pos} (hc : PTt P wd K mg base k N sc W c mc) (ha : PSl P wd K mg base k N sc W a ma) (hb : PSl P wd K mg base k N sc W b mb) : PSt P wd K mg base k N sc W (.If c a b pos) (sIf mc ma mb) := by
  obtain ⟨tc, pc, rc⟩ := hc
  obtain ⟨ta, pa, ra⟩ := ha
  obtain ⟨tb, pb, rb⟩ := hb
  refine ⟨_, fun X g => ps_if (pc X g) (pa X g) (pb X g), ?_⟩
  intro w0 w Γ σ e0 ok f Dn q
  refine rc.useS e0 ok f q (fun d st hb => by cases d <;> first | rfl | exact absurd rfl (hb _)) fun b w1 e1 k1 f1 x1 p1 => ?_
  cases b with
  | true => exact iteT (ra w0 w1 Γ σ e1 k1 f1 Dn p1)
  | false => exact iteF (rb w0 w1 Γ σ e1 k1 f1 Dn p1)
theorem ps_asg' (i : Nat) {x : Str} {e : Expr} {m : EM} {pos pos' : Pos} (nd : N.Nodup) (h : PR P wd K mg base k N sc W e m) (hi : N[i]? = some x := by rfl) (hx : Loc sc.s x := by first | exact Or.inl rfl | exact Or.inr rfl) (hf : sc.fn x = true ∨ sc.s.names.lookup x = some .local := by first | exact Or.inl rfl | exact Or.inr rfl)
    (hs : ∀ env, swapsWith e (some (.Name x pos')) pos.line env = pure false := by intro _; rfl) (hw : ∀ env, swappedStores [.Name x pos'] e env = pure none := by intro _; rfl) (hn : ∀ env, swapsWithSole [.Name x pos'] e pos.line env = pure false := by intro _; rfl) :
    PSt P wd K mg base k N sc W (.Assign [.Name x pos'] e pos) (sAsg i m) := by
  obtain ⟨t, p, r⟩ := h
  refine ⟨tAsg t (gName i), fun X g => ps_asg (p X g) (pg_name (by rw [g.nn]; exact nd) (by rw [g.nn]; exact hi) (by rw [g.scp]; exact hx) ?_) (hn X.env) (hw X.env), ?_⟩
  · rw [g.fnc, g.scp]; exact hf
  intro w0 w Γ σ e0 ok f Dn q
  exact r.useS e0 ok f q fun d v w1 e1 k1 f1 r1 x1 p1 => p1 w1 _ e1 (Ext.refl w1) k1 rfl (fr_set f1 r1 i)

/-! ### a def -/
def initE (N : List Str) (ds : List D) : DEnv := ds.map Sl.sh ++ List.replicate (N.length - ds.length) Sl.no
def fin (r : SR) : ER := match r with
  | .nx _ st => .ok .non st
  | .ret d st => .ok d st
  | .err x _ st => .err x st
  | _ => .no
def run (N ps : List Str) (m : SM) : DF := fun ds st => if ds.length = ps.length then fin (m (initE N ds) st) else .no
theorem fr_init {w : Wd} {vs : List V} {ds : List D} (r : RepL K w vs ds) (N : List Str) : Fr K w.H w (initE N ds) (L2.start N vs) where
  len := by simp [initE, L2.start, r.1]
  sh := fun i d h => by
    unfold initE at h
    unfold L2.start
    by_cases q : i < ds.length
    · rw [List.getElem?_append_left (by simpa using q), List.getElem?_map] at h
      cases e : ds[i]? with
      | none => rw [e] at h; cases h
      | some d' =>
        rw [e] at h
        cases h
        obtain ⟨v, hv, rv⟩ := r.get e
        refine ⟨v, ?_, rv⟩
        rw [List.getElem?_append_left (by simpa [r.1] using q), List.getElem?_map, hv]
        all_goals rfl
    · rw [List.getElem?_append_right (by simpa using q)] at h
      have := List.mem_of_getElem? h
      simp at this
  ow := fun i d h => by
    unfold initE at h
    have := List.mem_of_getElem? h
    simp at this
  dj := fun i j d e a ne h => by
    unfold initE at h
    have := List.mem_of_getElem? h
    simp at this
/-- a def keeps its promise: it does what its body does of the data -/
theorem def_ok {x qual : Str} {st : Stmt} {f : Addr} {fd : FuncData} {ps : List Str} {m : SM} (F : Fun K x qual st f fd) (S : FnScope N ps (defScope st)) (h : ∀ W : WX, PSl P wd K mg base k N ⟨defScope st, fun _ => true⟩ W (defBody st) m) :
    FnG P wd K mg base (k + 1) f fd ps (spD K (run N ps m)) := by
  refine FnG.mk' F S (fun vs H Q E h => ?_) (fun cdv A outer s H vs Q E hr h' => ?_)
  · obtain ⟨w, ds, rfl, ok, r, p⟩ := h
    unfold run at p
    split at p
    · rename_i q; rw [r.1, q]
    · exact p.elim
  · obtain ⟨w, ds, rfl, ok, r, p⟩ := h'
    unfold run at p
    split at p
    · obtain ⟨t, pt, rt⟩ := h (fun cls d _ H => E cls d H)
      refine ⟨t, pt _ ⟨rfl, rfl, rfl, rfl, rfl, rfl, rfl, rfl, hr.1, hr.2, takes_of rfl rfl rfl rfl, passes_of rfl, rfl, fun _ => ⟨rfl, rfl, rfl⟩⟩, ?_⟩
      refine rt w w _ _ (Evo.refl w) ok (fr_init r N) _ ?_
      cases e : m (initE N ds) w.st with
      | nx Γ st' => rw [e] at p; exact fun w' σ e1 x1 k1 s1 f1 => p .non w' e1 k1 s1 .non
      | ret d st' => rw [e] at p; exact fun v w' e1 k1 s1 r1 => p v w' e1 k1 s1 r1
      | err x Γ st' => rw [e] at p; exact fun c dd w' σ e1 x1 k1 s1 f1 r1 => p c dd w' e1 k1 s1 r1
      | bk Γ st' => rw [e] at p; exact p.elim
      | ct Γ st' => rw [e] at p; exact p.elim
      | no => rw [e] at p; exact p.elim
    · exact p.elim
/-- a def by a function of one's own -/
theorem FnG.as {f : Addr} {fd : FuncData} {ps : List Str} {F F' : DF} (h : FnG P wd K mg base k f fd ps (spD K F)) (e : ∀ ds st, F' ds st ≠ .no → F ds st = F' ds st) : FnG P wd K mg base k f fd ps (spD K F') :=
  h.imp fun vs H Q E ⟨w, ds, a, b, c, p⟩ => ⟨w, ds, a, b, c, by
    rw [e ds w.st]
    · exact p
    · intro z; rw [z] at p; exact p⟩
end
end DL
namespace DL
open PySem L2

theorem PostE.ite {K : PySem.W.Frag} {w : Wd} {c : Prop} [Decidable c] {r : ER} {Q : VK} {E : XK} (p : PostE K w (if c then r else .no) Q E) : c ∧ PostE K w r Q E := by
  by_cases h : c
  · rw [if_pos h] at p; exact ⟨h, p⟩
  · rw [if_neg h] at p; exact p.elim
theorem PostB.ite {K : PySem.W.Frag} {w : Wd} {Γ : DEnv} {σ : L2.St} {c : Prop} [Decidable c] {r : ER} {Q : VK} {E : XK} (p : PostB K w Γ σ (if c then r else .no) Q E) : c ∧ PostB K w Γ σ r Q E := by
  by_cases h : c
  · rw [if_pos h] at p; exact ⟨h, p⟩
  · rw [if_neg h] at p; exact p.elim

/-! ### arithmetic -/
def oAdd : D → D → Store → ER
  | .int i, .int j, st => .ok (.int (i + j)) st
  | .str a, .str b, st => if a.length + b.length ≤ 16777216 then .ok (.str (a ++ b)) st else .no
  | .lst a, .lst b, st => if a.length + b.length ≤ 16777216 then .ok (.lst (a ++ b)) st else .no
  | _, _, _ => .no
def oSub : D → D → Store → ER
  | .int i, .int j, st => .ok (.int (i - j)) st
  | _, _, _ => .no
def oMul : D → D → Store → ER
  | .int i, .int j, st => if (-18446744073709551616 < i ∧ i < 18446744073709551616) ∨ (-18446744073709551616 < j ∧ j < 18446744073709551616) then .ok (.int (i * j)) st else .no
  | _, _, _ => .no
def oFdiv : D → D → Store → ER
  | .int i, .int j, st => if 0 < j ∧ j < 1073741824 then .ok (.int (i / j)) st else .no
  | _, _, _ => .no
def oMod : D → D → Store → ER
  | .int i, .int j, st => if 0 < j then .ok (.int (i % j)) st else .no
  | _, _, _ => .no
def oPow : D → D → Store → ER
  | .int i, .int j, st => if 0 ≤ j ∧ j ≤ 1000000 ∧ i.natAbs < 18446744073709551616 then .ok (.int (i ^ j.toNat)) st else .no
  | _, _, _ => .no
def oLt : D → D → Store → ER
  | .int i, .int j, st => .ok (.bl (decide (i < j))) st
  | .str a, .str b, st => .ok (.bl (decide (a.cps.toList < b.cps.toList))) st
  | _, _, _ => .no
def oGt : D → D → Store → ER
  | .int i, .int j, st => .ok (.bl (decide (j < i))) st
  | .str a, .str b, st => .ok (.bl (decide (b.cps.toList < a.cps.toList))) st
  | _, _, _ => .no
def oLe : D → D → Store → ER
  | .int i, .int j, st => .ok (.bl (decide (i ≤ j))) st
  | .str a, .str b, st => .ok (.bl (!decide (b.cps.toList < a.cps.toList))) st
  | _, _, _ => .no
def oGe : D → D → Store → ER
  | .int i, .int j, st => .ok (.bl (decide (j ≤ i))) st
  | .str a, .str b, st => .ok (.bl (!decide (a.cps.toList < b.cps.toList))) st
  | _, _, _ => .no
def oIsN : D → D → Store → ER
  | .non, .non, st => .ok (.bl true) st
  | _, .non, st => .ok (.bl false) st
  | _, _, _ => .no
def oNotN : D → D → Store → ER
  | .non, .non, st => .ok (.bl false) st
  | _, .non, st => .ok (.bl true) st
  | _, _, _ => .no

section
variable {P : Program} {wd : World} {K : PySem.W.Frag} {mg : Str → Option Value} {base : Heap} {k : Nat} {N : List Str} {sc : SC} {W : WX}
def rOr (r r' : R2) : R2 := fun x y H Q => r x y H Q ∨ r' x y H Q
theorem OpR.or' {X : Cx} {f : Value → Value → Sem Value} {r r' : R2} (h : OpR X f r) (h' : OpR X f r') : OpR X f (rOr r r') := OpR.or h h'
theorem pr_add {a b : Expr} {ma mb : EM} {pos : Pos} (ha : PB P wd K mg base k N sc W a ma) (hb : PB P wd K mg base k N sc W b mb) : PR P wd K mg base k N sc W (.BinOp a .Add b pos) (eOp oAdd ma mb) :=
  pr_op (fun X g => OpR.or' op_add (OpR.or' op_add_str op_cat)) (fun w x y dx dy Q E k vx vy p => by
    cases dx <;> cases dy <;> try exact p.elim
    case int.int i j => obtain rfl := vx; obtain rfl := vy; exact .inl ⟨i, j, rfl, rfl, p.now k .int⟩
    case str.str a b => obtain rfl := vx; obtain rfl := vy; obtain ⟨h, p⟩ := PostE.ite p; exact .inr (.inl ⟨a, b, rfl, rfl, by rw [sizeLine_eq]; exact h, p.now k .str⟩)
    case lst.lst a b =>
      obtain ⟨p1, vs, rfl, h1, r1⟩ := vx; obtain ⟨p2, us, rfl, h2, r2⟩ := vy
      obtain ⟨h, p⟩ := PostE.ite p
      exact .inr (.inr ⟨p1, p2, vs, us, rfl, rfl, h1, h2, by rw [sizeLine_eq, r1.1, r2.1]; exact h, fun c hc => p.lst rfl k (r1.append r2) c hc⟩)) ha hb
theorem pr_sub {a b : Expr} {ma mb : EM} {pos : Pos} (ha : PB P wd K mg base k N sc W a ma) (hb : PB P wd K mg base k N sc W b mb) : PR P wd K mg base k N sc W (.BinOp a .Sub b pos) (eOp oSub ma mb) :=
  pr_op (fun X g => op_sub) (fun w x y dx dy Q E k vx vy p => by
    cases dx <;> cases dy <;> try exact p.elim
    case int.int i j => obtain rfl := vx; obtain rfl := vy; exact ⟨i, j, rfl, rfl, p.now k .int⟩) ha hb
theorem pr_mul {a b : Expr} {ma mb : EM} {pos : Pos} (ha : PB P wd K mg base k N sc W a ma) (hb : PB P wd K mg base k N sc W b mb) : PR P wd K mg base k N sc W (.BinOp a .Mult b pos) (eOp oMul ma mb) :=
  pr_op (fun X g => op_mul) (fun w x y dx dy Q E k vx vy p => by
    cases dx <;> cases dy <;> try exact p.elim
    case int.int i j => obtain rfl := vx; obtain rfl := vy; obtain ⟨h, p⟩ := PostE.ite p; exact ⟨i, j, rfl, rfl, h, p.now k .int⟩) ha hb
theorem pr_fdiv {a b : Expr} {ma mb : EM} {pos : Pos} (ha : PB P wd K mg base k N sc W a ma) (hb : PB P wd K mg base k N sc W b mb) : PR P wd K mg base k N sc W (.BinOp a .FloorDiv b pos) (eOp oFdiv ma mb) :=
  pr_op (fun X g => op_fdiv) (fun w x y dx dy Q E k vx vy p => by
    cases dx <;> cases dy <;> try exact p.elim
    case int.int i j => obtain rfl := vx; obtain rfl := vy; obtain ⟨h, p⟩ := PostE.ite p; exact ⟨i, j, rfl, rfl, h, p.now k .int⟩) ha hb
theorem pr_mod {a b : Expr} {ma mb : EM} {pos : Pos} (ha : PB P wd K mg base k N sc W a ma) (hb : PB P wd K mg base k N sc W b mb) : PR P wd K mg base k N sc W (.BinOp a .Mod b pos) (eOp oMod ma mb) :=
  pr_op (fun X g => op_mod) (fun w x y dx dy Q E k vx vy p => by
    cases dx <;> cases dy <;> try exact p.elim
    case int.int i j => obtain rfl := vx; obtain rfl := vy; obtain ⟨h, p⟩ := PostE.ite p; exact ⟨i, j, rfl, rfl, h, p.now k .int⟩) ha hb
theorem pr_pow {a b : Expr} {ma mb : EM} {pos : Pos} (ha : PB P wd K mg base k N sc W a ma) (hb : PB P wd K mg base k N sc W b mb) : PR P wd K mg base k N sc W (.BinOp a .Pow b pos) (eOp oPow ma mb) :=
  pr_op (fun X g => op_pow) (fun w x y dx dy Q E k vx vy p => by
    cases dx <;> cases dy <;> try exact p.elim
    case int.int i j => obtain rfl := vx; obtain rfl := vy; obtain ⟨h, p⟩ := PostE.ite p; exact ⟨i, j, rfl, rfl, h, p.now k .int⟩) ha hb

/-! ### comparisons: the rule, what it wants of the data -/
theorem od_lt : OpD K (rOr (rI0 fun i j => .bl (decide (i < j))) (fun x y H Q => ∃ i j, x = .str i ∧ y = .str j ∧ Q (.bl (decide (i.cps.toList < j.cps.toList))) H)) oLt := fun w x y dx dy Q E k vx vy p => by
  cases dx <;> cases dy <;> try exact p.elim
  case int.int i j => obtain rfl := vx; obtain rfl := vy; exact .inl ⟨i, j, rfl, rfl, p.now k .bl⟩
  case str.str i j => obtain rfl := vx; obtain rfl := vy; exact .inr ⟨i, j, rfl, rfl, p.now k .bl⟩
theorem od_gt : OpD K (rOr (rI0 fun i j => .bl (decide (j < i))) (fun x y H Q => ∃ i j, x = .str i ∧ y = .str j ∧ Q (.bl (decide (j.cps.toList < i.cps.toList))) H)) oGt := fun w x y dx dy Q E k vx vy p => by
  cases dx <;> cases dy <;> try exact p.elim
  case int.int i j => obtain rfl := vx; obtain rfl := vy; exact .inl ⟨i, j, rfl, rfl, p.now k .bl⟩
  case str.str i j => obtain rfl := vx; obtain rfl := vy; exact .inr ⟨i, j, rfl, rfl, p.now k .bl⟩
theorem od_le : OpD K (rOr (rI0 fun i j => .bl (decide (i ≤ j))) (fun x y H Q => ∃ i j, x = .str i ∧ y = .str j ∧ Q (.bl (!decide (j.cps.toList < i.cps.toList))) H)) oLe := fun w x y dx dy Q E k vx vy p => by
  cases dx <;> cases dy <;> try exact p.elim
  case int.int i j => obtain rfl := vx; obtain rfl := vy; exact .inl ⟨i, j, rfl, rfl, p.now k .bl⟩
  case str.str i j => obtain rfl := vx; obtain rfl := vy; exact .inr ⟨i, j, rfl, rfl, p.now k .bl⟩
theorem od_ge : OpD K (rOr (rI0 fun i j => .bl (decide (j ≤ i))) (fun x y H Q => ∃ i j, x = .str i ∧ y = .str j ∧ Q (.bl (!decide (i.cps.toList < j.cps.toList))) H)) oGe := fun w x y dx dy Q E k vx vy p => by
  cases dx <;> cases dy <;> try exact p.elim
  case int.int i j => obtain rfl := vx; obtain rfl := vy; exact .inl ⟨i, j, rfl, rfl, p.now k .bl⟩
  case str.str i j => obtain rfl := vx; obtain rfl := vy; exact .inr ⟨i, j, rfl, rfl, p.now k .bl⟩
theorem Vw.nn {w : Wd} {x : V} {dx : D} (v : Vw K w x dx) : decide (x = .non) = (match dx with | .non => true | _ => false) := by
  cases dx with
  | non => obtain rfl := v; rfl
  | bl b => obtain rfl := v; rfl
  | int b => obtain rfl := v; rfl
  | str b => obtain rfl := v; rfl
  | ty b => obtain rfl := v; rfl
  | cls b => obtain rfl := v; rfl
  | opq => obtain ⟨_, rfl⟩ := v; rfl
  | tomb => obtain ⟨_, rfl⟩ := v; rfl
  | exc C xs => obtain ⟨_, _, rfl, _⟩ := v; rfl
  | tup xs => obtain ⟨_, _, rfl, _⟩ := v; rfl
  | lst xs => obtain ⟨_, _, rfl, _⟩ := v; rfl
  | dct xs => obtain ⟨_, _, rfl, _⟩ := v; rfl
  | ins C xs => obtain ⟨_, _, _, rfl, _⟩ := v; rfl
  | ref l => obtain ⟨rfl, _⟩ := v; rfl
  | scr ns => obtain ⟨_, rfl, _⟩ := v; rfl
theorem od_isN : OpD K (fun x y H Q => y = .non ∧ Q (.bl (decide (x = .non))) H) oIsN := fun w x y dx dy Q E k vx vy p => by
  have e := vx.nn
  cases dy <;> try (cases dx <;> exact p.elim)
  obtain rfl := vy
  show V.non = V.non ∧ Q (.bl (decide (x = .non))) w.H
  rw [e]
  refine ⟨rfl, ?_⟩
  cases dx <;> exact p.now k .bl
theorem od_notN : OpD K (fun x y H Q => y = .non ∧ Q (.bl (!decide (x = .non))) H) oNotN := fun w x y dx dy Q E k vx vy p => by
  have e := vx.nn
  cases dy <;> try (cases dx <;> exact p.elim)
  obtain rfl := vy
  show V.non = V.non ∧ Q (.bl (!decide (x = .non))) w.H
  rw [e]
  refine ⟨rfl, ?_⟩
  cases dx <;> exact p.now k .bl

/-! ### data -/
mutual
def D.py : D → Option PyData
  | .non => some .none
  | .bl b => some (.bool b)
  | .int i => some (.int i)
  | .str x => some (.str x)
  | .lst xs => (D.pyL xs).map .list
  | .tup xs => (D.pyL xs).map .tuple
  | _ => none
def D.pyL : List D → Option (List PyData)
  | [] => some []
  | x :: xs => match D.py x, D.pyL xs with
    | some d, some ds => some (d :: ds)
    | _, _ => none
end
mutual
theorem rep_dp {w : Wd} (k : Ok K w) : ∀ (d : D) (v : V) (e : PyData), Rep K w v d → d.py = some e → Dp K w.H v e
  | .non, _, _, r, h => by cases r; cases h; exact .non
  | .bl b, _, _, r, h => by cases r; cases h; exact .bl b
  | .int i, _, _, r, h => by cases r; cases h; exact .int i
  | .str x, _, _, r, h => by cases r; cases h; exact .str x
  | .lst xs, _, _, r, h => by
    cases r with
    | lst m l z =>
      cases q : D.pyL xs with
      | none => simp [D.py, q] at h
      | some es =>
        simp only [D.py, q, Option.map_some, Option.some.injEq] at h
        subst h
        exact .lst (SqL.of (k.ex _ _ m)) (repL_dp k xs _ es ⟨l, z⟩ q)
  | .tup xs, _, _, r, h => by
    cases r with
    | tup m l z =>
      cases q : D.pyL xs with
      | none => simp [D.py, q] at h
      | some es =>
        simp only [D.py, q, Option.map_some, Option.some.injEq] at h
        subst h
        exact .tup (k.sqT m) (repL_dp k xs _ es ⟨l, z⟩ q)
  | .dct _, _, _, _, h => by simp [D.py] at h
  | .ins _ _, _, _, _, h => by simp [D.py] at h
  | .ref _, _, _, _, h => by simp [D.py] at h
  | .scr _, _, _, _, h => by simp [D.py] at h
  | .ty _, _, _, _, h => by simp [D.py] at h
  | .cls _, _, _, _, h => by simp [D.py] at h
  | .opq, _, _, _, h => by simp [D.py] at h
  | .tomb, _, _, _, h => by simp [D.py] at h
  | .exc _ _, _, _, _, h => by simp [D.py] at h
theorem repL_dp {w : Wd} (k : Ok K w) : ∀ (ds : List D) (vs : List V) (es : List PyData), RepL K w vs ds → D.pyL ds = some es → DpAll K w.H vs es
  | [], _, _, r, h => by rw [r.inv0]; simp only [D.pyL, Option.some.injEq] at h; subst h; exact .nil
  | d :: ds, _, _, r, h => by
    obtain ⟨v, vs, rfl, r1, r2⟩ := r.inv
    unfold D.pyL at h
    cases q1 : D.py d with
    | none => rw [q1] at h; cases h
    | some e =>
      cases q2 : D.pyL ds with
      | none => rw [q1, q2] at h; cases h
      | some es =>
        rw [q1, q2] at h
        cases h
        exact .cons (rep_dp k d v e r1 q1) (repL_dp k ds vs es r2 q2)
end
/-- .. read -/
theorem vw_dp {w : Wd} (k : Ok K w) {d : D} {v : V} {e : PyData} (r : Vw K w v d) (h : d.py = some e) : Dp K w.H v e := by
  cases d with
  | non => obtain rfl := r; cases h; exact .non
  | bl b => obtain rfl := r; cases h; exact .bl b
  | int i => obtain rfl := r; cases h; exact .int i
  | str x => obtain rfl := r; cases h; exact .str x
  | lst xs =>
    obtain ⟨a, vs, rfl, m, z⟩ := r
    cases q : D.pyL xs with
    | none => simp [D.py, q] at h
    | some es =>
      simp only [D.py, q, Option.map_some, Option.some.injEq] at h
      subst h
      exact .lst (SqL.of m) (repL_dp k xs _ es z q)
  | tup xs =>
    obtain ⟨a, vs, rfl, m, z⟩ := r
    cases q : D.pyL xs with
    | none => simp [D.py, q] at h
    | some es =>
      simp only [D.py, q, Option.map_some, Option.some.injEq] at h
      subst h
      exact .tup m (repL_dp k xs _ es z q)
  | _ => simp [D.py] at h
/-- scalars -/
def sclEq : D → D → Option Bool
  | .int i, .int j => some (decide (i = j))
  | .str i, .str j => some (decide (i = j))
  | .bl i, .bl j => some (decide (i = j))
  | .non, .non => some true
  | .non, .int _ => some false
  | .int _, .non => some false
  | .non, .bl _ => some false
  | .bl _, .non => some false
  | .non, .str _ => some false
  | .str _, .non => some false
  | .int _, .str _ => some false
  | .str _, .int _ => some false
  | .bl _, .str _ => some false
  | .str _, .bl _ => some false
  | _, _ => none
def pyEq (x y : D) : Option Bool := match x.py, y.py with
  | some a, some b => if SeqAt.shaped a = true ∧ SeqAt.shaped b = true then some (PyData.eqv a b) else none
  | _, _ => none
/-- are they equal (none: no rule) -/
def dEq (x y : D) : Option Bool := match sclEq x y with
  | some b => some b
  | none => pyEq x y
def oEq : D → D → Store → ER := fun x y st => match dEq x y with
  | some b => .ok (.bl b) st
  | none => .no
def oNe : D → D → Store → ER := fun x y st => match dEq x y with
  | some b => .ok (.bl !b) st
  | none => .no
theorem pyEq_inv {x y : D} {b : Bool} (h : pyEq x y = some b) : ∃ a c, x.py = some a ∧ y.py = some c ∧ SeqAt.shaped a = true ∧ SeqAt.shaped c = true ∧ b = PyData.eqv a c := by
  unfold pyEq at h
  split at h
  · rename_i a c ha hc
    split at h
    · rename_i q; cases h; exact ⟨a, c, ha, hc, q.1, q.2, rfl⟩
    · cases h
  · cases h
theorem sclEq_inv {w : Wd} {x y : V} {dx dy : D} {b : Bool} (vx : Vw K w x dx) (vy : Vw K w y dy) (h : sclEq dx dy = some b) : scal x y = true ∧ decide (x = y) = b := by
  cases dx <;> cases dy <;> cases h
  all_goals (obtain rfl := vx; obtain rfl := vy; refine ⟨rfl, ?_⟩; simp)
theorem od_eq : OpD K (rOr rEq (rEqD K)) oEq := fun w x y dx dy Q E k vx vy p => by
  unfold oEq dEq at p
  cases h : sclEq dx dy with
  | some b =>
    rw [h] at p
    obtain ⟨e1, e2⟩ := sclEq_inv vx vy h
    exact .inl ⟨e1, by rw [e2]; exact p.now k .bl⟩
  | none =>
    rw [h] at p
    dsimp only at p
    cases h2 : pyEq dx dy with
    | none => rw [h2] at p; exact p.elim
    | some b =>
      rw [h2] at p
      obtain ⟨a, c, ha, hc, sa, sc, rfl⟩ := pyEq_inv h2
      exact .inr ⟨a, c, vw_dp k vx ha, vw_dp k vy hc, sa, sc, p.now k .bl⟩
theorem od_ne : OpD K (rOr rNe (rNeD K)) oNe := fun w x y dx dy Q E k vx vy p => by
  unfold oNe dEq at p
  cases h : sclEq dx dy with
  | some b =>
    rw [h] at p
    obtain ⟨e1, e2⟩ := sclEq_inv vx vy h
    exact .inl ⟨e1, by rw [e2]; exact p.now k .bl⟩
  | none =>
    rw [h] at p
    dsimp only at p
    cases h2 : pyEq dx dy with
    | none => rw [h2] at p; exact p.elim
    | some b =>
      rw [h2] at p
      obtain ⟨a, c, ha, hc, sa, sc, rfl⟩ := pyEq_inv h2
      exact .inr ⟨a, c, vw_dp k vx ha, vw_dp k vy hc, sa, sc, p.now k .bl⟩
end
end DL
namespace DL
open PySem L2
section
variable {P : Program} {wd : World} {K : PySem.W.Frag} {mg : Str → Option Value} {base : Heap} {k : Nat} {N : List Str} {sc : SC} {W : WX}

/-! ### arguments that are read (of built-ins) -/
def DenL (K : PySem.W.Frag) (w : Wd) (Γ : DEnv) (σ : L2.St) (vs : List V) (ds : List D) : Prop := vs.length = ds.length ∧ ∀ (i : Nat) (v : V) (d : D), vs[i]? = some v → ds[i]? = some d → Den K w Γ σ v d
def VwL (K : PySem.W.Frag) (w : Wd) (vs : List V) (ds : List D) : Prop := vs.length = ds.length ∧ ∀ (i : Nat) (v : V) (d : D), vs[i]? = some v → ds[i]? = some d → Vw K w v d
theorem DenL.nil {w : Wd} {Γ : DEnv} {σ : L2.St} : DenL K w Γ σ [] [] := ⟨rfl, fun i v d h => by simp at h⟩
theorem DenL.cons {w : Wd} {Γ : DEnv} {σ : L2.St} {v : V} {d : D} {vs : List V} {ds : List D} (h : Den K w Γ σ v d) (t : DenL K w Γ σ vs ds) : DenL K w Γ σ (v :: vs) (d :: ds) := ⟨by simp [t.1], fun i a b p q => by
  cases i with
  | zero => simp at p q; subst p; subst q; exact h
  | succ i => simp at p q; exact t.2 i a b p q⟩
theorem DenL.evo {w w' : Wd} {Γ : DEnv} {σ : L2.St} {vs : List V} {ds : List D} (h : DenL K w Γ σ vs ds) (e : Evo w w') : DenL K w' Γ σ vs ds := ⟨h.1, fun i v d a b => (h.2 i v d a b).evo e⟩
theorem DenL.vw {H0 : Hp} {w : Wd} {Γ : DEnv} {σ : L2.St} {vs : List V} {ds : List D} (k : Ok K w) (f : Fr K H0 w Γ σ) (h : DenL K w Γ σ vs ds) : VwL K w vs (ds.map (deref w.st)) := ⟨by simp [h.1], fun i v d a b => by
  rw [List.getElem?_map] at b
  cases e : ds[i]? with
  | none => rw [e] at b; cases b
  | some d' => rw [e] at b; cases b; exact (h.2 i v d' a e).vw k f⟩
theorem VwL.inv {w : Wd} {vs : List V} {d : D} {ds : List D} (h : VwL K w vs (d :: ds)) : ∃ v r, vs = v :: r ∧ Vw K w v d ∧ VwL K w r ds := by
  cases vs with
  | nil => simp [VwL] at h
  | cons v r => exact ⟨v, r, rfl, h.2 0 v d rfl rfl, by have := h.1; simpa using this, fun i a b p q => h.2 (i + 1) a b (by simpa using p) (by simpa using q)⟩
theorem VwL.inv0 {w : Wd} {vs : List V} (h : VwL K w vs []) : vs = [] := List.length_eq_zero_iff.mp h.1
theorem VwL.one {w : Wd} {vs : List V} {d : D} (h : VwL K w vs [d]) : ∃ v, vs = [v] ∧ Vw K w v d := by obtain ⟨v, r, rfl, a, b⟩ := h.inv; rw [b.inv0]; exact ⟨v, rfl, a⟩
theorem VwL.two {w : Wd} {vs : List V} {d e : D} (h : VwL K w vs [d, e]) : ∃ v u, vs = [v, u] ∧ Vw K w v d ∧ Vw K w u e := by obtain ⟨v, r, rfl, a, b⟩ := h.inv; obtain ⟨u, rfl, c⟩ := b.one; exact ⟨v, u, rfl, a, c⟩
def PostAB (K : PySem.W.Frag) (w : Wd) (Γ : DEnv) (σ : L2.St) (r : ER) (Q : List V → Hp → Prop) (W : XK) : Prop := match r with
  | .ok (.tup ds) st' => ∀ vs w', Evo w w' → Ok K w' → w'.st = st' → DenL K w' Γ σ vs ds → Q vs w'.H
  | .ok _ _ => False
  | .err x st' => ∀ c dd w', Evo w w' → Ok K w' → w'.st = st' → RepX K w' c dd x → W c dd w'.H
  | .no => False
theorem PostAB.shift {w w' : Wd} {Γ : DEnv} {σ : L2.St} (e : Evo w w') (k : Ok K w') {r : ER} {Q : List V → Hp → Prop} {E : XK} (p : PostAB K w Γ σ r Q E) : PostAB K w' Γ σ r Q E := by
  cases r with
  | ok d st =>
    cases d with
    | tup ds => exact fun v w2 e2 k2 s r => p v w2 (e.trans k e2) k2 s r
    | _ => exact p
  | err x st => exact fun c dd w2 e2 k2 s r => p c dd w2 (e.trans k e2) k2 s r
  | no => exact p
def RTAB (K : PySem.W.Frag) (W : WX) (t : TA) (m : EM) : Prop := ∀ (H0 : Hp) (w : Wd) (Γ : DEnv) (σ : L2.St), Ok K w → Fr K H0 w Γ σ → ∀ Q : List V → Hp → Prop, PostAB K w Γ σ (m Γ w.st) Q (at_ W σ) → t σ w.H Q
theorem RTAB.use {w : Wd} {H0 : Hp} {Γ : DEnv} {σ : L2.St} {t : TA} {m : EM} (h : RTAB K W t m) (k : Ok K w) (f : Fr K H0 w Γ σ) {Q : List V → Hp → Prop} {P : Wd → ER → Prop} {g : D → Store → ER}
    (sh : ∀ w' r, Evo w w' → Ok K w' → P w r → P w' r) (pe : ∀ x st, P w (.err x st) → PostAB K w Γ σ (.err x st) Q (at_ W σ)) (pn : ¬ P w .no) (gn : ∀ d st, (∀ b, d ≠ .tup b) → g d st = .no)
    (p : P w ((m Γ w.st).bind g)) (q : ∀ ds vs w', Evo w w' → Ok K w' → Fr K H0 w' Γ σ → DenL K w' Γ σ vs ds → P w' (g (.tup ds) w'.st) → Q vs w'.H) : t σ w.H Q := by
  refine h H0 w Γ σ k f Q ?_
  cases e : m Γ w.st with
  | ok d st =>
    rw [e] at p
    cases d with
    | tup ds => exact fun vs w' ev k' s r => q ds vs w' ev k' (f.evo ev) r (by subst s; exact sh w' _ ev k' p)
    | _ => rw [ok_bind, gn _ _ (fun b z => by cases z)] at p; exact (pn p).elim
  | err x st => rw [e] at p; exact pe x st p
  | no => rw [e] at p; exact (pn p).elim
def PAb (P : Program) (wd : World) (K : PySem.W.Frag) (mg : Str → Option Value) (base : Heap) (k : Nat) (N : List Str) (sc : SC) (W : WX) (es : List Expr) (m : EM) : Prop := ∃ t : TA, (∀ X, G P wd K mg base k N sc W X → PA X es t) ∧ RTAB K W t m
theorem pb_nil : PAb P wd K mg base k N sc W [] eNil := ⟨_, fun X g => pa_nil, fun H0 w Γ σ ok f Q p => p [] w (Evo.refl w) ok rfl .nil⟩
theorem pb_cons {e : Expr} {es : List Expr} {ma mr : EM} (ha : PB P wd K mg base k N sc W e ma) (hr : PAb P wd K mg base k N sc W es mr) (hs : ∀ env, starEach (e :: es) env = (false, eval e env) :: starEach es env := by intro _; rfl) :
    PAb P wd K mg base k N sc W (e :: es) (eCons ma mr) := by
  obtain ⟨ta, pa, ra⟩ := ha
  obtain ⟨tr, pr, rr⟩ := hr
  refine ⟨_, fun X g => pa_cons (pa X g) (pr X g) (hs X.env), ?_⟩
  intro H0 w Γ σ ok f Q q
  refine RB.use (P := fun w r => PostAB K w Γ σ r Q (at_ W σ)) ra ok f (fun _ _ e k p => p.shift e k) (fun _ _ p => p) (fun p => p) q fun d v w1 e1 k1 f1 r p1 => ?_
  refine RTAB.use (P := fun w r => PostAB K w Γ σ r Q (at_ W σ)) rr k1 f1 (fun _ _ e k p => p.shift e k) (fun _ _ p => p) (fun p => p) (fun d st hb => by cases d <;> first | rfl | exact absurd rfl (hb _)) p1 fun ds vs w2 e2 k2 f2 r2 p2 => ?_
  exact p2 (v :: vs) w2 (Evo.refl w2) k2 rfl (.cons (r.evo e2) r2)
/-- a built-in by what it does of data -/
def CallD (K : PySem.W.Frag) (r : List V → Hp → VK → Prop) (f : List D → Store → ER) : Prop := ∀ (w : Wd) (vs : List V) (ds : List D) (Q : VK) (E : XK), Ok K w → VwL K w vs ds → PostE K w (f ds w.st) Q E → r vs w.H Q
def eB (f : List D → Store → ER) (ms : EM) : EM := fun Γ st => (ms Γ st).bind fun d s => match d with | .tup ds => f (ds.map (deref s)) s | _ => .no
theorem rt_B {r : List V → Hp → VK → Prop} {f : List D → Store → ER} {t : TA} {ms : EM} (h : CallD K r f) (ra : RTAB K W t ms) : RT K W (tCB r t) (eB f ms) := by
  intro H0 w Γ σ ok f0 Q q
  refine RTAB.use (P := fun w r => PostE K w r Q (at_ W σ)) ra ok f0 (fun _ _ e k p => p.shift e k) (fun _ _ p => p) (fun p => p) (fun d st hb => by cases d <;> first | rfl | exact absurd rfl (hb _)) q fun ds vs w1 e1 k1 f1 r1 p1 => ?_
  exact h w1 vs _ Q _ k1 (r1.vw k1 f1) p1
theorem pr_B {r : List V → Hp → VK → Prop} {f : List D → Store → ER} {id : String} {x : Str} {e : Expr} {es : List Expr} {ms : EM} {p pos : Pos} (hc : ∀ X, G P wd K mg base k N sc W X → CallR X (.builtin id) r) (h : CallD K r f) (hm : mg x = none) (hv : bootBuiltins x = some (.builtin id))
    (ha : PAb P wd K mg base k N sc W (e :: es) ms) (hg : sc.s.names.lookup x = some .globalImplicit := by rfl) (hn : x ≠ "__name__" := by decide) (hdb : (x == ("__debug__" : Str)) = false := by decide)
    (he : ∀ env, starEach (e :: es) env = (false, eval e env) :: starEach es env := by intro _; rfl) (hpl : ∀ env, (backTo pos (starEach es env)).any (·.1) = false := by intro _; rfl) :
    PR P wd K mg base k N sc W (.Call (.Name x p) (e :: es) [] pos) (eB f ms) := by
  obtain ⟨t, pt, ra⟩ := ha
  refine ⟨_, fun X g => ?_, rt_B h ra⟩
  exact pe_callB (hc X g) (by unfold Gl PySem.Env.kindOf; rw [g.scp]; exact hg) (by rw [g.mg]; exact hm) hv (pt X g) hn hdb (he X.env) (hpl X.env)
theorem pr_Ty {r : List V → Hp → VK → Prop} {f : List D → Store → ER} {T : String} {x : Str} {e : Expr} {es : List Expr} {ms : EM} {p pos : Pos} (hc : ∀ X, G P wd K mg base k N sc W X → CallR X (.type T) r) (h : CallD K r f) (hm : mg x = none) (hv : bootBuiltins x = some (.type T))
    (ha : PAb P wd K mg base k N sc W (e :: es) ms) (hg : sc.s.names.lookup x = some .globalImplicit := by rfl) (hn : x ≠ "__name__" := by decide) (hdb : (x == ("__debug__" : Str)) = false := by decide)
    (he : ∀ env, starEach (e :: es) env = (false, eval e env) :: starEach es env := by intro _; rfl) (hpl : ∀ env, (backTo pos (starEach es env)).any (·.1) = false := by intro _; rfl) :
    PR P wd K mg base k N sc W (.Call (.Name x p) (e :: es) [] pos) (eB f ms) := by
  obtain ⟨t, pt, ra⟩ := ha
  refine ⟨_, fun X g => ?_, rt_B h ra⟩
  exact pe_callTy (hc X g) (by unfold Gl PySem.Env.kindOf; rw [g.scp]; exact hg) (by rw [g.mg]; exact hm) hv (pt X g) hn hdb (he X.env) (hpl X.env)
theorem CallD.or {r r' : List V → Hp → VK → Prop} {f g h : List D → Store → ER} (a : CallD K r f) (b : CallD K r' g) (s : ∀ x st, h x st = f x st ∨ h x st = g x st) : CallD K (fun xs H Q => r xs H Q ∨ r' xs H Q) h := fun w vs ds Q E k v p => by
  rcases s ds w.st with e | e
  · exact .inl (a w vs ds Q E k v (by rw [← e]; exact p))
  · exact .inr (b w vs ds Q E k v (by rw [← e]; exact p))

/-! ### len, list, min -/
def bLen : List D → Store → ER
  | [.lst xs], st => .ok (.int xs.length) st
  | [.tup xs], st => .ok (.int xs.length) st
  | [.str x], st => if x.length ≤ 16777216 then .ok (.int x.length) st else .no
  | [.dct xs], st => .ok (.int xs.length) st
  | _, _ => .no
theorem call_lenR {X : Cx} : CallR X (.builtin "len") (fun xs H Q => ∃ a kvs, xs = [V.ref a] ∧ Rd H a (.dK kvs) ∧ Q (.int kvs.length) H) := by
  intro pins s σ H xs us Q I r h
  obtain ⟨a, kvs, rfl, ha, q⟩ := h
  obtain ⟨u, rfl, ru⟩ := vals1 r
  cases ru
  exact d_len I ha fun t s' I' => ⟨.int kvs.length, H, I', ⟨t, rfl⟩, q⟩
theorem RepP.len {κ : Type} {w : Wd} {vs : List (κ × V)} {xs : List (κ × D)} (r : RepP K w vs xs) : vs.length = xs.length := by have := congrArg List.length r.1; simpa using this
theorem cd_len : CallD K (fun xs H Q => (∃ x n, xs = [x] ∧ LenV K x H n ∧ Q (.int n) H) ∨ ∃ a kvs, xs = [V.ref a] ∧ Rd H a (.dK kvs) ∧ Q (.int kvs.length) H) bLen := fun w vs ds Q E k v p => by
  unfold bLen at p
  split at p
  · obtain ⟨x, rfl, a, us, rfl, h, r⟩ := v.one; exact .inl ⟨_, _, rfl, .inl ⟨us, SqL.of h, r.1.symm⟩, p.now k .int⟩
  · obtain ⟨x, rfl, a, us, rfl, h, r⟩ := v.one; exact .inl ⟨_, _, rfl, .inr ⟨us, h, r.1.symm⟩, p.now k .int⟩
  · obtain ⟨x, rfl, h⟩ := v.one
    obtain rfl := h
    obtain ⟨h, p⟩ := PostE.ite p
    exact .inl ⟨_, _, rfl, ⟨by rw [sizeLine_eq]; exact h, rfl⟩, p.now k .int⟩
  · obtain ⟨x, rfl, a, us, rfl, h, r⟩ := v.one; exact .inr ⟨_, _, rfl, h, by rw [r.len]; exact p.now k .int⟩
  · exact p.elim
theorem pr_len {e : Expr} {ms : EM} {p pos : Pos} (hm : mg "len" = none) (ha : PAb P wd K mg base k N sc W [e] ms) (hg : sc.s.names.lookup ("len" : Str) = some .globalImplicit := by rfl) (he : ∀ env, starEach [e] env = (false, eval e env) :: starEach [] env := by intro _; rfl) :
    PR P wd K mg base k N sc W (.Call (.Name "len" p) [e] [] pos) (eB bLen ms) :=
  pr_B (id := "len") (fun X g => CallR.or (by rw [← g.kk]; exact call_len) call_lenR) cd_len hm PySem.boot_len ha hg (by decide) (by decide) he (fun _ => rfl)
def bList : List D → Store → ER
  | [.lst xs], st => .ok (.lst xs) st
  | [.tup xs], st => .ok (.lst xs) st
  | [.scr ns], st => .ok (.lst (ns.map .int)) st
  | _, _ => .no
theorem repL_ints {w : Wd} (ns : List Int) : RepL K w (ns.map V.int) (ns.map D.int) := RepL.of_map (fun _ => .int) ns
theorem cd_list : CallD K (fun xs H Q => ∃ p ys, xs = [.ref p] ∧ (SqL K H p ys ∨ SqT K H p ys) ∧ ∀ l, H l = none → Q (.ref l) (upd H l (.lst ys))) bList := fun w vs ds Q E k v p => by
  unfold bList at p
  split at p
  · obtain ⟨x, rfl, a, us, rfl, h, r⟩ := v.one; exact ⟨_, _, rfl, .inl (SqL.of h), fun l hl => p.lst rfl k r l hl⟩
  · obtain ⟨x, rfl, a, us, rfl, h, r⟩ := v.one; exact ⟨_, _, rfl, .inr h, fun l hl => p.lst rfl k r l hl⟩
  · obtain ⟨x, rfl, a, rfl, h⟩ := v.one; exact ⟨_, _, rfl, .inl h, fun l hl => p.lst rfl k (repL_ints _) l hl⟩
  · exact p.elim
theorem pr_list {e : Expr} {ms : EM} {p pos : Pos} (hm : mg "list" = none) (ha : PAb P wd K mg base k N sc W [e] ms) (hg : sc.s.names.lookup ("list" : Str) = some .globalImplicit := by rfl) (he : ∀ env, starEach [e] env = (false, eval e env) :: starEach [] env := by intro _; rfl) :
    PR P wd K mg base k N sc W (.Call (.Name "list" p) [e] [] pos) (eB bList ms) :=
  pr_Ty (T := "list") (fun X g => by rw [← g.kk]; exact call_list_of) cd_list hm (by decide +kernel) ha hg (by decide) (by decide) he (fun _ => rfl)
def bMin2 : List D → Store → ER
  | [.int i, .int j], st => .ok (.int (if j < i then j else i)) st
  | _, _ => .no
theorem cd_min2 : CallD K (fun xs H Q => ∃ i j, xs = [.int i, .int j] ∧ Q (.int (if j < i then j else i)) H) bMin2 := fun w vs ds Q E k v p => by
  unfold bMin2 at p
  split at p
  · obtain ⟨x, y, rfl, a, b⟩ := v.two; obtain rfl := a; obtain rfl := b; exact ⟨_, _, rfl, p.now k .int⟩
  · exact p.elim
theorem pr_min2 {e1 e2 : Expr} {ms : EM} {p pos : Pos} (hm : mg "min" = none) (ha : PAb P wd K mg base k N sc W [e1, e2] ms) (hg : sc.s.names.lookup ("min" : Str) = some .globalImplicit := by rfl) (he : ∀ env, starEach [e1, e2] env = (false, eval e1 env) :: starEach [e2] env := by intro _; rfl)
    (hpl : ∀ env, (backTo pos (starEach [e2] env)).any (·.1) = false := by intro _; rfl) :
    PR P wd K mg base k N sc W (.Call (.Name "min" p) [e1, e2] [] pos) (eB bMin2 ms) :=
  pr_B (id := "min") (fun X g => call_min2 g.calm) cd_min2 hm (by decide +kernel) ha hg (by decide) (by decide) he hpl

/-! ### items, slices -/
def oIx : D → D → Store → ER
  | .lst xs, .int i, st => match atI xs i with | some d => .ok d st | none => .no
  | .tup xs, .int i, st => match atI xs i with | some d => .ok d st | none => .no
  | .str x, .int i, st => if x.length ≤ 16777216 then match atI x.cps.toList i with | some c => .ok (.str ⟨#[c]⟩) st | none => .no else .no
  | _, _, _ => .no
theorem RepL.atI {w : Wd} {vs : List V} {xs : List D} (r : RepL K w vs xs) {i : Int} {d : D} (h : L2.atI xs i = some d) : ∃ v, L2.atI vs i = some v ∧ Rep K w v d := by
  unfold L2.atI at h ⊢
  rw [r.1]
  cases e : ixN xs.length i with
  | none => rw [e] at h; cases h
  | some j => rw [e] at h; obtain ⟨v, hv, rv⟩ := r.get h; exact ⟨v, hv, rv⟩
theorem od_ix : OpD K (rIx K) oIx := fun w x y dx dy Q E k vx vy p => by
  cases dx <;> cases dy <;> try exact p.elim
  case lst.int xs i =>
    obtain ⟨a, vs, rfl, h, r⟩ := vx
    obtain rfl := vy
    have p' : PostE K w (match atI xs i with | some d => .ok d w.st | none => .no) Q E := p
    cases e : atI xs i with
    | none => rw [e] at p'; exact p'.elim
    | some d => rw [e] at p'; obtain ⟨v, hv, rv⟩ := r.atI e; exact .inl ⟨a, vs, i, v, rfl, rfl, SqL.of h, hv, p'.now k rv⟩
  case tup.int xs i =>
    obtain ⟨a, vs, rfl, h, r⟩ := vx
    obtain rfl := vy
    have p' : PostE K w (match atI xs i with | some d => .ok d w.st | none => .no) Q E := p
    cases e : atI xs i with
    | none => rw [e] at p'; exact p'.elim
    | some d => rw [e] at p'; obtain ⟨v, hv, rv⟩ := r.atI e; exact .inr (.inl ⟨a, vs, i, v, rfl, rfl, h, hv, p'.now k rv⟩)
  case str.int x i =>
    obtain rfl := vx
    obtain rfl := vy
    obtain ⟨hl, p⟩ := PostE.ite p
    cases e : atI x.cps.toList i with
    | none => rw [e] at p; exact p.elim
    | some d => rw [e] at p; exact .inr (.inr ⟨x, i, d, rfl, rfl, by rw [sizeLine_eq]; exact hl, e, p.now k .str⟩)
theorem pr_ix {a b : Expr} {ma mb : EM} {pos : Pos} (ha : PB P wd K mg base k N sc W a ma) (hb : PB P wd K mg base k N sc W b mb) (hs : PlainIx b := by exact fun _ _ => rfl) : PR P wd K mg base k N sc W (.Subscript a b pos) (eOp oIx ma mb) := by
  obtain ⟨ta, pa, ra⟩ := ha
  obtain ⟨tb, pb, rb⟩ := hb
  exact ⟨_, fun X g => pe_ix (by have := ix_seq (X := X); rw [g.kk] at this; exact this) (pa X g) (pb X g) hs, rt_op od_ix ra rb⟩
/-- the parts of a slice: None, an int -/
def PostO (K : PySem.W.Frag) (w : Wd) (r : ER) (Q : Option Int → Hp → Prop) (W : XK) : Prop := match r with
  | .ok .non st' => ∀ w', Evo w w' → Ok K w' → w'.st = st' → Q none w'.H
  | .ok (.int i) st' => ∀ w', Evo w w' → Ok K w' → w'.st = st' → Q (some i) w'.H
  | .ok _ _ => False
  | .err x st' => ∀ c dd w', Evo w w' → Ok K w' → w'.st = st' → RepX K w' c dd x → W c dd w'.H
  | .no => False
def RTO (K : PySem.W.Frag) (W : WX) (t : TO) (m : EM) : Prop := ∀ (H0 : Hp) (w : Wd) (Γ : DEnv) (σ : L2.St), Ok K w → Fr K H0 w Γ σ → ∀ Q : Option Int → Hp → Prop, PostO K w (m Γ w.st) Q (at_ W σ) → t σ w.H Q
def POt (P : Program) (wd : World) (K : PySem.W.Frag) (mg : Str → Option Value) (base : Heap) (k : Nat) (N : List Str) (sc : SC) (W : WX) (e : Option Expr) (m : EM) : Prop := ∃ t : TO, (∀ X, G P wd K mg base k N sc W X → PO X e t) ∧ RTO K W t m
def eInt (m : EM) : EM := fun Γ st => (m Γ st).bind fun d s => match d with | .int i => .ok (.int i) s | _ => .no
theorem po_none' : POt P wd K mg base k N sc W none (eC .non) := ⟨_, fun X g => po_none, fun H0 w Γ σ ok f Q p => p w (Evo.refl w) ok rfl⟩
theorem po_some' {e : Expr} {m : EM} (h : PR P wd K mg base k N sc W e m) : POt P wd K mg base k N sc W (some e) (eInt m) := by
  obtain ⟨t, p, r⟩ := h
  refine ⟨_, fun X g => po_some (p X g), ?_⟩
  intro H0 w Γ σ ok f Q q
  refine r H0 w Γ σ ok f _ ?_
  have q' : PostO K w ((m Γ w.st).bind _) Q (at_ W σ) := q
  cases e : m Γ w.st with
  | ok d st =>
    rw [e] at q'
    cases d with
    | int i => exact fun v w' ev k' s rv => by cases rv; exact ⟨i, rfl, q' w' ev k' s⟩
    | _ => exact q'.elim
  | err x st => rw [e] at q'; exact q'
  | no => rw [e] at q'; exact q'
def cutL (xs : List D) (lo hi : Option Int) : List D := (xs.drop (HT.sIx xs.length 0 lo)).take (HT.sIx xs.length xs.length hi - HT.sIx xs.length 0 lo)
def oSl (lo hi : Option Int) : D → Store → ER
  | .lst xs, st => .ok (.lst (cutL xs lo hi)) st
  | .str x, st => if x.length ≤ 16777216 then .ok (.str (cutS x lo hi)) st else .no
  | .scr ns, st => .ok (.lst (cutL (ns.map .int) lo hi)) st
  | _, _ => .no
def part : D → Option (Option Int)
  | .non => some none
  | .int i => some (some i)
  | _ => none
def eSl (ma ml mh : EM) : EM := fun Γ st => (ma Γ st).bind fun x s1 => (ml Γ s1).bind fun l s2 => match part l with
  | none => .no
  | some lo => (mh Γ s2).bind fun h s3 => match part h with
    | none => .no
    | some hi => oSl lo hi (deref s3 x) s3
theorem cutV_rep {w : Wd} {vs : List V} {xs : List D} (r : RepL K w vs xs) (lo hi : Option Int) : RepL K w (cutV vs lo hi) (cutL xs lo hi) := by
  unfold cutV cutL
  rw [r.1]
  exact (r.drop _).take _
theorem RTO.use {w : Wd} {H0 : Hp} {Γ : DEnv} {σ : L2.St} {t : TO} {m : EM} (h : RTO K W t m) (k : Ok K w) (f : Fr K H0 w Γ σ) {Q : Option Int → Hp → Prop} {P : Wd → ER → Prop} {g : D → Store → ER}
    (sh : ∀ w' r, Evo w w' → Ok K w' → P w r → P w' r) (pe : ∀ x st, P w (.err x st) → PostO K w (.err x st) Q (at_ W σ)) (pn : ¬ P w .no) (gn : ∀ w' d st, part d = none → ¬ P w' (g d st))
    (p : P w ((m Γ w.st).bind g)) (q : ∀ d o w', part d = some o → Evo w w' → Ok K w' → Fr K H0 w' Γ σ → P w' (g d w'.st) → Q o w'.H) : t σ w.H Q := by
  refine h H0 w Γ σ k f Q ?_
  cases e : m Γ w.st with
  | ok d st =>
    rw [e] at p
    cases d with
    | non => exact fun w' ev k' s => q .non none w' rfl ev k' (f.evo ev) (by subst s; exact sh w' _ ev k' p)
    | int i => exact fun w' ev k' s => q (.int i) (some i) w' rfl ev k' (f.evo ev) (by subst s; exact sh w' _ ev k' p)
    | _ => exact (gn w _ _ rfl p).elim
  | err x st => rw [e] at p; exact pe x st p
  | no => rw [e] at p; exact (pn p).elim
theorem pr_sl {a : Expr} {lo hi : Option Expr} {ma ml mh : EM} {p2 pos : Pos} (ha : PB P wd K mg base k N sc W a ma) (hl : POt P wd K mg base k N sc W lo ml) (hh : POt P wd K mg base k N sc W hi mh) : PR P wd K mg base k N sc W (.Subscript a (.Slice lo hi none p2) pos) (eSl ma ml mh) := by
  obtain ⟨ta, pa, ra⟩ := ha
  obtain ⟨tl, pl, rl⟩ := hl
  obtain ⟨th, ph, rh⟩ := hh
  refine ⟨tSl (fun x l u H Q => rSlL K x l u H Q ∨ rSlS x l u H Q) ta tl th, fun X g => pe_slice (SlR.or (by have := sl_list (X := X); rw [g.kk] at this; exact this) sl_str) (pa X g) (pl X g) (ph X g), ?_⟩
  intro H0 w Γ σ ok f Q q
  refine RB.use (P := fun w r => PostE K w r Q (at_ W σ)) ra ok f (fun _ _ e k p => p.shift e k) (fun _ _ p => p) (fun p => p) q fun dx x w1 e1 k1 f1 r1 p1 => ?_
  refine RTO.use (P := fun w r => PostE K w r Q (at_ W σ)) rl k1 f1 (fun _ _ e k p => p.shift e k) (fun _ _ p => p) (fun p => p) (fun w' d st h p => by rw [h] at p; exact p) p1 fun l o w2 hp e2 k2 f2 p2 => ?_
  rw [hp] at p2
  refine RTO.use (P := fun w r => PostE K w r Q (at_ W σ)) rh k2 f2 (fun _ _ e k p => p.shift e k) (fun _ _ p => p) (fun p => p) (fun w' d st h p => by rw [h] at p; exact p) p2 fun h u w3 hq e3 k3 f3 p3 => ?_
  rw [hq] at p3
  have v := (r1.evo (e2.trans k2 e3)).vw k3 f3
  revert v p3
  show PostE K w3 (oSl o u (deref w3.st dx) w3.st) Q (at_ W σ) → Vw K w3 x (deref w3.st dx) → _
  cases deref w3.st dx with
  | lst xs => exact fun p v => by obtain ⟨c, vs, rfl, h, r⟩ := v; exact .inl ⟨c, vs, rfl, SqL.of h, fun l hl => p.lst rfl k3 (cutV_rep r o u) l hl⟩
  | str z => exact fun p v => by obtain rfl := v; obtain ⟨hz, p⟩ := PostE.ite p; exact .inr ⟨z, rfl, by rw [sizeLine_eq]; exact hz, p.now k3 .str⟩
  | scr ns => exact fun p v => by obtain ⟨c, rfl, h⟩ := v; exact .inl ⟨c, _, rfl, h, fun l hl => p.lst rfl k3 (cutV_rep (repL_ints ns) o u) l hl⟩
  | _ => exact fun p _ => p.elim
end
end DL
namespace DL
open PySem L2
section
variable {P : Program} {wd : World} {K : PySem.W.Frag} {mg : Str → Option Value} {base : Heap} {k : Nat} {N : List Str} {sc : SC} {W : WX}

/-! ### targets -/
abbrev GM := D → DEnv → Option DEnv
def RTG (K : PySem.W.Frag) (g : TG) (m : GM) (is : List Nat) : Prop := ∀ (H0 : Hp) (w : Wd) (Γ Γ' : DEnv) (σ : L2.St) (v : V) (d : D), Ok K w → Fr K H0 w Γ σ → Rep K w v d → m d Γ = some Γ' →
  ∀ Q : L2.St → Hp → Prop, (∀ σ', Fr K H0 w Γ' σ' → (∀ vs : List Nat, (∀ i ∈ is, i ∈ vs) → wipe σ' vs = wipe σ vs) → Q σ' w.H) → g v σ w.H Q
def RTGs (K : PySem.W.Frag) (g : TGs) (m : List D → DEnv → Option DEnv) (is : List Nat) : Prop := ∀ (H0 : Hp) (w : Wd) (Γ Γ' : DEnv) (σ : L2.St) (vs : List V) (ds : List D), Ok K w → Fr K H0 w Γ σ → RepL K w vs ds → m ds Γ = some Γ' →
  ∀ Q : L2.St → Hp → Prop, (∀ σ', Fr K H0 w Γ' σ' → (∀ vs : List Nat, (∀ i ∈ is, i ∈ vs) → wipe σ' vs = wipe σ vs) → Q σ' w.H) → g vs σ w.H Q
def PGt (P : Program) (wd : World) (K : PySem.W.Frag) (mg : Str → Option Value) (base : Heap) (k : Nat) (N : List Str) (sc : SC) (W : WX) (e : Expr) (m : GM) (is : List Nat) : Prop := ∃ t : TG, (∀ X, G P wd K mg base k N sc W X → PG X e t) ∧ RTG K t m is
def PGts (P : Program) (wd : World) (K : PySem.W.Frag) (mg : Str → Option Value) (base : Heap) (k : Nat) (N : List Str) (sc : SC) (W : WX) (e : List Expr) (m : List D → DEnv → Option DEnv) (is : List Nat) : Prop := ∃ t : TGs, (∀ X, G P wd K mg base k N sc W X → PGs X e t) ∧ RTGs K t m is
theorem wipe_set {σ : L2.St} {v : Option V} : ∀ {vs : List Nat} {i : Nat}, i ∈ vs → wipe (σ.set i v) vs = wipe σ vs
  | [], _, h => by simp at h
  | u :: us, i, h => by
    unfold wipe
    by_cases q : i ∈ us
    · rw [wipe_set q]
    · have e : i = u := by simpa [q] using h
      subst e
      have c : ∀ ws : List Nat, i ∉ ws → wipe (σ.set i v) ws = (wipe σ ws).set i v := by
        intro ws
        induction ws with
        | nil => intro _; rfl
        | cons a as ih =>
          intro hn
          unfold wipe
          have hne : i ≠ a := fun z => hn (by rw [z]; exact List.mem_cons_self)
          rw [ih (fun z => hn (List.mem_cons_of_mem _ z)), List.set_comm _ _ hne]
      rw [c us q, List.set_set]
theorem wipe_set_of {σ : L2.St} : ∀ (vs us : List Nat), (∀ i ∈ vs, i ∈ us) → wipe (wipe σ vs) us = wipe σ us
  | [], _, _ => rfl
  | v :: vs, us, h => by
    show wipe ((wipe σ vs).set v none) us = _
    rw [wipe_set (h v List.mem_cons_self)]
    exact wipe_set_of vs us fun i hi => h i (List.mem_cons_of_mem _ hi)
theorem wipe_wipe {σ : L2.St} (vs : List Nat) : wipe (wipe σ vs) vs = wipe σ vs := wipe_set_of vs vs fun _ h => h
def gN (i : Nat) : GM := fun d Γ => some (Γ.set i (.sh d))
theorem pg_name' (i : Nat) {x : Str} {pos : Pos} (nd : N.Nodup) (hi : N[i]? = some x := by rfl) (hx : Loc sc.s x := by first | exact Or.inl rfl | exact Or.inr rfl) (hf : sc.fn x = true ∨ sc.s.names.lookup x = some .local := by first | exact Or.inl rfl | exact Or.inr rfl) : PGt P wd K mg base k N sc W (.Name x pos) (gN i) [i] := by
  refine ⟨gName i, fun X g => pg_name (by rw [g.nn]; exact nd) (by rw [g.nn]; exact hi) (by rw [g.scp]; exact hx) ?_, ?_⟩
  · rw [g.fnc, g.scp]; exact hf
  intro H0 w Γ Γ' σ v d ok f r e Q q
  cases e
  exact q _ (fr_set f r i) fun vs h => wipe_set (h i List.mem_cons_self)
def gNs : List D → DEnv → Option DEnv := fun ds Γ => match ds with | [] => some Γ | _ => none
def gCs (m : GM) (ms : List D → DEnv → Option DEnv) : List D → DEnv → Option DEnv := fun ds Γ => match ds with | d :: r => (m d Γ).bind (ms r) | [] => none
theorem pgs_nil' : PGts P wd K mg base k N sc W [] gNs [] := by
  refine ⟨_, fun X g => pgs_nil, ?_⟩
  intro H0 w Γ Γ' σ vs ds ok f r e Q q
  cases ds with
  | nil => cases e; exact ⟨r.inv0, q σ f fun _ _ => rfl⟩
  | cons d ds => cases e
theorem pgs_cons' {e : Expr} {es : List Expr} {m : GM} {ms : List D → DEnv → Option DEnv} {is js : List Nat} (h : PGt P wd K mg base k N sc W e m is) (h' : PGts P wd K mg base k N sc W es ms js)
    (hst : ∀ env, (assignEach (e :: es) env).map (·.2) = assign e env :: (assignEach es env).map (·.2) := by intro _; rfl) : PGts P wd K mg base k N sc W (e :: es) (gCs m ms) (is ++ js) := by
  obtain ⟨t, p, r⟩ := h
  obtain ⟨t', p', r'⟩ := h'
  refine ⟨_, fun X g => pgs_cons (p X g) (p' X g) (hst X.env), ?_⟩
  intro H0 w Γ Γ' σ vs ds ok f rl e Q q
  cases ds with
  | nil => cases e
  | cons d ds =>
    obtain ⟨v, us, rfl, r1, r2⟩ := rl.inv
    have e' : (m d Γ).bind (ms ds) = some Γ' := e
    cases h1 : m d Γ with
    | none => rw [h1] at e'; cases e'
    | some Γ1 =>
      rw [h1] at e'
      refine ⟨v, us, rfl, r H0 w Γ Γ1 σ v d ok f r1 h1 _ fun σ1 f1 w1 => ?_⟩
      exact r' H0 w Γ1 Γ' σ1 us ds ok f1 r2 e' Q fun σ2 f2 w2 => q σ2 f2 fun vs h => (w2 vs fun i hi => h i (List.mem_append_right _ hi)).trans (w1 vs fun i hi => h i (List.mem_append_left _ hi))
def gT (n : Nat) (ms : List D → DEnv → Option DEnv) : GM := fun d Γ => match d with | .tup ds => if ds.length = n then ms ds Γ else none | _ => none
theorem pg_tup' {es : List Expr} {x1 : Nat} {pos : Pos} {ms : List D → DEnv → Option DEnv} {is : List Nat} (n : Nat) (h : PGts P wd K mg base k N sc W es ms is) (hn : ∀ env, (assignEach es env).length = n := by intro _; rfl) (hst : ∀ env, (assignEach es env).findIdx? (·.1) = none := by intro _; rfl) :
    PGt P wd K mg base k N sc W (.Tuple es x1 pos) (gT n ms) is := by
  obtain ⟨t, p, r⟩ := h
  refine ⟨gTup K n t, fun X g => by have := pg_tup (k := x1) (pos := pos) g.calm (p X g) (hn X.env) (hst X.env); rw [g.kk] at this; exact this, ?_⟩
  intro H0 w Γ Γ' σ v d ok f rv e Q q
  unfold gT at e
  split at e
  · rename_i ds
    split at e
    · rename_i hl
      cases rv with
      | tup m l z => exact ⟨_, _, rfl, ok.sqT m, l.trans hl, r H0 w Γ Γ' σ _ ds ok f ⟨l, z⟩ e Q q⟩
    · cases e
  · cases e

/-! ### what is walked -/
def Wlk (K : PySem.W.Frag) (w : Wd) (J : It) (ds : List D) : Prop := ∀ (i : Nat) (w1 : Wd), Ext w w1 → Ok K w1 →
  (∀ d, ds[i]? = some d → J.go i w1.H ∧ ∀ x H2, J.yld i w1.H x H2 → ∃ w2 : Wd, w2.H = H2 ∧ w2.st = w1.st ∧ Evo w1 w2 ∧ Ok K w2 ∧ Rep K w2 x d) ∧ (ds[i]? = none → J.stop i w1.H)
def PostI (K : PySem.W.Frag) (w : Wd) (r : ER) (R : It → Hp → Prop) (W : XK) : Prop := match r with
  | .ok (.tup ds) st' => ∀ J w', Evo w w' → Ok K w' → w'.st = st' → Wlk K w' J ds → R J w'.H
  | .ok _ _ => False
  | .err x st' => ∀ c dd w', Evo w w' → Ok K w' → w'.st = st' → RepX K w' c dd x → W c dd w'.H
  | .no => False
def RTI (K : PySem.W.Frag) (W : WX) (t : TI) (m : EM) : Prop := ∀ (H0 : Hp) (w : Wd) (Γ : DEnv) (σ : L2.St), Ok K w → Fr K H0 w Γ σ → ∀ R : It → Hp → Prop, PostI K w (m Γ w.st) R (at_ W σ) → t σ w.H R
def PIt (P : Program) (wd : World) (K : PySem.W.Frag) (mg : Str → Option Value) (base : Heap) (k : Nat) (N : List Str) (sc : SC) (W : WX) (tg e : Expr) (m : EM) : Prop := ∃ t : TI, (∀ X, G P wd K mg base k N sc W X → PI X tg e t) ∧ RTI K W t m
theorem PostI.shift {w w' : Wd} (e : Evo w w') (k : Ok K w') {r : ER} {Q : It → Hp → Prop} {E : XK} (p : PostI K w r Q E) : PostI K w' r Q E := by
  cases r with
  | ok d st =>
    cases d with
    | tup ds => exact fun v w2 e2 k2 s r => p v w2 (e.trans k e2) k2 s r
    | _ => exact p
  | err x st => exact fun c dd w2 e2 k2 s r => p c dd w2 (e.trans k e2) k2 s r
  | no => exact p
theorem getElem?_lt {α : Type} {l : List α} {i : Nat} {x : α} (h : l[i]? = some x) : i < l.length := (List.getElem?_eq_some_iff.mp h).1
theorem itr_list {w : Wd} {a : Addr} {vs : List V} {ds : List D} (h : w.M a = some (.lst vs)) (r : RepL K w vs ds) : Wlk K w (L2.Itl K a) ds := fun i w1 e k => by
  have h1 : SqL K w1.H a vs := SqL.of (k.ex _ _ (e.mono _ _ h))
  refine ⟨fun d hd => ?_, fun hn => ⟨vs, h1, by rw [r.1]; exact List.getElem?_eq_none_iff.mp hn⟩⟩
  obtain ⟨v, hv, rv⟩ := r.get hd
  refine ⟨⟨vs, v, h1, hv⟩, fun x H2 y => ⟨w1, y.1.symm, rfl, Evo.refl w1, k, ?_⟩⟩
  have q := y.2 vs h1
  rw [hv] at q; cases q
  exact rv.ext e
theorem itr_tup {w : Wd} {a : Addr} {vs : List V} {ds : List D} (h : SqT K w.M a vs) (r : RepL K w vs ds) : Wlk K w (L2.Itt K a) ds := fun i w1 e k => by
  have h1 : SqT K w1.H a vs := k.sqT (e.sqT h)
  refine ⟨fun d hd => ?_, fun hn => ⟨vs, h1, by rw [r.1]; exact List.getElem?_eq_none_iff.mp hn⟩⟩
  obtain ⟨v, hv, rv⟩ := r.get hd
  refine ⟨⟨vs, v, h1, hv⟩, fun x H2 y => ⟨w1, y.1.symm, rfl, Evo.refl w1, k, ?_⟩⟩
  have q := y.2 vs h1
  rw [hv] at q; cases q
  exact rv.ext e
def rng (lo : Int) (c : Int) (n : Nat) : List D := (List.range n).map fun (i : Nat) => D.int (lo + (i : Int) * c)
theorem rng_len (lo c : Int) (n : Nat) : (rng lo c n).length = n := by simp [rng]
theorem rng_get {lo c : Int} {n i : Nat} (h : i < n) : (rng lo c n)[i]? = some (.int (lo + (i : Int) * c)) := by simp [rng, h]
theorem itr_rng {w : Wd} {lo : Int} {n : Nat} : Wlk K w (L2.Itr lo n) (rng lo 1 n) := fun i w1 e k => by
  refine ⟨fun d hd => ?_, fun hn => by have := List.getElem?_eq_none_iff.mp hn; rwa [rng_len] at this⟩
  have hl := getElem?_lt hd
  rw [rng_len] at hl
  rw [rng_get hl] at hd; cases hd
  exact ⟨hl, fun x H2 y => ⟨w1, y.1.symm, rfl, Evo.refl w1, k, by rw [y.2, Int.mul_one]; exact .int⟩⟩
theorem itr_rngC {w : Wd} {lo c : Int} {n : Nat} : Wlk K w (L2.Itc lo c n) (rng lo c n) := fun i w1 e k => by
  refine ⟨fun d hd => ?_, fun hn => by have := List.getElem?_eq_none_iff.mp hn; rwa [rng_len] at this⟩
  have hl := getElem?_lt hd
  rw [rng_len] at hl
  rw [rng_get hl] at hd; cases hd
  exact ⟨hl, fun x H2 y => ⟨w1, y.1.symm, rfl, Evo.refl w1, k, by rw [y.2]; exact .int⟩⟩

/-! ### for -/
def forL (mg : GM) (mb : SM) : List D → DEnv → Store → SR
  | [], Γ, st => .nx Γ st
  | d :: ds, Γ, st => match mg d Γ with
    | none => .no
    | some Γ1 => match mb Γ1 st with
      | .nx Γ2 st2 => forL mg mb ds Γ2 st2
      | .ct Γ2 st2 => forL mg mb ds Γ2 st2
      | .bk Γ2 st2 => .nx Γ2 st2
      | r => r
def sFor (mi : EM) (mg : GM) (mb : SM) : SM := fun Γ st => (mi Γ st).bs Γ fun d s => match d with | .tup ds => forL mg mb ds Γ s | _ => .no
theorem rts_for {wi : TI} {g : TG} {tb : TS} {mi : EM} {mg : GM} {mb : SM} {is : List Nat} (hi : RTI K W wi mi) (hg : RTG K g mg is) (hb : RTS K W tb mb) : RTS K W (tFor wi g tb) (sFor mi mg mb) := by
  intro w0 w Γ σ e0 ok f Dn p
  refine hi w0.H w Γ σ ok f _ ?_
  have p' : PostS K w0 w ((mi Γ w.st).bs Γ _) Dn W := p
  cases h : mi Γ w.st with
  | no => rw [h] at p'; exact p'
  | err x st => rw [h] at p'; exact fun c dd w' ev k' s r => p' c dd w' σ (e0.trans ok ev) ev.ext k' s (f.evo ev) r
  | ok d st =>
    rw [h] at p'
    cases d with
    | tup ds =>
      intro J w' ev k' s it
      subst s
      have p1 : PostS K w0 w' (forL mg mb ds Γ w'.st) Dn W := p'.shift ev.ext
      refine ⟨fun i m σ H => ∃ (w1 : Wd) (Γ1 : DEnv), H = w1.H ∧ Evo w0 w1 ∧ Ext w' w1 ∧ Ok K w1 ∧ Fr K w0.H w1 Γ1 σ ∧ m = ds.length - i ∧ i ≤ ds.length ∧ PostS K w0 w1 (forL mg mb (ds.drop i) Γ1 w1.st) Dn W,
        ⟨ds.length, w', Γ, rfl, e0.trans ok ev, Ext.refl w', k', f.evo ev, rfl, Nat.zero_le _, p1⟩, ?_⟩
      rintro i m σ1 H ⟨w1, Γ1, rfl, ea, xa, ka, fa, rfl, hle, q⟩
      obtain ⟨go, stop⟩ := it i w1 xa ka
      cases hd : ds[i]? with
      | none =>
        refine .inl ⟨stop hd, ?_⟩
        rw [List.drop_eq_nil_of_le (List.getElem?_eq_none_iff.mp hd)] at q
        exact q w1 σ1 ea (Ext.refl w1) ka rfl fa
      | some d =>
        obtain ⟨g1, g2⟩ := go d hd
        have hl := getElem?_lt hd
        refine .inr ⟨g1, fun σ H => ∃ (w1 : Wd) (Γ1 : DEnv), H = w1.H ∧ Evo w0 w1 ∧ Ext w' w1 ∧ Ok K w1 ∧ Fr K w0.H w1 Γ1 σ ∧ PostS K w0 w1 (forL mg mb (ds.drop (i + 1)) Γ1 w1.st) Dn W, ?_, fun x H2 y => ?_⟩
        · rintro σ' H' ⟨w3, Γ3, rfl, a1, a2, a3, a4, a5⟩
          exact ⟨ds.length - (i + 1), by omega, w3, Γ3, rfl, a1, a2, a3, a4, rfl, hl, a5⟩
        · obtain ⟨w2, rfl, s2, e2, k2, r2⟩ := g2 x H2 y
          rw [List.drop_eq_getElem_cons hl] at q
          have hd' : ds[i] = d := by rw [List.getElem?_eq_getElem hl] at hd; exact Option.some.inj hd
          rw [hd'] at q
          unfold forL at q
          cases h1 : mg d Γ1 with
          | none => rw [h1] at q; exact q.elim
          | some Γ2 =>
            rw [h1] at q
            dsimp only at q
            refine hg w0.H w2 Γ1 Γ2 σ1 x d k2 (fa.evo e2) r2 h1 _ fun σ2 f2 _ => ?_
            refine hb w0 w2 Γ2 σ2 (ea.trans ka e2) k2 f2 _ ?_
            rw [s2]
            have x2 : Ext w' w2 := xa.trans e2.ext
            cases h2 : mb Γ2 w1.st with
            | nx Γ3 st3 => rw [h2] at q; exact fun w3 σ3 b1 b2 b3 b4 b5 => ⟨w3, Γ3, rfl, b1, x2.trans b2, b3, b5, by rw [b4]; exact q.shift (e2.ext.trans b2)⟩
            | ct Γ3 st3 => rw [h2] at q; exact fun w3 σ3 b1 b2 b3 b4 b5 => ⟨w3, Γ3, rfl, b1, x2.trans b2, b3, b5, by rw [b4]; exact q.shift (e2.ext.trans b2)⟩
            | bk Γ3 st3 => rw [h2] at q; exact fun w3 σ3 b1 b2 b3 b4 b5 => q w3 σ3 b1 (e2.ext.trans b2) b3 b4 b5
            | ret d st3 => rw [h2] at q; exact q
            | err x st3 Γ3 => rw [h2] at q; exact fun c dd w3 σ3 b1 b2 => q c dd w3 σ3 b1 (e2.ext.trans b2)
            | no => rw [h2] at q; exact q.elim
    | _ => exact p'.elim
theorem ps_for' {iter tg : Expr} {body : List Stmt} {mi : EM} {mg' : GM} {mb : SM} {is : List Nat} {pos : Pos} (hi : PIt P wd K mg base k N sc W tg iter mi) (hg : PGt P wd K mg base k N sc W tg mg' is) (hb : PSl P wd K mg base k N sc W body mb) (hs : ∀ env x, foldedSetIterable iter env x = pure x := by intro _ _; rfl) : PSt P wd K mg base k N sc W (.For tg iter body [] pos) (sFor mi mg' mb) := by
  obtain ⟨ti, pi, ri⟩ := hi
  obtain ⟨tg', pg, rg⟩ := hg
  obtain ⟨tb, pb, rb⟩ := hb
  exact ⟨_, fun X g => ps_for g.pass g.calm (pi X g) (pg X g) (pb X g) (hs X.env), rts_for ri rg rb⟩
end
end DL
namespace DL
open PySem L2
section
variable {P : Program} {wd : World} {K : PySem.W.Frag} {mg : Str → Option Value} {base : Heap} {k : Nat} {N : List Str} {sc : SC} {W : WX}

/-! ### walks: sources -/
theorem PI.or {X : Cx} {tg e : Expr} {a b : TI} (h : PI X tg e a) (h' : PI X tg e b) : PI X tg e (fun σ H R => a σ H R ∨ b σ H R) := ⟨fun pins s σ H R I q => q.elim (h.run pins s σ H R I) (h'.run pins s σ H R I)⟩
def kD : Key → D
  | .inl i => .int i
  | .inr x => .str x
theorem rep_kV {w : Wd} : ∀ k : Key, Rep K w (kV k) (kD k)
  | .inl _ => .int
  | .inr _ => .str
def eIter (m : EM) : EM := fun Γ st => (m Γ st).bind fun d s => match d with
  | .lst xs => .ok (.tup xs) s
  | .tup xs => .ok (.tup xs) s
  | .dct kvs => .ok (.tup (kvs.map fun p => kD p.1)) s
  | _ => .no
theorem wlk_keys {w : Wd} {a : Addr} {o : Obj} {vs : List (Key × V)} {xs : List (Key × D)} (h : w.M a = some (.frz o (.dK vs))) (r : RepP K w vs xs) : Wlk K w (Itk a o vs) (xs.map fun p => kD p.1) := fun i w1 e k => by
  have h1 : w1.H a = some (.frz o (.dK vs)) := k.ex _ _ (e.mono _ _ h)
  refine ⟨fun d hd => ?_, fun hn => ⟨h1, by rw [r.len]; have := List.getElem?_eq_none_iff.mp hn; simpa using this⟩⟩
  rw [List.getElem?_map] at hd
  cases q : xs[i]? with
  | none => rw [q] at hd; cases hd
  | some p =>
    rw [q] at hd
    cases hd
    have hl : i < vs.length := by rw [r.len]; exact getElem?_lt q
    refine ⟨⟨h1, hl⟩, fun x H2 y => ⟨w1, y.1.symm, rfl, Evo.refl w1, k, ?_⟩⟩
    obtain ⟨k', v, hv, rfl⟩ := y.2
    have e1 : (vs.map (·.1))[i]? = some k' := by rw [List.getElem?_map, hv]; rfl
    rw [r.1, List.getElem?_map, q] at e1
    have e2 : p.1 = k' := Option.some.inj e1
    rw [← e2]
    exact rep_kV p.1
theorem pi_any {tg e : Expr} {m : EM} (h : PR P wd K mg base k N sc W e m) : PIt P wd K mg base k N sc W tg e (eIter m) := by
  obtain ⟨t, p, r⟩ := h
  refine ⟨fun σ H R => iList K t σ H R ∨ iTup K t σ H R ∨ iKeys t σ H R, fun X g => PI.or (by have := pi_list (tg := tg) (p X g); rw [g.kk] at this; exact this) (PI.or (by have := pi_tup (tg := tg) (p X g); rw [g.kk] at this; exact this) (pi_keys (p X g))), ?_⟩
  intro H0 w Γ σ ok f R q
  have q' : PostI K w ((m Γ w.st).bind _) R (at_ W σ) := q
  cases e : m Γ w.st with
  | err x st => rw [e] at q'; exact .inl (r H0 w Γ σ ok f _ (by rw [e]; exact q'))
  | no => rw [e] at q'; exact q'.elim
  | ok d st =>
    rw [e] at q'
    cases d with
    | lst xs => exact .inl (r H0 w Γ σ ok f _ (by
        rw [e]
        intro v w' ev k' s rv
        cases rv with
        | lst m l z => exact ⟨_, rfl, ⟨_, SqL.of (k'.ex _ _ m)⟩, q' _ w' ev k' s (itr_list m ⟨l, z⟩)⟩))
    | tup xs => exact .inr (.inl (r H0 w Γ σ ok f _ (by
        rw [e]
        intro v w' ev k' s rv
        cases rv with
        | tup m l z => exact ⟨_, rfl, ⟨_, k'.sqT m⟩, q' _ w' ev k' s (itr_tup m ⟨l, z⟩)⟩)))
    | dct xs => exact .inr (.inr (r H0 w Γ σ ok f _ (by
        rw [e]
        intro v w' ev k' s rv
        cases rv with
        | dct m l z => exact ⟨_, _, rfl, .inl ⟨_, k'.ex _ _ m, q' _ w' ev k' s (wlk_keys m ⟨l, z⟩)⟩⟩)))
    | _ => exact q'.elim
/-- range -/
def eRng1 (ms : EM) : EM := fun Γ st => (ms Γ st).bind fun d s => match d with
  | .tup [.int j] => if -4611686018427387904 ≤ j ∧ j < 4611686018427387904 then .ok (.tup (rng 0 1 j.toNat)) s else .no
  | _ => .no
def eRng2 (ms : EM) : EM := fun Γ st => (ms Γ st).bind fun d s => match d with
  | .tup [.int i, .int j] => if -4611686018427387904 ≤ i ∧ i < 4611686018427387904 ∧ -4611686018427387904 ≤ j ∧ j < 4611686018427387904 then .ok (.tup (rng i 1 (j - i).toNat)) s else .no
  | _ => .no
theorem pi_rng1 {tg a : Expr} {ms : EM} {p pos : Pos} (hm : mg "range" = none) (ha : PAr P wd K mg base k N sc W [a] ms) (hg : sc.s.names.lookup ("range" : Str) = some .globalImplicit := by rfl) (hs : ∀ env, starEach [a] env = [(false, eval a env)] := by intro _; rfl) :
    PIt P wd K mg base k N sc W tg (.Call (.Name "range" p) [a] [] pos) (eRng1 ms) := by
  obtain ⟨t, pt, r⟩ := ha
  refine ⟨_, fun X g => pi_range1 (by unfold Gl PySem.Env.kindOf; rw [g.scp]; exact hg) (by rw [g.mg]; exact hm) (pt X g) (hs X.env), ?_⟩
  intro H0 w Γ σ ok f R q
  refine RTA.use (P := fun w r => PostI K w r R (at_ W σ)) r ok f (fun _ _ e k p => p.shift e k) (fun _ _ p => p) (fun p => p) (fun d st hb => by cases d <;> first | rfl | exact absurd rfl (hb _)) q fun ds vs w1 e1 k1 f1 r1 p1 => ?_
  match ds, r1, p1 with
  | [.int j], r1, p1 =>
    obtain ⟨v, us, rfl, rv, ru⟩ := r1.inv
    rw [ru.inv0]
    cases rv
    have p2 : PostI K w1 (if -4611686018427387904 ≤ j ∧ j < 4611686018427387904 then .ok (.tup (rng 0 1 j.toNat)) w1.st else .no) R (at_ W σ) := p1
    by_cases h : -4611686018427387904 ≤ j ∧ j < 4611686018427387904
    · rw [if_pos h] at p2
      exact ⟨j, rfl, h.1, h.2, p2 _ w1 (Evo.refl w1) k1 rfl itr_rng⟩
    · rw [if_neg h] at p2; exact p2.elim
theorem pi_rng2 {tg a b : Expr} {ms : EM} {p pos : Pos} (hm : mg "range" = none) (ha : PAr P wd K mg base k N sc W [a, b] ms) (hg : sc.s.names.lookup ("range" : Str) = some .globalImplicit := by rfl) (hs : ∀ env, starEach [a, b] env = [(false, eval a env), (false, eval b env)] := by intro _; rfl) (hs2 : ∀ env, starEach [b] env = [(false, eval b env)] := by intro _; rfl) :
    PIt P wd K mg base k N sc W tg (.Call (.Name "range" p) [a, b] [] pos) (eRng2 ms) := by
  obtain ⟨t, pt, r⟩ := ha
  refine ⟨_, fun X g => pi_range2 (by unfold Gl PySem.Env.kindOf; rw [g.scp]; exact hg) (by rw [g.mg]; exact hm) (pt X g) (hs X.env) (hs2 X.env), ?_⟩
  intro H0 w Γ σ ok f R q
  refine RTA.use (P := fun w r => PostI K w r R (at_ W σ)) r ok f (fun _ _ e k p => p.shift e k) (fun _ _ p => p) (fun p => p) (fun d st hb => by cases d <;> first | rfl | exact absurd rfl (hb _)) q fun ds vs w1 e1 k1 f1 r1 p1 => ?_
  match ds, r1, p1 with
  | [.int i, .int j], r1, p1 =>
    obtain ⟨v, us, rfl, rv, ru⟩ := r1.inv
    obtain ⟨v2, us2, rfl, rv2, ru2⟩ := ru.inv
    rw [ru2.inv0]
    cases rv
    cases rv2
    have p2 : PostI K w1 (if -4611686018427387904 ≤ i ∧ i < 4611686018427387904 ∧ -4611686018427387904 ≤ j ∧ j < 4611686018427387904 then .ok (.tup (rng i 1 (j - i).toNat)) w1.st else .no) R (at_ W σ) := p1
    by_cases h : -4611686018427387904 ≤ i ∧ i < 4611686018427387904 ∧ -4611686018427387904 ≤ j ∧ j < 4611686018427387904
    · rw [if_pos h] at p2
      exact ⟨i, j, rfl, h, p2 _ w1 (Evo.refl w1) k1 rfl itr_rng⟩
    · rw [if_neg h] at p2; exact p2.elim

/-! ### new things -/
def PostN (K : PySem.W.Frag) (w : Wd) (r : ER) (Q : VK) (W : XK) : Prop := match r with
  | .ok d st' => ∀ a o w', Evo w w' → Ok K w' → w'.st = st' → w.H a = none → w'.H a = some o → w'.M a = none → (∀ l, l < w'.st.length → w'.ρ l ≠ a) → RO K w' o d → Q (.ref a) w'.H
  | .err x st' => ∀ c dd w', Evo w w' → Ok K w' → w'.st = st' → RepX K w' c dd x → W c dd w'.H
  | .no => False
def RTN (K : PySem.W.Frag) (W : WX) (t : TE) (m : EM) : Prop := ∀ (H0 : Hp) (w : Wd) (Γ : DEnv) (σ : L2.St), Ok K w → Fr K H0 w Γ σ → ∀ Q : VK, PostN K w (m Γ w.st) Q (at_ W σ) → t σ w.H Q
def PN (P : Program) (wd : World) (K : PySem.W.Frag) (mg : Str → Option Value) (base : Heap) (k : Nat) (N : List Str) (sc : SC) (W : WX) (e : Expr) (m : EM) : Prop := ∃ t : TE, (∀ X, G P wd K mg base k N sc W X → PE X e t) ∧ RTN K W t m
theorem PostN.shift {w w' : Wd} (e : Evo w w') (k : Ok K w') {r : ER} {Q : VK} {E : XK} (p : PostN K w r Q E) : PostN K w' r Q E := by
  cases r with
  | ok d st => exact fun a o w2 e2 k2 s h => p a o w2 (e.trans k e2) k2 s (e.dom0 k h)
  | err x st => exact fun c dd w2 e2 k2 s r => p c dd w2 (e.trans k e2) k2 s r
  | no => exact p
/-- a new thing at a, not frozen -/
def Wd.al (w : Wd) (a : Addr) (o : HO) : Wd := { w with H := upd w.H a o }
theorem evo_al {w : Wd} (k : Ok K w) {a : Addr} (o : HO) (ha : w.H a = none) : Evo w (w.al a o) where
  mono := fun _ _ h => h
  rho := fun _ _ => rfl
  le := Nat.le_refl _
  newM := fun b u h n => absurd (h.symm.trans n) (fun q => nomatch q)
  newR := fun l h1 h2 => absurd (Nat.lt_of_lt_of_le h2 h1) (Nat.lt_irrefl _)
  keep := fun b u h _ _ => by show upd w.H a o b = _; rw [upd_ne (ne_of_none h ha)]; exact h
/-- a thing that is neither frozen nor in the store is changed -/
theorem ok_al {w : Wd} (k : Ok K w) {a : Addr} (o : HO) (hm : w.M a = Option.none) (hr : ∀ l, l < w.st.length → w.ρ l ≠ a) : Ok K (w.al a o) where
  ex := fun b u h => by
    show upd w.H a o b = _
    have h' : w.M b = some u := h
    rw [upd_ne (ne_of_none h' hm)]; exact k.ex b u h'
  sto := fun l d h => by
    obtain ⟨u, h1, h2⟩ := k.sto l d h
    refine ⟨u, ?_, h2.imp id fun ⟨h2, h3⟩ => ⟨h2, RO.ext (w := w) (w' := w.al a o) ⟨fun _ _ h => h, fun _ _ => rfl, Nat.le_refl _⟩ h3⟩⟩
    show upd w.H a o (w.ρ l) = _
    rw [upd_ne (hr l (getElem?_lt h))]; exact h1
  inj := k.inj
theorem Ok.noR {w : Wd} (k : Ok K w) {a : Addr} (ha : w.H a = Option.none) : ∀ l, l < w.st.length → w.ρ l ≠ a := fun l hl e => by
  obtain ⟨u, h1, _⟩ := k.sto l _ (List.getElem?_eq_getElem hl)
  rw [e, ha] at h1; cases h1
theorem PostN.al {w : Wd} {d : D} {Q : VK} {E : XK} (p : PostN K w (.ok d w.st) Q E) (k : Ok K w) {a : Addr} {o : HO} (ha : w.H a = none) (r : RO K w o d) : Q (.ref a) (upd w.H a o) :=
  p a o (w.al a o) (evo_al k o ha) (ok_al k o (k.none ha) (k.noR ha)) rfl ha upd_same (k.none ha) (k.noR ha) (r.evo (evo_al k o ha))
/-- a new list is frozen -/
theorem fz_new {w w' : Wd} {a : Addr} {vs : List V} {xs : List D} (e : Evo w w') (k : Ok K w') (ha : w.H a = none) (h : w'.H a = some (.lst vs)) (hm : w'.M a = none) (hr : ∀ l, l < w'.st.length → w'.ρ l ≠ a) (r : RepL K w' vs xs) :
    ∃ w2 : Wd, w2.H = w'.H ∧ w2.st = w'.st ∧ Evo w w2 ∧ Ok K w2 ∧ Rep K w2 (.ref a) (.lst xs) := by
  have x : Ext w' { w' with M := upd w'.M a (.lst vs) } := ⟨fun b u q => by show upd w'.M a _ b = _; rw [upd_ne (ne_of_none q hm)]; exact q, fun _ _ => rfl, Nat.le_refl _⟩
  refine ⟨{ w' with M := upd w'.M a (.lst vs) }, rfl, rfl, ⟨(e.ext.trans x).mono, e.rho, e.le, fun b u q n => ?_, e.newR, e.keep⟩, ⟨fun b u q => ?_, fun l d q => ?_, k.inj⟩, ?_⟩
  · by_cases z : b = a
    · rw [z]; exact ha
    · have q' : upd w'.M a (.lst vs) b = some u := q
      rw [upd_ne z] at q'; exact e.newM b u q' n
  · have q' : upd w'.M a (.lst vs) b = some u := q
    by_cases z : b = a
    · rw [z, upd_same] at q'; cases q'; rw [z]; exact h
    · rw [upd_ne z] at q'; exact k.ex b u q'
  · obtain ⟨u, h1, h2⟩ := k.sto l d q
    refine ⟨u, h1, h2.imp id fun ⟨h2, h3⟩ => ⟨?_, h3.ext x⟩⟩
    show upd w'.M a (.lst vs) (w'.ρ l) = _
    rw [upd_ne (hr l (getElem?_lt q))]; exact h2
  · have r' := r.ext x
    exact .lst (by show upd w'.M a _ a = _; exact upd_same) r'.1 r'.2
def IsL (m : EM) : Prop := ∀ Γ st d s, m Γ st = .ok d s → ∃ xs, d = .lst xs
theorem RTN.rt {t : TE} {m : EM} (h : RTN K W t m) (hl : IsL m) : RT K W t m := by
  intro H0 w Γ σ ok f Q p
  refine h H0 w Γ σ ok f Q ?_
  cases e : m Γ w.st with
  | err x st => rw [e] at p; exact p
  | no => rw [e] at p; exact p
  | ok d st =>
    rw [e] at p
    obtain ⟨xs, rfl⟩ := hl _ _ _ _ e
    intro a o w' ev k' s ha ho hm hr r
    obtain ⟨vs, rfl, rl⟩ := r
    obtain ⟨w2, q1, q2, q3, q4, q5⟩ := fz_new ev k' ha ho hm hr rl
    rw [← q1]
    exact p _ w2 q3 q4 (q2.trans s) q5
theorem PN.rt {e : Expr} {m : EM} (h : PN P wd K mg base k N sc W e m) (hl : IsL m) : PR P wd K mg base k N sc W e m := let ⟨t, a, b⟩ := h; ⟨t, a, b.rt hl⟩

/-! ### comprehensions -/
/-- a comprehension's scope within sc -/
def blkS (scope : Scope) (sc : SC) : SC := ⟨{ scope with names := scope.names.map fun (n, k) => if (k == .free && sc.s.kind == .function && sc.s.names.lookup n == some .cell) then (n, .cell) else (n, k) }, fun x => scope.names.lookup x == some .cell⟩
abbrev WF : WX := fun _ _ _ _ => False
theorem lookup_far {α : Type} : ∀ (l : List (Str × α)), ∃ n : Nat, ∀ x : Str, n ≤ x.cps.size → l.lookup x = none
  | [] => ⟨0, fun _ _ => rfl⟩
  | p :: l => by
    obtain ⟨n, h⟩ := lookup_far l
    refine ⟨n + p.1.cps.size + 1, fun x hx => ?_⟩
    have ne : (x == p.1) = false := by
      cases e : x == p.1 with
      | false => rfl
      | true => have := eq_of_beq e; subst this; omega
    rw [List.lookup_cons, ne]
    exact h x (by omega)
theorem not_all_cells (names : List (Str × NameKind)) : ¬ (fun x => names.lookup x == some NameKind.cell) = (fun _ => true) := fun h => by
  obtain ⟨n, hn⟩ := lookup_far names
  have h1 := congrFun h ⟨Array.replicate n 0⟩
  have h2 := hn ⟨Array.replicate n 0⟩ (by simp)
  simp only [h2] at h1
  cases h1
theorem g_blk {X : Cx} {scope : Scope} {s : Shared} {H : Hp} {C : Addr} {cl : List (Str × Addr)} {fp : List Addr} (g : G P wd K mg base k N sc W X) : G P wd K mg base k N (blkS scope sc) WF (X.blk s H scope (compEnvC scope cl C X.env) fp) where
  prog := g.prog
  wd := g.wd
  kk := g.kk
  mg := g.mg
  bs := g.bs
  nn := g.nn
  scp := by show relabel scope X.env = _; unfold relabel blkS PySem.Env.kindOf; rw [g.scp]
  calm := g.calm
  room := g.room
  grd := g.grd
  tk := fun _ _ x => by obtain ⟨_, _, _, _, _, _, _, _, _, _, _, _, _, _, _, _, z⟩ := x; exact z
  pass := PassesOwn.never
  fnc := rfl
  top := fun h => absurd h (not_all_cells _)
def wipeE (Γ : DEnv) : List Nat → DEnv
  | [] => Γ
  | v :: vs => (wipeE Γ vs).set v .no
theorem fr_no {H0 : Hp} {w : Wd} {Γ : DEnv} {σ : L2.St} (f : Fr K H0 w Γ σ) (i : Nat) : Fr K H0 w (Γ.set i .no) (σ.set i none) where
  len := by simp [f.len]
  sh := fun j e h => by
    by_cases q : i = j
    · subst q
      have hl : i < Γ.length := by have := (List.getElem?_eq_some_iff.mp h).1; simpa using this
      rw [List.getElem?_set_self hl] at h; cases h
    · rw [List.getElem?_set_ne q] at h ⊢; exact f.sh j e h
  ow := fun j e h => by
    by_cases q : i = j
    · subst q
      have hl : i < Γ.length := by have := (List.getElem?_eq_some_iff.mp h).1; simpa using this
      rw [List.getElem?_set_self hl] at h; cases h
    · rw [List.getElem?_set_ne q] at h ⊢; exact f.ow j e h
  dj := fun a b d1 d2 x ne h1 h2 h3 h4 => by
    have na : i ≠ a := fun q => by
      subst q
      have hl : i < Γ.length := by have := (List.getElem?_eq_some_iff.mp h1).1; simpa using this
      rw [List.getElem?_set_self hl] at h1; cases h1
    have nb : i ≠ b := fun q => by
      subst q
      have hl : i < Γ.length := by have := (List.getElem?_eq_some_iff.mp h2).1; simpa using this
      rw [List.getElem?_set_self hl] at h2; cases h2
    rw [List.getElem?_set_ne na] at h1 h3
    rw [List.getElem?_set_ne nb] at h2 h4
    exact f.dj a b d1 d2 x ne h1 h2 h3 h4
theorem fr_wipe {H0 : Hp} {w : Wd} {Γ : DEnv} {σ : L2.St} (f : Fr K H0 w Γ σ) : ∀ vs : List Nat, Fr K H0 w (wipeE Γ vs) (wipe σ vs)
  | [] => f
  | v :: vs => fr_no (fr_wipe f vs) v
def lcL (mg : GM) (mt me : EM) : List D → DEnv → Store → List D → ER
  | [], _, st, acc => .ok (.lst acc) st
  | d :: ds, Γ, st, acc => match mg d Γ with
    | none => .no
    | some Γ1 => match mt Γ1 st with
      | .ok (.bl true) s1 => match me Γ1 s1 with
        | .ok x s2 => if acc.length < 16777216 then lcL mg mt me ds Γ s2 (acc ++ [x]) else .no
        | _ => .no
      | .ok (.bl false) s1 => lcL mg mt me ds Γ s1 acc
      | _ => .no
def eLc (vs : List Nat) (mi : EM) (mg : GM) (mt me : EM) : EM := fun Γ st => (mi Γ st).bind fun d s => match d with | .tup ds => lcL mg mt me ds (wipeE Γ vs) s [] | _ => .no
def eYes : EM := fun _ st => .ok (.bl true) st
def PTj (P : Program) (wd : World) (K : PySem.W.Frag) (mg : Str → Option Value) (base : Heap) (k : Nat) (N : List Str) (sc : SC) (W : WX) (es : List Expr) (m : EM) : Prop := ∃ t : TT, (∀ X, G P wd K mg base k N sc W X → PTs X es t) ∧ RTT K W t m
theorem pj_nil : PTj P wd K mg base k N sc W [] eYes := ⟨_, fun X g => pts_nil, fun H0 w Γ σ ok f Q p => p w (Evo.refl w) ok rfl⟩
theorem pj_one {e : Expr} {m : EM} (h : PTt P wd K mg base k N sc W e m) : PTj P wd K mg base k N sc W [e] m := let ⟨_, p, r⟩ := h; ⟨_, fun X g => pts_one (p X g), r⟩
theorem rtn_lc {wi : TI} {g : TG} {tt : TT} {te : TE} {mi mt me : EM} {mg' : GM} {is vs : List Nat} (hi : RTI K W wi mi) (hg : RTG K g mg' is) (his : ∀ i ∈ is, i ∈ vs) (ht : RTT K WF tt mt) (he : RT K WF te me) : RTN K W (tLc wi g tt te vs) (eLc vs mi mg' mt me) := by
  intro H0 w Γ σ ok f Q p
  refine hi H0 w Γ σ ok f _ ?_
  have p' : PostN K w ((mi Γ w.st).bind _) Q (at_ W σ) := p
  cases h : mi Γ w.st with
  | no => rw [h] at p'; exact p'
  | err x st => rw [h] at p'; exact p'
  | ok d st =>
    rw [h] at p'
    cases d with
    | tup ds =>
      intro J w' ev k' s it
      subst s
      have p1 : PostN K w' (lcL mg' mt me ds (wipeE Γ vs) w'.st []) Q (at_ W σ) := PostN.shift ev k' p'
      have f' := f.evo ev
      intro D hD
      have a0 := evo_al k' (.lst []) hD
      have o0 := ok_al k' (.lst []) (k'.none hD) (k'.noR hD)
      refine ⟨fun i m H => ∃ (w1 : Wd) (acc : List V) (acd : List DL.D), H = w1.H ∧ Evo w' w1 ∧ Ok K w1 ∧ w1.H D = some (.lst acc) ∧ w1.M D = none ∧ (∀ l, l < w1.st.length → w1.ρ l ≠ D) ∧ RepL K w1 acc acd ∧ m = ds.length - i ∧ i ≤ ds.length ∧ PostN K w' (lcL mg' mt me (ds.drop i) (wipeE Γ vs) w1.st acd) Q (at_ W σ),
        ⟨ds.length, w'.al D (.lst []), [], [], rfl, a0, o0, upd_same, k'.none hD, k'.noR hD, .nil, rfl, Nat.zero_le _, p1⟩, ?_⟩
      rintro i m H ⟨w1, acc, acd, rfl, e1, k1, hd1, hm1, hr1, ra, rfl, hle, q⟩
      obtain ⟨go, stop⟩ := it i w1 e1.ext k1
      cases hd : ds[i]? with
      | none =>
        refine .inl ⟨stop hd, ?_⟩
        rw [List.drop_eq_nil_of_le (List.getElem?_eq_none_iff.mp hd)] at q
        exact q D _ w1 e1 k1 rfl hD hd1 hm1 hr1 ⟨acc, rfl, ra⟩
      | some d =>
        obtain ⟨g1, g2⟩ := go d hd
        have hl := getElem?_lt hd
        refine .inr ⟨g1, fun H => ∃ (w1 : Wd) (acc : List V) (acd : List DL.D), H = w1.H ∧ Evo w' w1 ∧ Ok K w1 ∧ w1.H D = some (.lst acc) ∧ w1.M D = none ∧ (∀ l, l < w1.st.length → w1.ρ l ≠ D) ∧ RepL K w1 acc acd ∧ PostN K w' (lcL mg' mt me (ds.drop (i + 1)) (wipeE Γ vs) w1.st acd) Q (at_ W σ), ?_, fun x H2 y => ?_⟩
        · rintro H' ⟨w3, acc3, acd3, rfl, b1, b2, b3, b4, b5, b6, b7⟩
          exact ⟨ds.length - (i + 1), by omega, w3, acc3, acd3, rfl, b1, b2, b3, b4, b5, b6, rfl, hl, b7⟩
        · obtain ⟨w2, rfl, s2, e2, k2, r2⟩ := g2 x H2 y
          rw [List.drop_eq_getElem_cons hl] at q
          have hd' : ds[i] = d := by rw [List.getElem?_eq_getElem hl] at hd; exact Option.some.inj hd
          rw [hd'] at q
          unfold lcL at q
          have fw : Fr K H0 w2 (wipeE Γ vs) (wipe σ vs) := ((fr_wipe f' vs).evo e1).evo e2
          -- what is at D goes on standing while a part is evaluated
          have stand : ∀ {w3 w4 : Wd}, Evo w3 w4 → w3.H D = some (.lst acc) → w3.M D = none → (∀ l, l < w3.st.length → w3.ρ l ≠ D) → w4.H D = some (.lst acc) ∧ w4.M D = none ∧ ∀ l, l < w4.st.length → w4.ρ l ≠ D := fun {w3 w4} e h1 h2 h3 => by
            refine ⟨e.keep D _ h1 h2 h3, ?_, fun l hl z => ?_⟩
            · cases z : w4.M D with
              | none => rfl
              | some u => have y := e.newM D u z h2; rw [h1] at y; cases y
            · by_cases z2 : l < w3.st.length
              · exact h3 l z2 ((e.rho l z2).symm.trans z)
              · have y := e.newR l (Nat.le_of_not_lt z2) hl
                rw [z, h1] at y; cases y
          cases h1 : mg' d (wipeE Γ vs) with
          | none => rw [h1] at q; exact q.elim
          | some Γ2 =>
            rw [h1] at q
            dsimp only at q
            refine hg H0 w2 _ Γ2 _ x d k2 fw r2 h1 _ fun σ2 f2 wp => ⟨(wp vs his).trans (wipe_wipe vs), ?_⟩
            refine ht H0 w2 Γ2 σ2 k2 f2 _ ?_
            rw [s2]
            obtain ⟨c1, c2, c3⟩ := stand e2 hd1 hm1 hr1
            cases h2 : mt Γ2 w1.st with
            | no => rw [h2] at q; exact q.elim
            | err x st => rw [h2] at q; exact q.elim
            | ok b s1 =>
              rw [h2] at q
              cases b with
              | bl b =>
                intro w3 e3 k3 s3
                obtain ⟨d1, d2, d3⟩ := stand e3 c1 c2 c3
                have e13 : Evo w' w3 := (e1.trans k1 e2).trans k2 e3
                cases b with
                | false =>
                  refine iteF ⟨w3, acc, acd, rfl, e13, k3, d1, d2, d3, (ra.evo e2).evo e3, ?_⟩
                  rw [s3]; exact q
                | true =>
                  refine iteT ?_
                  refine he H0 w3 Γ2 σ2 k3 (f2.evo e3) _ ?_
                  rw [s3]
                  dsimp only at q
                  cases h3 : me Γ2 s1 with
                  | no => rw [h3] at q; exact q.elim
                  | err x st => rw [h3] at q; exact q.elim
                  | ok x' s4 =>
                    rw [h3] at q
                    dsimp only at q
                    intro v w4 e4 k4 s4' rv
                    obtain ⟨y1, y2, y3⟩ := stand e4 d1 d2 d3
                    by_cases hlen : acd.length < 16777216
                    · rw [if_pos hlen] at q
                      have ra4 := ((ra.evo e2).evo e3).evo e4
                      refine ⟨acc, y1, by rw [ra.1, sizeLine_eq]; exact hlen, w4.al D (.lst (acc ++ [v])), acc ++ [v], acd ++ [x'], rfl, ?_, ok_al k4 _ y2 y3, upd_same, y2, y3, RepL.ext (w := w4) (w' := w4.al D _) ⟨fun _ _ h => h, fun _ _ => rfl, Nat.le_refl _⟩ (ra4.append (.cons rv .nil)), ?_⟩
                      · have e14 := e13.trans k3 e4
                        exact ⟨e14.mono, e14.rho, e14.le, e14.newM, e14.newR, fun b u hb hmb hrb => by
                          show upd w4.H D _ b = _
                          rw [upd_ne (ne_of_none hb hD)]; exact e14.keep b u hb hmb hrb⟩
                      · show PostN K w' (lcL mg' mt me _ _ w4.st _) Q _
                        rw [s4']; exact q
                    · rw [if_neg hlen] at q; exact q.elim
              | _ => exact q.elim
    | _ => exact p'.elim
theorem pn_lc {elt tg iter : Expr} {ifs : List Expr} {scope : Scope} {own : List (Str × Nat)} {pos : Pos} {mi mt me : EM} {mg' : GM} {is : List Nat} (nd : N.Nodup) (ok : BlkOk N sc.s scope own) (hi : PIt P wd K mg base k N sc W tg iter mi) (hg : PGt P wd K mg base k N (blkS scope sc) WF tg mg' is)
    (ht : PTj P wd K mg base k N (blkS scope sc) WF ifs mt) (he : PR P wd K mg base k N (blkS scope sc) WF elt me) (his : ∀ i ∈ is, i ∈ own.map (·.2) := by decide) (hs : ∀ env x, foldedSetIterable iter env x = pure x := by intro _ _; rfl) :
    PN P wd K mg base k N sc W (.ListComp elt [⟨tg, iter, ifs, 0⟩] scope pos) (eLc (own.map (·.2)) mi mg' mt me) := by
  obtain ⟨ti, pi, ri⟩ := hi
  obtain ⟨tg', pg, rg⟩ := hg
  obtain ⟨tt, pt, rt⟩ := ht
  obtain ⟨te, pe, re⟩ := he
  exact ⟨_, fun X g => pe_lc g.calm (by rw [g.nn]; exact nd) (pi X g) (by rw [g.nn, g.scp]; exact ok) (fun s H C cl fp => pg _ (g_blk g)) (fun s H C cl fp => pt _ (g_blk g)) (fun s H C cl fp => pe _ (g_blk g)) (hs X.env), rtn_lc ri rg his rt re⟩
theorem lcL_lst {mg' : GM} {mt me : EM} {d : DL.D} {s : Store} : ∀ (ds : List DL.D) (Γ : DEnv) (st : Store) (acc : List DL.D), lcL mg' mt me ds Γ st acc = .ok d s → ∃ xs, d = .lst xs
  | [], Γ, st, acc, h => by cases h; exact ⟨_, rfl⟩
  | x :: ds, Γ, st, acc, h => by
    unfold lcL at h
    split at h
    · cases h
    · split at h
      · split at h
        · split at h
          · exact lcL_lst ds _ _ _ h
          · cases h
        · cases h
      · exact lcL_lst ds _ _ _ h
      · cases h
theorem isL_lc {vs : List Nat} {mi mt me : EM} {mg' : GM} : IsL (eLc vs mi mg' mt me) := fun Γ st d s h => by
  have h' : (mi Γ st).bind _ = .ok d s := h
  cases e : mi Γ st with
  | no => rw [e] at h'; cases h'
  | err x st => rw [e] at h'; cases h'
  | ok x s1 =>
    rw [e] at h'
    cases x with
    | tup ds => exact lcL_lst ds _ _ _ h'
    | _ => cases h'
theorem pr_lc {elt tg iter : Expr} {ifs : List Expr} {scope : Scope} {own : List (Str × Nat)} {pos : Pos} {mi mt me : EM} {mg' : GM} {is : List Nat} (nd : N.Nodup) (ok : BlkOk N sc.s scope own) (hi : PIt P wd K mg base k N sc W tg iter mi) (hg : PGt P wd K mg base k N (blkS scope sc) WF tg mg' is)
    (ht : PTj P wd K mg base k N (blkS scope sc) WF ifs mt) (he : PR P wd K mg base k N (blkS scope sc) WF elt me) (his : ∀ i ∈ is, i ∈ own.map (·.2) := by decide) (hs : ∀ env x, foldedSetIterable iter env x = pure x := by intro _ _; rfl) :
    PR P wd K mg base k N sc W (.ListComp elt [⟨tg, iter, ifs, 0⟩] scope pos) (eLc (own.map (·.2)) mi mg' mt me) := (pn_lc nd ok hi hg ht he his hs).rt isL_lc
/-- y = [..] -/
theorem ps_setlc (i : Nat) {y : Str} {py : Pos} {elt tg iter : Expr} {ifs : List Expr} {scope : Scope} {own : List (Str × Nat)} {pos spos : Pos} {mi mt me : EM} {mg' : GM} {is : List Nat} (nd : N.Nodup) (ok : BlkOk N sc.s scope own) (hi : PIt P wd K mg base k N sc W tg iter mi) (hg : PGt P wd K mg base k N (blkS scope sc) WF tg mg' is)
    (ht : PTj P wd K mg base k N (blkS scope sc) WF ifs mt) (he : PR P wd K mg base k N (blkS scope sc) WF elt me) (hsw : ∀ env, env.scope = sc.s → swapsWith (.ListComp elt [⟨tg, iter, ifs, 0⟩] scope pos) (some (.Name y py)) spos.line env = pure true) (hy : N[i]? = some y := by rfl) (hyl : sc.s.names.lookup y = some .local := by rfl)
    (his : ∀ i ∈ is, i ∈ own.map (·.2) := by decide) (hs : ∀ env x, foldedSetIterable iter env x = pure x := by intro _ _; rfl) :
    PSt P wd K mg base k N sc W (.Assign [.Name y py] (.ListComp elt [⟨tg, iter, ifs, 0⟩] scope pos) spos) (sAsg i (eLc (own.map (·.2)) mi mg' mt me)) := by
  obtain ⟨ti, pi, ri⟩ := hi
  obtain ⟨tg', pg, rg⟩ := hg
  obtain ⟨tt, pt, rt⟩ := ht
  obtain ⟨te, pe, re⟩ := he
  refine ⟨_, fun X g => ps_setLc g.calm (by rw [g.nn]; exact nd) (by rw [g.nn]; exact hy) (by rw [g.scp]; exact hyl) (hsw X.env g.scp) (pi X g) (by rw [g.nn, g.scp]; exact ok) (fun s H C cl fp => pg _ (g_blk g)) (fun s H C cl fp => pt _ (g_blk g)) (fun s H C cl fp => pe _ (g_blk g)) (hs X.env), ?_⟩
  have r : RT K W _ _ := (rtn_lc ri rg his rt re).rt isL_lc
  intro w0 w Γ σ e0 ok f Dn q
  exact r.useS e0 ok f q fun d v w1 e1 k1 f1 r1 x1 p1 => p1 w1 _ e1 (Ext.refl w1) k1 rfl (fr_set f1 r1 i)
end
end DL
namespace DL
open PySem L2
section
variable {P : Program} {wd : World} {K : PySem.W.Frag} {mg : Str → Option Value} {base : Heap} {k : Nat} {N : List Str} {sc : SC} {W : WX}

/-! ### the store's things change -/
theorem ext_same {w w' : Wd} (m : w'.M = w.M) (r : w'.ρ = w.ρ) (l : w'.st.length = w.st.length) : Ext w w' := ⟨fun _ _ h => by rw [m]; exact h, fun _ _ => by rw [r], Nat.le_of_eq l.symm⟩
def Wd.put (w : Wd) (l : Nat) (d : D) (o : HO) : Wd := { w with st := w.st.set l d, H := upd w.H (w.ρ l) o }
theorem ext_put {w : Wd} {l : Nat} {d : D} {o : HO} : Ext w (w.put l d o) := ext_same rfl rfl (by show (w.st.set l d).length = _; simp)
theorem put_ok {w : Wd} (k : Ok K w) {l : Nat} {d : D} {o : HO} (hl : l < w.st.length) (h2 : w.M (w.ρ l) = none) (r : RO K w o d) : Evo w (w.put l d o) ∧ Ok K (w.put l d o) := by
  obtain ⟨u, h1, _⟩ := k.sto l _ (List.getElem?_eq_getElem hl)
  refine ⟨⟨fun _ _ h => h, fun _ _ => rfl, ext_put.le, fun a o h n => absurd (h.symm.trans n) (fun q => nomatch q), fun m a b => ?_, fun a u' h n nl => ?_⟩, ⟨fun a u' h => ?_, fun m e h => ?_, fun a b ha hb => ?_⟩⟩
  · have b' : m < (w.st.set l d).length := b
    simp at b'; omega
  · show upd w.H _ o a = _
    rw [upd_ne (Ne.symm (nl l hl))]; exact h
  · show upd w.H _ o a = _
    have h' : w.M a = some u' := h
    rw [upd_ne (ne_of_none h' h2)]; exact k.ex a u' h'
  · have h' : (w.st.set l d)[m]? = some e := h
    by_cases q : l = m
    · subst q
      rw [List.getElem?_set_self hl] at h'; cases h'
      exact ⟨o, upd_same, .inr ⟨h2, r.ext ext_put⟩⟩
    · rw [List.getElem?_set_ne q] at h'
      obtain ⟨u2, g1, g2⟩ := k.sto m e h'
      refine ⟨u2, ?_, g2.imp id fun ⟨g2, g3⟩ => ⟨g2, g3.ext ext_put⟩⟩
      show upd w.H _ o (w.ρ m) = _
      rw [upd_ne (fun z => q (k.inj l m hl (getElem?_lt h') z.symm))]; exact g1
  · have ha' : a < (w.st.set l d).length := ha
    have hb' : b < (w.st.set l d).length := hb
    simp at ha' hb'
    exact k.inj a b ha' hb'
/-- o[i] = e: o a list, a dict of the store -/
def setAt (d : D) (i x : D) : Option D := match d, i with
  | .lst xs, .int j => match ixN xs.length j with | some n => some (.lst (xs.set n x)) | none => none
  | _, _ => none
def sSub (mo mi me : EM) : SM := fun Γ st => (me Γ st).bs Γ fun x s1 => (mo Γ s1).bs Γ fun o s2 => (mi Γ s2).bs Γ fun i s3 => match o with
  | .ref l => match s3[l]? with
    | some d => match setAt d i x with
      | some d' => .nx Γ (s3.set l d')
      | none => .no
    | none => .no
  | _ => .no
theorem ps_sub' {o i e : Expr} {mo mi me : EM} {pos pos' : Pos} (he : PR P wd K mg base k N sc W e me) (ho : PR P wd K mg base k N sc W o mo) (hi : PR P wd K mg base k N sc W i mi)
    (ha : ∀ env v, assign (.Subscript o i pos') env v = (do let ov ← holding [v] (eval o env); let iv ← holding [v, ov] (eval i env); standAt pos'; holding [v, ov, iv] (setItem ov iv v); release [v, ov, iv] []) := by intro _ _; rfl)
    (hs : ∀ env, swapsWithSole [.Subscript o i pos'] e pos.line env = pure false := by intro _; rfl) (hw : ∀ env, swappedStores [.Subscript o i pos'] e env = pure none := by intro _; rfl) :
    PSt P wd K mg base k N sc W (.Assign [.Subscript o i pos'] e pos) (sSub mo mi me) := by
  obtain ⟨te, pe, re⟩ := he
  obtain ⟨to, po, ro⟩ := ho
  obtain ⟨ti, pi, ri⟩ := hi
  refine ⟨tAsg te (gSub to ti rSetL), fun X g => ps_asg (pe X g) (pg_sub (po X g) (pi X g) set_list (fun v => ha X.env v)) (hs X.env) (hw X.env), ?_⟩
  intro w0 w Γ σ e0 ok f Dn q
  refine re.useS e0 ok f q fun x v w1 e1 k1 f1 r1 x1 p1 => ?_
  refine ro.useS e1 k1 f1 p1 fun o u w2 e2 k2 f2 r2 x2 p2 => ?_
  refine ri.useS e2 k2 f2 p2 fun i y w3 e3 k3 f3 r3 x3 p3 => ?_
  have r1' := (r1.ext x2).ext x3
  cases r2 with
  | @ref l hl =>
    have hl3 : l < w3.st.length := Nat.lt_of_lt_of_le hl x3.le
    dsimp only at p3
    rw [List.getElem?_eq_getElem hl3] at p3
    dsimp only at p3
    have lv := fun h => k3.live (List.getElem?_eq_getElem hl3) h
    revert p3 lv
    cases w3.st[l] with
    | lst xs =>
      cases i with
      | int j =>
        cases r3
        intro p3 lv
        obtain ⟨ob, h1, h2, h3⟩ := lv (by simp)
        obtain ⟨vs, rfl, rl⟩ := h3
        dsimp only [setAt] at p3
        cases hj : ixN xs.length j with
        | none => rw [hj] at p3; exact p3.elim
        | some n =>
          rw [hj] at p3
          dsimp only at p3
          obtain ⟨ev, kv⟩ := put_ok (o := .lst (vs.set n v)) (d := .lst (xs.set n x)) k3 hl3 h2 ⟨_, rfl, rl.set r1' n⟩
          rw [← x3.rho l hl]
          refine ⟨w3.ρ l, vs, j, n, rfl, rfl, h1, by rw [rl.1]; exact hj, ?_⟩
          exact p3 (w3.put l _ _) σ (e3.trans k3 ev) ev.ext kv rfl (f3.evo ev)
      | _ => intro p3; exact p3.elim
    | _ => intro p3; exact p3.elim
  | _ => exact p3.elim

/-! ### own things -/
def sNew (i : Nat) (m : EM) : SM := fun Γ st => (m Γ st).bs Γ fun d s => .nx (Γ.set i (.ow d)) s
theorem fr_own {H0 : Hp} {w : Wd} {Γ : DEnv} {σ : L2.St} (f : Fr K H0 w Γ σ) {a : Addr} {o : HO} {d : D} (ha : w.H a = some o) (hm : w.M a = none) (h0 : H0 a = none) (hr : ∀ l, l < w.st.length → w.ρ l ≠ a) (r : RO K w o d) (i : Nat)
    (hn : ∀ (j : Nat) (e : D), j ≠ i → Γ[j]? = some (.ow e) → σ[j]? ≠ some (some (.ref a))) : Fr K H0 w (Γ.set i (.ow d)) (σ.set i (some (.ref a))) where
  len := by simp [f.len]
  sh := fun j e h => by
    by_cases q : i = j
    · subst q
      have hl : i < Γ.length := by have := (List.getElem?_eq_some_iff.mp h).1; simpa using this
      rw [List.getElem?_set_self hl] at h; cases h
    · rw [List.getElem?_set_ne q] at h ⊢; exact f.sh j e h
  ow := fun j e h => by
    by_cases q : i = j
    · subst q
      have hl : i < Γ.length := by have := (List.getElem?_eq_some_iff.mp h).1; simpa using this
      rw [List.getElem?_set_self hl] at h; cases h
      exact ⟨a, o, List.getElem?_set_self (by rw [f.len]; exact hl), ha, hm, h0, hr, r⟩
    · rw [List.getElem?_set_ne q] at h ⊢; exact f.ow j e h
  dj := fun x y d1 d2 b ne h1 h2 h3 h4 => by
    by_cases qx : i = x
    · subst qx
      have hl : i < Γ.length := by have := (List.getElem?_eq_some_iff.mp h1).1; simpa using this
      rw [List.getElem?_set_self (by rw [f.len]; exact hl)] at h3
      cases h3
      rw [List.getElem?_set_ne ne] at h2 h4
      exact hn y d2 (Ne.symm ne) h2 h4
    · rw [List.getElem?_set_ne qx] at h1 h3
      by_cases qy : i = y
      · subst qy
        have hl : i < Γ.length := by have := (List.getElem?_eq_some_iff.mp h2).1; simpa using this
        rw [List.getElem?_set_self (by rw [f.len]; exact hl)] at h4
        cases h4
        exact hn x d1 (Ne.symm qx) h1 h3
      · rw [List.getElem?_set_ne qy] at h2 h4
        exact f.dj x y d1 d2 b ne h1 h2 h3 h4
/-- x = something new: x's own -/
theorem rts_new {t : TE} {m : EM} (h : RTN K W t m) (i : Nat) : RTS K W (tAsg t (gName i)) (sNew i m) := by
  intro w0 w Γ σ e0 ok f Dn p
  refine h w0.H w Γ σ ok f _ ?_
  have p' : PostS K w0 w ((m Γ w.st).bs Γ _) Dn W := p
  cases e : m Γ w.st with
  | no => rw [e] at p'; exact p'
  | err x st => rw [e] at p'; exact fun c dd w' ev k' s r => p' c dd w' σ (e0.trans ok ev) ev.ext k' s (f.evo ev) r
  | ok d st =>
    rw [e] at p'
    intro a o w' ev k' s ha ho hm hr r
    refine p' w' _ (e0.trans ok ev) ev.ext k' s ?_
    refine fr_own (f.evo ev) ho hm (e0.dom0 ok ha) hr r i fun j e' nj hj hs => ?_
    obtain ⟨b, u, h1, h2, _⟩ := f.ow j e' hj
    rw [hs] at h1; cases h1
    rw [ha] at h2; cases h2
theorem ps_new' (i : Nat) {x : Str} {e : Expr} {m : EM} {pos pos' : Pos} (nd : N.Nodup) (h : PN P wd K mg base k N sc W e m) (hi : N[i]? = some x := by rfl) (hx : Loc sc.s x := by first | exact Or.inl rfl | exact Or.inr rfl) (hf : sc.fn x = true ∨ sc.s.names.lookup x = some .local := by first | exact Or.inl rfl | exact Or.inr rfl)
    (hw : ∀ env, swappedStores [.Name x pos'] e env = pure none := by intro _; rfl) (hn : ∀ env, swapsWithSole [.Name x pos'] e pos.line env = pure false := by intro _; rfl) :
    PSt P wd K mg base k N sc W (.Assign [.Name x pos'] e pos) (sNew i m) := by
  obtain ⟨t, p, r⟩ := h
  refine ⟨tAsg t (gName i), fun X g => ps_asg (p X g) (pg_name (by rw [g.nn]; exact nd) (by rw [g.nn]; exact hi) (by rw [g.scp]; exact hx) ?_) (hn X.env) (hw X.env), rts_new r i⟩
  rw [g.fnc, g.scp]; exact hf
theorem pn_lst {es : List Expr} {ms : EM} {pos : Pos} (h : PAr P wd K mg base k N sc W es ms) : PN P wd K mg base k N sc W (.List es pos) (eLst ms) := by
  obtain ⟨t, p, r⟩ := h
  refine ⟨_, fun X g => pe_lst (p X g), ?_⟩
  intro H0 w Γ σ ok f Q q
  refine RTA.use (P := fun w r => PostN K w r Q (at_ W σ)) r ok f (fun _ _ e k p => p.shift e k) (fun _ _ p => p) (fun p => p) (fun d st hb => by cases d <;> first | rfl | exact absurd rfl (hb _)) q fun ds vs w1 e1 k1 f1 r1 p1 => ?_
  have p2 : PostN K w1 (if ds.length ≤ 16777216 then .ok (.lst ds) w1.st else .no) Q (at_ W σ) := p1
  by_cases hl : ds.length ≤ 16777216
  · rw [if_pos hl] at p2
    exact ⟨by rw [r1.1, sizeLine_eq]; exact hl, fun a ha => p2.al k1 ha ⟨vs, rfl, r1⟩⟩
  · rw [if_neg hl] at p2; exact p2.elim
/-- an own thing becomes shared (lists) -/
def frz (i : Nat) (Γ : DEnv) : DEnv := match Γ[i]? with
  | some (.ow (.lst xs)) => Γ.set i (.sh (.lst xs))
  | _ => Γ
theorem fr_frz {w0 w : Wd} {Γ : DEnv} {σ : L2.St} (e0 : Evo w0 w) (k : Ok K w) (f : Fr K w0.H w Γ σ) (i : Nat) : ∃ w' : Wd, w'.H = w.H ∧ w'.st = w.st ∧ Evo w0 w' ∧ Ext w w' ∧ Ok K w' ∧ Fr K w0.H w' (frz i Γ) σ := by
  unfold frz
  split
  · rename_i xs hi
    obtain ⟨a, o, h1, h2, h3, h4, h5, h6⟩ := f.ow i _ hi
    obtain ⟨vs, rfl, rl⟩ := h6
    have x : Ext w { w with M := upd w.M a (.lst vs) } := ⟨fun b u q => by show upd w.M a _ b = _; rw [upd_ne (ne_of_none q h3)]; exact q, fun _ _ => rfl, Nat.le_refl _⟩
    have hl := getElem?_lt hi
    refine ⟨{ w with M := upd w.M a (.lst vs) }, rfl, rfl, ⟨(e0.ext.trans x).mono, e0.rho, e0.le, fun b u q n => ?_, e0.newR, e0.keep⟩, x, ⟨fun b u q => ?_, fun l d q => ?_, k.inj⟩, ⟨?_, fun j d h => ?_, fun j d h => ?_, fun y z d e b ne g1 g2 g3 => ?_⟩⟩
    · have q' : upd w.M a (.lst vs) b = some u := q
      by_cases z : b = a
      · rw [z]; exact h4
      · rw [upd_ne z] at q'; exact e0.newM b u q' n
    · have q' : upd w.M a (.lst vs) b = some u := q
      by_cases z : b = a
      · rw [z, upd_same] at q'; cases q'; rw [z]; exact h2
      · rw [upd_ne z] at q'; exact k.ex b u q'
    · obtain ⟨u, g1, g2⟩ := k.sto l d q
      refine ⟨u, g1, g2.imp id fun ⟨g2, g3⟩ => ⟨?_, g3.ext x⟩⟩
      show upd w.M a (.lst vs) (w.ρ l) = _
      rw [upd_ne (h5 l (getElem?_lt q))]; exact g2
    · simp [f.len]
    · by_cases z : i = j
      · subst z
        rw [List.getElem?_set_self hl] at h; cases h
        have r' := rl.ext x
        exact ⟨_, h1, .lst (by show upd w.M a _ a = _; exact upd_same) r'.1 r'.2⟩
      · rw [List.getElem?_set_ne z] at h
        obtain ⟨v, g1, g2⟩ := f.sh j d h
        exact ⟨v, g1, g2.ext x⟩
    · by_cases z : i = j
      · subst z
        rw [List.getElem?_set_self hl] at h; cases h
      · rw [List.getElem?_set_ne z] at h
        obtain ⟨b, u, g1, g2, g3, g4, g5, g6⟩ := f.ow j d h
        have nb : b ≠ a := fun q => f.dj i j _ d a z hi h h1 (by rw [g1, q])
        refine ⟨b, u, g1, g2, ?_, g4, g5, g6.ext x⟩
        show upd w.M a _ b = _
        rw [upd_ne nb]; exact g3
    · have ny : i ≠ y := fun q => by subst q; rw [List.getElem?_set_self hl] at g1; cases g1
      have nz : i ≠ z := fun q => by subst q; rw [List.getElem?_set_self hl] at g2; cases g2
      rw [List.getElem?_set_ne ny] at g1
      rw [List.getElem?_set_ne nz] at g2
      exact f.dj y z d e b ne g1 g2 g3
  · exact ⟨w, rfl, rfl, e0, Ext.refl w, k, f⟩
def sFrz (i : Nat) (m : SM) : SM := fun Γ st => m (frz i Γ) st
/-- ahead of these statements x's list is shared -/
theorem ps_frz (i : Nat) {ss : List Stmt} {m : SM} (h : PSl P wd K mg base k N sc W ss m) : PSl P wd K mg base k N sc W ss (sFrz i m) := by
  obtain ⟨t, p, r⟩ := h
  refine ⟨t, p, ?_⟩
  intro w0 w Γ σ e0 ok f Dn q
  obtain ⟨w', h1, h2, h3, h4, h5, h6⟩ := fr_frz e0 ok f i
  rw [← h1]
  exact r w0 w' _ σ h3 h5 h6 Dn (by rw [h2]; exact q.shift h4)
/-- an own thing changes -/
theorem ow_put {w0 w : Wd} {Γ : DEnv} {σ : L2.St} (e0 : Evo w0 w) (k : Ok K w) (f : Fr K w0.H w Γ σ) {i : Nat} {d d' : D} (hi : Γ[i]? = some (.ow d)) {a : Addr} (ha : σ[i]? = some (some (.ref a))) {o' : HO} (r : RO K w o' d') :
    Evo w0 (w.al a o') ∧ Ext w (w.al a o') ∧ Ok K (w.al a o') ∧ Fr K w0.H (w.al a o') (Γ.set i (.ow d')) σ := by
  obtain ⟨a', o, h1, h2, h3, h4, h5, h6⟩ := f.ow i d hi
  rw [ha] at h1; cases h1
  have x : Ext w (w.al a o') := ext_same rfl rfl rfl
  have hl := getElem?_lt hi
  refine ⟨⟨e0.mono, e0.rho, e0.le, e0.newM, e0.newR, fun b u hb hm hr => ?_⟩, x, ok_al k o' h3 h5, ⟨by simp [f.len], fun j e h => ?_, fun j e h => ?_, fun y z d1 e1 b ne g1 g2 g3 => ?_⟩⟩
  · show upd w.H a o' b = _
    rw [upd_ne (ne_of_none hb h4)]; exact e0.keep b u hb hm hr
  · by_cases z : i = j
    · subst z; rw [List.getElem?_set_self hl] at h; cases h
    · rw [List.getElem?_set_ne z] at h
      obtain ⟨v, g1, g2⟩ := f.sh j e h
      exact ⟨v, g1, g2.ext x⟩
  · by_cases z : i = j
    · subst z; rw [List.getElem?_set_self hl] at h; cases h
      exact ⟨a, o', ha, upd_same, h3, h4, h5, r.ext x⟩
    · rw [List.getElem?_set_ne z] at h
      obtain ⟨b, u, g1, g2, g3, g4, g5, g6⟩ := f.ow j e h
      have nb : b ≠ a := fun q => f.dj i j _ e a z hi h ha (by rw [g1, q])
      refine ⟨b, u, g1, ?_, g3, g4, g5, g6.ext x⟩
      show upd w.H a _ b = _
      rw [upd_ne nb]; exact g2
  · have c : ∀ {j : Nat} {e : D}, (Γ.set i (.ow d'))[j]? = some (.ow e) → ∃ e', Γ[j]? = some (.ow e') := fun {j e} h => by
      by_cases z : i = j
      · subst z; exact ⟨d, hi⟩
      · rw [List.getElem?_set_ne z] at h; exact ⟨e, h⟩
    obtain ⟨d2, c1⟩ := c g1
    obtain ⟨e2, c2⟩ := c g2
    exact f.dj y z d2 e2 b ne c1 c2 g3
/-- how a built-in's method is called, whatever the frame -/
structure BmS (o : Expr) (name : Str) (e : Expr) (es : List Expr) (apos cpos : Pos) : Prop where
  base : ∀ env, attributeBase o name env (eval o env) = eval o env := by intro _; rfl
  few : ∀ env, ((backTo cpos (starEach (e :: es) env)).all (fun x => !x.1) && (backToKw cpos (keywordEach [] env)).all (fun x => x.1.isSome)
      && decide ((e :: es).length + ([] : List Keyword).length + (if ([] : List Keyword).isEmpty then 0 else 1) < 30)) = true := by intro _; rfl
  line : (apos.endLine == cpos.line) = true := by rfl
  star : ∀ env, starEach (e :: es) env = (false, eval e env) :: starEach es env := by intro _; rfl
  plain : ∀ env, (backTo cpos (starEach es env)).any (·.1) = false := by intro _; rfl
/-- x.append(e), x its own list -/
def sApp (i : Nat) (m : EM) : SM := fun Γ st => match Γ[i]? with
  | some (.ow (.lst xs)) => (m Γ st).bs Γ fun d s => if xs.length < 16777216 then .nx (Γ.set i (.ow (.lst (xs ++ [d])))) s else .no
  | _ => .no
theorem ps_app' (i : Nat) {x : Str} {e : Expr} {m : EM} {pos xpos apos cpos : Pos} (h : PR P wd K mg base k N sc W e m) (b : BmS (.Name x xpos) "append" e [] apos cpos) (hN : N[i]? = some x := by rfl) (hv : Vis sc.s x := by first | exact Or.inl rfl | exact Or.inr (Or.inl rfl) | exact Or.inr (Or.inr rfl)) (hd : (x == ("__debug__" : Str)) = false := by decide)
    (hcd : (x == ("__classdict__" : Str)) = false := by decide) (hsw : ∀ env, swapsWith (.Call (.Attribute (.Name x xpos) "append" apos) [e] [] cpos) none pos.line env = pure false := by intro _; rfl) :
    PSt P wd K mg base k N sc W (.Expr (.Call (.Attribute (.Name x xpos) "append" apos) [e] [] cpos) pos) (sApp i m) := by
  obtain ⟨t, p, r⟩ := h
  refine ⟨tDrop (tBM K "list" rAppend (tVar i) (tCons t tNil)), fun X g => ps_expr (by
    have := pe_bm (X := X) PySem.F.plainAttrs_list PySem.F.slot_list_append PySem.F.type_list_append mt_append (pe_var (pos := xpos) (by rw [g.nn]; exact hN) (by rw [g.scp]; exact hv) hd hcd) (pa_cons (p X g) pa_nil (b.star X.env)) (cpos := cpos) (apos := apos) (b.base X.env) (b.few X.env) b.line (b.star X.env) (b.plain X.env)
    rw [g.kk] at this; exact this) (hsw X.env), ?_⟩
  intro w0 w Γ σ e0 ok f Dn q
  unfold sApp at q
  split at q
  · rename_i xs hi
    obtain ⟨a, o, h1, h2, h3, h4, h5, h6⟩ := f.ow i _ hi
    obtain ⟨vs, rfl, rl⟩ := h6
    refine ⟨_, h1, .inl ⟨rfl, vs, SqL.of h2⟩, ?_⟩
    refine r.useS e0 ok f q fun d v w1 e1 k1 f1 r1 x1 p1 => ?_
    obtain ⟨a', o', g1, g2, _, _, _, g6⟩ := f1.ow i _ hi
    rw [h1] at g1; cases g1
    obtain ⟨us, rfl, ru⟩ := g6
    by_cases hl : xs.length < 16777216
    · rw [if_pos hl] at p1
      refine ⟨a, us, v, rfl, rfl, g2, by rw [ru.1, sizeLine_eq]; exact hl, ?_⟩
      obtain ⟨c1, c2, c3, c4⟩ := ow_put e1 k1 f1 hi h1 (o' := .lst (us ++ [v])) (d' := .lst (xs ++ [d])) ⟨_, rfl, ru.append (.cons r1 .nil)⟩
      exact p1 _ σ c1 c2 c3 rfl c4
    · rw [if_neg hl] at p1; exact p1.elim
  · exact q.elim
/-- l.append(e), l a list of the store -/
def sAppR (mo me : EM) : SM := fun Γ st => (mo Γ st).bs Γ fun o s1 => match o with
  | .ref l => match s1[l]? with
    | some (.lst _) => (me Γ s1).bs Γ fun d s2 => match s2[l]? with
      | some (.lst xs) => if xs.length < 16777216 then .nx Γ (s2.set l (.lst (xs ++ [d]))) else .no
      | _ => .no
    | _ => .no
  | _ => .no
theorem ps_appR {o e : Expr} {mo me : EM} {pos apos cpos : Pos} (ho : PR P wd K mg base k N sc W o mo) (h : PR P wd K mg base k N sc W e me) (b : BmS o "append" e [] apos cpos) (hsw : ∀ env, swapsWith (.Call (.Attribute o "append" apos) [e] [] cpos) none pos.line env = pure false := by intro _; rfl) :
    PSt P wd K mg base k N sc W (.Expr (.Call (.Attribute o "append" apos) [e] [] cpos) pos) (sAppR mo me) := by
  obtain ⟨to, po, ro⟩ := ho
  obtain ⟨t, p, r⟩ := h
  refine ⟨tDrop (tBM K "list" rAppend to (tCons t tNil)), fun X g => ps_expr (by
    have := pe_bm (X := X) PySem.F.plainAttrs_list PySem.F.slot_list_append PySem.F.type_list_append mt_append (po X g) (pa_cons (p X g) pa_nil (b.star X.env)) (cpos := cpos) (apos := apos) (b.base X.env) (b.few X.env) b.line (b.star X.env) (b.plain X.env)
    rw [g.kk] at this; exact this) (hsw X.env), ?_⟩
  intro w0 w Γ σ e0 ok f Dn q
  refine ro.useS e0 ok f q fun o u w1 e1 k1 f1 r1 x1 p1 => ?_
  cases r1 with
  | @ref l hl =>
    dsimp only at p1
    split at p1
    · rename_i ys hy
      obtain ⟨ob, g1, g2, g3⟩ := k1.live hy (by simp)
      obtain ⟨vs, rfl, rl⟩ := g3
      refine ⟨.inl ⟨rfl, vs, SqL.of g1⟩, ?_⟩
      refine r.useS e1 k1 f1 p1 fun d v w2 e2 k2 f2 r2 x2 p2 => ?_
      split at p2
      · rename_i xs hx
        obtain ⟨ob, h1, h2, h3⟩ := k2.live hx (by simp)
        obtain ⟨us, rfl, ru⟩ := h3
        by_cases hq : xs.length < 16777216
        · rw [if_pos hq] at p2
          obtain ⟨ev, kv⟩ := put_ok (o := .lst (us ++ [v])) (d := .lst (xs ++ [d])) k2 (getElem?_lt hx) h2 ⟨_, rfl, ru.append (.cons r2 .nil)⟩
          rw [← x2.rho l hl]
          exact ⟨w2.ρ l, us, v, rfl, rfl, h1, by rw [ru.1, sizeLine_eq]; exact hq, p2 (w2.put l _ _) σ (e2.trans k2 ev) ev.ext kv rfl (f2.evo ev)⟩
        · rw [if_neg hq] at p2; exact p2.elim
      · exact p2.elim
    · exact p1.elim
  | _ => exact p1.elim

/-! ### texts -/
def strsOf : List D → Option (List Str)
  | [] => some []
  | .str x :: r => (strsOf r).map (x :: ·)
  | _ => none
theorem strsOf_rep {w : Wd} : ∀ {ds : List D} {ys : List Str} {vs : List V}, strsOf ds = some ys → RepL K w vs ds → vs = ys.map V.str
  | [], ys, vs, h, r => by cases h; rw [r.inv0]; rfl
  | d :: ds, ys, vs, h, r => by
    obtain ⟨v, us, rfl, r1, r2⟩ := r.inv
    cases d with
    | str x =>
      cases q : strsOf ds with
      | none => simp [strsOf, q] at h
      | some zs =>
        simp only [strsOf, q, Option.map_some, Option.some.injEq] at h
        subst h
        cases r1
        rw [strsOf_rep q r2]; rfl
    | _ => simp [strsOf] at h
/-- sep.join(xs) -/
def oJoin : D → D → Store → ER
  | .str a, .lst ds, st => match strsOf ds with
    | some ys => if (ys.map (·.length)).sum + ys.length * a.length ≤ 16777216 then .ok (.str (Txt.join a ys)) st else .no
    | none => .no
  | .str a, .tup ds, st => match strsOf ds with
    | some ys => if (ys.map (·.length)).sum + ys.length * a.length ≤ 16777216 then .ok (.str (Txt.join a ys)) st else .no
    | none => .no
  | _, _, _ => .no
end
end DL
namespace DL
open PySem L2
section
variable {P : Program} {wd : World} {K : PySem.W.Frag} {mg : Str → Option Value} {base : Heap} {k : Nat} {N : List Str} {sc : SC} {W : WX}
/-- o.m(e), o a text -/
def eM1 (f : D → D → Store → ER) (mo me : EM) : EM := fun Γ st => (mo Γ st).bind fun o s1 => match o with
  | .str x => (me Γ s1).bind fun e s2 => f (.str x) (deref s2 e) s2
  | _ => .no
theorem rt_m1 {r : V → List V → Hp → VK → Prop} {f : D → D → Store → ER} {to te : TE} {mo me : EM} (h : OpD K (fun x y H Q => r x [y] H Q) f) (ro : RT K W to mo) (re : RB K W te me) : RT K W (tM1 r to te) (eM1 f mo me) := by
  intro H0 w Γ σ ok f0 Q p
  refine RT.use (P := fun w r => PostE K w r Q (at_ W σ)) ro ok f0 (fun _ _ e k p => p.shift e k) (fun _ _ p => p) (fun p => p) p fun dx x w1 e1 k1 f1 rx p1 => ?_
  cases rx with
  | @str z =>
    refine ⟨⟨z, rfl⟩, ?_⟩
    refine RB.use (P := fun w r => PostE K w r Q (at_ W σ)) re k1 f1 (fun _ _ e k p => p.shift e k) (fun _ _ p => p) (fun p => p) p1 fun dy y w2 e2 k2 f2 vy p2 => ?_
    exact h w2 (.str z) y (.str z) _ Q _ k2 rfl (vy.vw k2 f2) p2
  | _ => exact p1.elim
theorem pr_m1 {r : V → List V → Hp → VK → Prop} {f : D → D → Store → ER} {id : String} {name : Str} {o e : Expr} {mo me : EM} {apos pos : Pos} (slot : Slot "str" name id) (ty : typeOf (.builtin id) = pure (.type "method_descriptor")) (rule : ∀ X, G P wd K mg base k N sc W X → MtR X id r) (h : OpD K (fun x y H Q => r x [y] H Q) f)
    (ho : PR P wd K mg base k N sc W o mo) (he : PB P wd K mg base k N sc W e me) (hs : ∀ env, starEach [e] env = [(false, eval e env)] := by intro _; rfl) (hbase : ∀ env, attributeBase o name env (eval o env) = eval o env := by intro _; rfl) (hline : (apos.endLine == pos.line) = true := by rfl) :
    PR P wd K mg base k N sc W (.Call (.Attribute o name apos) [e] [] pos) (eM1 f mo me) := by
  obtain ⟨to, po, ro⟩ := ho
  obtain ⟨te, pe, re⟩ := he
  exact ⟨_, fun X g => pe_m1 slot ty (rule X g) (po X g) (pe X g) (hs X.env) (hbase X.env) hline, rt_m1 h ro re⟩
theorem od_join : OpD K (fun x y H Q => ∃ a p, ∃ ys : List Str, x = .str a ∧ [y] = [V.ref p] ∧ (SqL K H p (ys.map V.str) ∨ SqT K H p (ys.map V.str)) ∧ (ys.map (·.length)).sum + ys.length * a.length ≤ 16777216 ∧ Q (.str (Txt.join a ys)) H) oJoin := fun w x y dx dy Q E k vx vy p => by
  cases dx <;> cases dy <;> try exact p.elim
  case str.lst a ds =>
    obtain rfl := vx
    obtain ⟨b, vs, rfl, h, r⟩ := vy
    have p' : PostE K w (match strsOf ds with | some ys => if (ys.map (·.length)).sum + ys.length * a.length ≤ 16777216 then .ok (.str (Txt.join a ys)) w.st else .no | none => .no) Q E := p
    cases q : strsOf ds with
    | none => rw [q] at p'; exact p'.elim
    | some ys =>
      rw [q] at p'
      have e := strsOf_rep q r
      subst e
      obtain ⟨hz, p'⟩ := PostE.ite p'
      exact ⟨a, b, ys, rfl, rfl, .inl (SqL.of h), hz, p'.now k .str⟩
  case str.tup a ds =>
    obtain rfl := vx
    obtain ⟨b, vs, rfl, h, r⟩ := vy
    have p' : PostE K w (match strsOf ds with | some ys => if (ys.map (·.length)).sum + ys.length * a.length ≤ 16777216 then .ok (.str (Txt.join a ys)) w.st else .no | none => .no) Q E := p
    cases q : strsOf ds with
    | none => rw [q] at p'; exact p'.elim
    | some ys =>
      rw [q] at p'
      have e := strsOf_rep q r
      subst e
      obtain ⟨hz, p'⟩ := PostE.ite p'
      exact ⟨a, b, ys, rfl, rfl, .inr h, hz, p'.now k .str⟩
theorem pr_join {o e : Expr} {mo me : EM} {apos pos : Pos} (ho : PR P wd K mg base k N sc W o mo) (he : PB P wd K mg base k N sc W e me) (hs : ∀ env, starEach [e] env = [(false, eval e env)] := by intro _; rfl) (hbase : ∀ env, attributeBase o "join" env (eval o env) = eval o env := by intro _; rfl) (hline : (apos.endLine == pos.line) = true := by rfl) :
    PR P wd K mg base k N sc W (.Call (.Attribute o "join" apos) [e] [] pos) (eM1 oJoin mo me) :=
  pr_m1 PySem.F.slot_str_join PySem.F.type_str_join (fun X g => by have := mt_join (X := X); rw [g.kk] at this; exact this) od_join ho he hs hbase hline

/-! ### comparisons by name -/
variable {a b : Expr} {ma mb : EM} {pos : Pos}
theorem pr_lt (ha : PB P wd K mg base k N sc W a ma) (hb : PB P wd K mg base k N sc W b mb) : PR P wd K mg base k N sc W (.Compare a [.Lt] [b] pos) (eOp oLt ma mb) := pr_cmp (fun X g => OpR.or' op_lt op_lt_str) od_lt ha hb
theorem pr_le (ha : PB P wd K mg base k N sc W a ma) (hb : PB P wd K mg base k N sc W b mb) : PR P wd K mg base k N sc W (.Compare a [.LtE] [b] pos) (eOp oLe ma mb) := pr_cmp (fun X g => OpR.or' op_le op_le_str) od_le ha hb
theorem pr_gt (ha : PB P wd K mg base k N sc W a ma) (hb : PB P wd K mg base k N sc W b mb) : PR P wd K mg base k N sc W (.Compare a [.Gt] [b] pos) (eOp oGt ma mb) := pr_cmp (fun X g => OpR.or' op_gt op_gt_str) od_gt ha hb
theorem pr_ge (ha : PB P wd K mg base k N sc W a ma) (hb : PB P wd K mg base k N sc W b mb) : PR P wd K mg base k N sc W (.Compare a [.GtE] [b] pos) (eOp oGe ma mb) := pr_cmp (fun X g => OpR.or' op_ge op_ge_str) od_ge ha hb
theorem pr_eq (ha : PB P wd K mg base k N sc W a ma) (hb : PB P wd K mg base k N sc W b mb) : PR P wd K mg base k N sc W (.Compare a [.Eq] [b] pos) (eOp oEq ma mb) := pr_cmp (fun X g => OpR.or' op_eq (by rw [← g.kk]; exact op_eqD g.room.units)) od_eq ha hb
theorem pr_ne (ha : PB P wd K mg base k N sc W a ma) (hb : PB P wd K mg base k N sc W b mb) : PR P wd K mg base k N sc W (.Compare a [.NotEq] [b] pos) (eOp oNe ma mb) := pr_cmp (fun X g => OpR.or' op_ne (by rw [← g.kk]; exact op_neD g.room.units)) od_ne ha hb
theorem pr_isN (ha : PB P wd K mg base k N sc W a ma) (hb : PB P wd K mg base k N sc W b mb) : PR P wd K mg base k N sc W (.Compare a [.Is] [b] pos) (eOp oIsN ma mb) := pr_cmp (fun X g => op_isN) od_isN ha hb
theorem pr_notN (ha : PB P wd K mg base k N sc W a ma) (hb : PB P wd K mg base k N sc W b mb) : PR P wd K mg base k N sc W (.Compare a [.IsNot] [b] pos) (eOp oNotN ma mb) := pr_cmp (fun X g => op_notN) od_notN ha hb
theorem pt_lt (ha : PB P wd K mg base k N sc W a ma) (hb : PB P wd K mg base k N sc W b mb) : PTt P wd K mg base k N sc W (.Compare a [.Lt] [b] pos) (eOp oLt ma mb) := pt_cmp' (fun X g => OpR.or' op_lt op_lt_str) od_lt ha hb
theorem pt_le (ha : PB P wd K mg base k N sc W a ma) (hb : PB P wd K mg base k N sc W b mb) : PTt P wd K mg base k N sc W (.Compare a [.LtE] [b] pos) (eOp oLe ma mb) := pt_cmp' (fun X g => OpR.or' op_le op_le_str) od_le ha hb
theorem pt_gt (ha : PB P wd K mg base k N sc W a ma) (hb : PB P wd K mg base k N sc W b mb) : PTt P wd K mg base k N sc W (.Compare a [.Gt] [b] pos) (eOp oGt ma mb) := pt_cmp' (fun X g => OpR.or' op_gt op_gt_str) od_gt ha hb
theorem pt_ge (ha : PB P wd K mg base k N sc W a ma) (hb : PB P wd K mg base k N sc W b mb) : PTt P wd K mg base k N sc W (.Compare a [.GtE] [b] pos) (eOp oGe ma mb) := pt_cmp' (fun X g => OpR.or' op_ge op_ge_str) od_ge ha hb
theorem pt_eq (ha : PB P wd K mg base k N sc W a ma) (hb : PB P wd K mg base k N sc W b mb) : PTt P wd K mg base k N sc W (.Compare a [.Eq] [b] pos) (eOp oEq ma mb) := pt_cmp' (fun X g => OpR.or' op_eq (by rw [← g.kk]; exact op_eqD g.room.units)) od_eq ha hb
theorem pt_ne (ha : PB P wd K mg base k N sc W a ma) (hb : PB P wd K mg base k N sc W b mb) : PTt P wd K mg base k N sc W (.Compare a [.NotEq] [b] pos) (eOp oNe ma mb) := pt_cmp' (fun X g => OpR.or' op_ne (by rw [← g.kk]; exact op_neD g.room.units)) od_ne ha hb
theorem pt_isN (ha : PB P wd K mg base k N sc W a ma) (hb : PB P wd K mg base k N sc W b mb) : PTt P wd K mg base k N sc W (.Compare a [.Is] [b] pos) (eOp oIsN ma mb) := pt_cmp' (fun X g => op_isN) od_isN ha hb
theorem pt_notN (ha : PB P wd K mg base k N sc W a ma) (hb : PB P wd K mg base k N sc W b mb) : PTt P wd K mg base k N sc W (.Compare a [.IsNot] [b] pos) (eOp oNotN ma mb) := pt_cmp' (fun X g => op_notN) od_notN ha hb
end
/-- where a def of the text stands -/
def HF (K : PySem.W.Frag) (mg : Str → Option Value) (x : Str) (st : Stmt) : Prop := ∃ (f : Addr) (fd : FuncData), Fun K x x st f fd ∧ mg x = some (.ref f)
section
variable {P : Program} {wd : World} {K : PySem.W.Frag} {mg : Str → Option Value} {base : Heap} {k : Nat} {N : List Str}
theorem fn_ok {x : Str} {st : Stmt} {ps : List Str} {m : SM} (h : HF K mg x st) (S : FnScope N ps (defScope st)) (hb : ∀ (kV doc pm : Value) (an : Option Addr) (cdv ct : Value) (us : List Value), us.length = ps.length → bindArgs (PySem.W.fnOf x x (defArgs st) (defBody st) (defScope st) .none kV doc pm an cdv ct) ⟨us, []⟩ = pure (ps.zip us))
    (b : ∀ W : WX, PSl P wd K mg base k N ⟨defScope st, fun _ => true⟩ W (defBody st) m) : Fn P wd K mg base (k + 1) x (run N ps m) := by
  obtain ⟨f, fd, F, hm⟩ := h
  exact ⟨f, fd, ps, def_ok F S b, hm, F.kp, F.binds hb⟩
theorem Fn.as {x : Str} {F F' : DF} (h : Fn P wd K mg base k x F) (e : ∀ ds st, F' ds st ≠ .no → F ds st = F' ds st) : Fn P wd K mg base k x F' :=
  let ⟨f, fd, ps, a, b, c, d⟩ := h.ex; ⟨f, fd, ps, FnG.as a e, b, c, d⟩
end
end DL
namespace DL
open PySem L2
section
variable {P : Program} {wd : World} {K : PySem.W.Frag} {mg : Str → Option Value} {base : Heap} {k : Nat} {N : List Str} {sc : SC} {W : WX}
/-- a new thing goes into the store -/
def Wd.push (w : Wd) (a : Addr) (d : D) : Wd := { w with st := w.st ++ [d], ρ := fun l => if l = w.st.length then a else w.ρ l }
theorem push_ok {w0 w : Wd} {a : Addr} {o : HO} {d : D} (e : Evo w0 w) (k : Ok K w) (h0 : w0.H a = none) (ha : w.H a = some o) (hm : w.M a = none) (hr : ∀ l, l < w.st.length → w.ρ l ≠ a) (r : RO K w o d) :
    Evo w0 (w.push a d) ∧ Ext w (w.push a d) ∧ Ok K (w.push a d) := by
  have hp : ∀ l, l < w.st.length → (w.push a d).ρ l = w.ρ l := fun l hl => by show (if l = w.st.length then a else w.ρ l) = _; rw [if_neg (Nat.ne_of_lt hl)]
  have hq : (w.push a d).ρ w.st.length = a := by show (if w.st.length = w.st.length then a else _) = _; rw [if_pos rfl]
  have hn : (w.push a d).st.length = w.st.length + 1 := by show (w.st ++ [d]).length = _; simp
  have x : Ext w (w.push a d) := ⟨fun _ _ h => h, hp, by rw [hn]; exact Nat.le_succ _⟩
  refine ⟨⟨e.mono, fun l hl => (hp l (Nat.lt_of_lt_of_le hl e.le)).trans (e.rho l hl), Nat.le_trans e.le x.le, e.newM, fun l h1 h2 => ?_, e.keep⟩, x, ⟨k.ex, fun l c h => ?_, fun l m hl hm' q => ?_⟩⟩
  · rw [hn] at h2
    by_cases z : l < w.st.length
    · rw [hp l z]; exact e.newR l h1 z
    · have : l = w.st.length := by omega
      rw [this, hq]; exact h0
  · have h' : (w.st ++ [d])[l]? = some c := h
    by_cases z : l < w.st.length
    · rw [List.getElem?_append_left z] at h'
      obtain ⟨u, g1, g2⟩ := k.sto l c h'
      rw [hp l z]
      exact ⟨u, g1, g2.imp id fun ⟨g2, g3⟩ => ⟨g2, g3.ext x⟩⟩
    · have hl := getElem?_lt h'
      simp at hl
      have : l = w.st.length := by omega
      subst this
      simp at h'
      subst h'
      rw [hq]
      exact ⟨o, ha, .inr ⟨hm, r.ext x⟩⟩
  · rw [hn] at hl hm'
    by_cases z : l < w.st.length
    · by_cases y : m < w.st.length
      · rw [hp l z, hp m y] at q; exact k.inj l m z y q
      · have : m = w.st.length := by omega
        rw [hp l z, this, hq] at q; exact absurd q (hr l z)
    · have e1 : l = w.st.length := by omega
      by_cases y : m < w.st.length
      · rw [hp m y, e1, hq] at q; exact absurd q.symm (hr m y)
      · omega
/-- return something new, for the store -/
def sRetSt (m : EM) : SM := fun Γ st => (m Γ st).bs Γ fun d s => .ret (.ref s.length) (s ++ [d])
theorem ps_retSt {e : Expr} {m : EM} {pos : Pos} (h : PN P wd K mg base k N sc W e m) : PSt P wd K mg base k N sc W (.Return (some e) pos) (sRetSt m) := by
  obtain ⟨t, p, r⟩ := h
  refine ⟨_, fun X g => ps_ret (p X g), ?_⟩
  intro w0 w Γ σ e0 ok f Dn q
  refine r w0.H w Γ σ ok f _ ?_
  have p' : PostS K w0 w ((m Γ w.st).bs Γ _) Dn W := q
  cases e : m Γ w.st with
  | no => rw [e] at p'; exact p'
  | err x st => rw [e] at p'; exact fun c dd w' ev k' s r => p' c dd w' σ (e0.trans ok ev) ev.ext k' s (f.evo ev) r
  | ok d st =>
    rw [e] at p'
    intro a o w' ev k' s ha ho hm hr r
    subst s
    obtain ⟨e1, x1, k1⟩ := push_ok (e0.trans ok ev) k' (e0.dom0 ok ha) ho hm hr r
    have hq : (w'.push a d).ρ w'.st.length = a := by show (if w'.st.length = w'.st.length then a else _) = _; rw [if_pos rfl]
    have rr : Rep K (w'.push a d) (.ref ((w'.push a d).ρ w'.st.length)) (.ref w'.st.length) := .ref (by show _ < (w'.st ++ [d]).length; simp)
    rw [hq] at rr
    exact p' _ (w'.push a d) e1 k1 rfl rr
end
end DL
namespace DL
open PySem L2
/-! ### the words, applied: by simp (disch := omega) -/
@[simp] theorem getE_0 {α : Type} (a : α) (l : List α) : (a :: l)[0]? = some a := rfl
@[simp] theorem getE_s {α : Type} (a : α) (l : List α) (n : Nat) : (a :: l)[n+1]? = l[n]? := rfl
@[simp] theorem getE_nil {α : Type} (n : Nat) : ([] : List α)[n]? = none := rfl
section
variable {Γ : DEnv} {st : Store} {ma mb mc mi me mo ml mh : EM} {a b : SM} {i j : Nat} {d : D}
@[simp] theorem eVar_ap : eVar i Γ st = (match Γ[i]? with | some (.sh d) => .ok d st | _ => .no) := rfl
@[simp] theorem eVarB_ap : eVarB i Γ st = (match Γ[i]? with | some (.sh d) => .ok d st | some (.ow d) => .ok d st | _ => .no) := rfl
@[simp] theorem eC_ap : eC d Γ st = .ok d st := rfl
@[simp] theorem eOp_ap {f : D → D → Store → ER} : eOp f ma mb Γ st = (ma Γ st).bind fun x s1 => (mb Γ s1).bind fun y s2 => f (deref s2 x) (deref s2 y) s2 := rfl
@[simp] theorem eAnd_ap : eAnd ma mb Γ st = (ma Γ st).bind fun d s => match d with | .bl true => mb Γ s | .bl false => .ok (.bl false) s | _ => .no := rfl
@[simp] theorem eOr_ap : eOr ma mb Γ st = (ma Γ st).bind fun d s => match d with | .bl true => .ok (.bl true) s | .bl false => mb Γ s | _ => .no := rfl
@[simp] theorem eNot_ap : eNot ma Γ st = (ma Γ st).bind fun d s => match d with | .bl b => .ok (.bl !b) s | _ => .no := rfl
@[simp] theorem eIf_ap : eIf mc ma mb Γ st = (mc Γ st).bind fun d s => match d with | .bl true => ma Γ s | .bl false => mb Γ s | _ => .no := rfl
@[simp] theorem eNil_ap : eNil Γ st = .ok (.tup []) st := rfl
@[simp] theorem eCons_ap : eCons ma mb Γ st = (ma Γ st).bind fun d s => (mb Γ s).bind fun r s2 => match r with | .tup ds => .ok (.tup (d :: ds)) s2 | _ => .no := rfl
@[simp] theorem eTup_ap : eTup ma Γ st = (ma Γ st).bind fun d s => match d with | .tup ds => if ds.length ≤ 16777216 then .ok (.tup ds) s else .no | _ => .no := rfl
@[simp] theorem eLst_ap : eLst ma Γ st = (ma Γ st).bind fun d s => match d with | .tup ds => if ds.length ≤ 16777216 then .ok (.lst ds) s else .no | _ => .no := rfl
@[simp] theorem eCall_ap {F : DF} : eCall F ma Γ st = (ma Γ st).bind fun d s => match d with | .tup ds => F ds s | _ => .no := rfl
@[simp] theorem eB_ap {f : List D → Store → ER} : eB f ma Γ st = (ma Γ st).bind fun d s => match d with | .tup ds => f (ds.map (deref s)) s | _ => .no := rfl
@[simp] theorem eM1_ap {f : D → D → Store → ER} : eM1 f mo me Γ st = (mo Γ st).bind fun o s1 => match o with | .str x => (me Γ s1).bind fun e s2 => f (.str x) (deref s2 e) s2 | _ => .no := rfl
@[simp] theorem eInt_ap : eInt ma Γ st = (ma Γ st).bind fun d s => match d with | .int i => .ok (.int i) s | _ => .no := rfl
@[simp] theorem eSl_ap : eSl ma ml mh Γ st = (ma Γ st).bind fun x s1 => (ml Γ s1).bind fun l s2 => match part l with
  | none => .no
  | some lo => (mh Γ s2).bind fun h s3 => match part h with
    | none => .no
    | some hi => oSl lo hi (deref s3 x) s3 := rfl
@[simp] theorem part_non : part .non = some none := rfl
@[simp] theorem part_int {k : Int} : part (.int k) = some (some k) := rfl
@[simp] theorem eIter_ap : eIter ma Γ st = (ma Γ st).bind fun d s => match d with
  | .lst xs => .ok (.tup xs) s
  | .tup xs => .ok (.tup xs) s
  | .dct kvs => .ok (.tup (kvs.map fun p => kD p.1)) s
  | _ => .no := rfl
@[simp] theorem eRng1_ap : eRng1 ma Γ st = (ma Γ st).bind fun d s => match d with
  | .tup [.int j] => if -4611686018427387904 ≤ j ∧ j < 4611686018427387904 then .ok (.tup (rng 0 1 j.toNat)) s else .no
  | _ => .no := rfl
@[simp] theorem eRng2_ap : eRng2 ma Γ st = (ma Γ st).bind fun d s => match d with
  | .tup [.int i, .int j] => if -4611686018427387904 ≤ i ∧ i < 4611686018427387904 ∧ -4611686018427387904 ≤ j ∧ j < 4611686018427387904 then .ok (.tup (rng i 1 (j - i).toNat)) s else .no
  | _ => .no := rfl
@[simp] theorem eLc_ap {vs : List Nat} {g : GM} {mt : EM} : eLc vs mi g mt me Γ st = (mi Γ st).bind fun d s => match d with | .tup ds => lcL g mt me ds (wipeE Γ vs) s [] | _ => .no := rfl
@[simp] theorem eYes_ap : eYes Γ st = .ok (.bl true) st := rfl
@[simp] theorem sSkip_ap : sSkip Γ st = .nx Γ st := rfl
@[simp] theorem sSeq_ap : sSeq a b Γ st = (a Γ st).bind b := rfl
@[simp] theorem sDrop_ap : sDrop ma Γ st = (ma Γ st).bs Γ fun _ s => .nx Γ s := rfl
@[simp] theorem sRet_ap : sRet ma Γ st = (ma Γ st).bs Γ fun d s => .ret d s := rfl
@[simp] theorem sRetN_ap : sRetN Γ st = .ret .non st := rfl
@[simp] theorem sRetSt_ap : sRetSt ma Γ st = (ma Γ st).bs Γ fun d s => .ret (.ref s.length) (s ++ [d]) := rfl
@[simp] theorem sIf_ap : sIf mc a b Γ st = (mc Γ st).bs Γ fun d s => match d with | .bl true => a Γ s | .bl false => b Γ s | _ => .no := rfl
@[simp] theorem sAsg_ap : sAsg i ma Γ st = (ma Γ st).bs Γ fun d s => .nx (Γ.set i (.sh d)) s := rfl
@[simp] theorem sNew_ap : sNew i ma Γ st = (ma Γ st).bs Γ fun d s => .nx (Γ.set i (.ow d)) s := rfl
@[simp] theorem sBreak_ap : sBreak Γ st = .bk Γ st := rfl
@[simp] theorem sCont_ap : sCont Γ st = .ct Γ st := rfl
@[simp] theorem sFrz_ap : sFrz i a Γ st = a (frz i Γ) st := rfl
@[simp] theorem sFor_ap {g : GM} : sFor mi g b Γ st = (mi Γ st).bs Γ fun d s => match d with | .tup ds => forL g b ds Γ s | _ => .no := rfl
@[simp] theorem sSub_ap : sSub mo mi me Γ st = (me Γ st).bs Γ fun x s1 => (mo Γ s1).bs Γ fun o s2 => (mi Γ s2).bs Γ fun i s3 => match o with
  | .ref l => match s3[l]? with
    | some d => match setAt d i x with
      | some d' => .nx Γ (s3.set l d')
      | none => .no
    | none => .no
  | _ => .no := rfl
@[simp] theorem sApp_ap : sApp i ma Γ st = (match Γ[i]? with
  | some (.ow (.lst xs)) => (ma Γ st).bs Γ fun d s => if xs.length < 16777216 then .nx (Γ.set i (.ow (.lst (xs ++ [d])))) s else .no
  | _ => .no) := rfl
@[simp] theorem sAppR_ap : sAppR mo me Γ st = (mo Γ st).bs Γ fun o s1 => match o with
  | .ref l => match s1[l]? with
    | some (.lst _) => (me Γ s1).bs Γ fun d s2 => match s2[l]? with
      | some (.lst xs) => if xs.length < 16777216 then .nx Γ (s2.set l (.lst (xs ++ [d]))) else .no
      | _ => .no
    | _ => .no
  | _ => .no := rfl
@[simp] theorem fin_nx : fin (.nx Γ st) = .ok .non st := rfl
@[simp] theorem fin_ret : fin (.ret d st) = .ok d st := rfl
@[simp] theorem fin_err {x : Xn} : fin (.err x Γ st) = .err x st := rfl
@[simp] theorem gN_ap {i : Nat} : gN i d Γ = some (Γ.set i (.sh d)) := rfl
@[simp] theorem frz_own {xs : List D} (h : Γ[i]? = some (.ow (.lst xs))) : frz i Γ = Γ.set i (.sh (.lst xs)) := by unfold frz; rw [h]
@[simp] theorem deref_ref {l : Nat} : deref st (.ref l) = st[l]?.getD .non := rfl
@[simp] theorem deref_int {k : Int} : deref st (.int k) = .int k := rfl
@[simp] theorem deref_bl {k : Bool} : deref st (.bl k) = .bl k := rfl
@[simp] theorem deref_str {k : Str} : deref st (.str k) = .str k := rfl
@[simp] theorem deref_non : deref st .non = .non := rfl
@[simp] theorem deref_lst {k : List D} : deref st (.lst k) = .lst k := rfl
@[simp] theorem deref_tup {k : List D} : deref st (.tup k) = .tup k := rfl
@[simp] theorem deref_dct {k : List (Key × D)} : deref st (.dct k) = .dct k := rfl
@[simp] theorem deref_ins {C : String} {k : List (Str × D)} : deref st (.ins C k) = .ins C k := rfl
@[simp] theorem deref_scr {k : List Int} : deref st (.scr k) = .scr k := rfl
@[simp] theorem deref_cls {k : String} : deref st (.cls k) = .cls k := rfl
@[simp] theorem deref_opq : deref st .opq = .opq := rfl
@[simp] theorem deref_exc {C : String} {fs : List (Str × D)} : deref st (.exc C fs) = .exc C fs := rfl
@[simp] theorem deref_ty {k : String} : deref st (.ty k) = .ty k := rfl
@[simp] theorem oAdd_i {x y : Int} : oAdd (.int x) (.int y) st = .ok (.int (x + y)) st := rfl
@[simp] theorem oAdd_s {x y : Str} (h : x.length + y.length ≤ 16777216) : oAdd (.str x) (.str y) st = .ok (.str (x ++ y)) st := if_pos h
@[simp] theorem oAdd_l {x y : List D} (h : x.length + y.length ≤ 16777216) : oAdd (.lst x) (.lst y) st = .ok (.lst (x ++ y)) st := if_pos h
@[simp] theorem oSub_i {x y : Int} : oSub (.int x) (.int y) st = .ok (.int (x - y)) st := rfl
@[simp] theorem oMul_i {x y : Int} (h : (-18446744073709551616 < x ∧ x < 18446744073709551616) ∨ (-18446744073709551616 < y ∧ y < 18446744073709551616)) : oMul (.int x) (.int y) st = .ok (.int (x * y)) st := if_pos h
@[simp] theorem oFdiv_i {x y : Int} (h : 0 < y ∧ y < 1073741824) : oFdiv (.int x) (.int y) st = .ok (.int (x / y)) st := if_pos h
@[simp] theorem oMod_i {x y : Int} (h : 0 < y) : oMod (.int x) (.int y) st = .ok (.int (x % y)) st := if_pos h
@[simp] theorem oPow_i {x y : Int} (h : 0 ≤ y ∧ y ≤ 1000000 ∧ x.natAbs < 18446744073709551616) : oPow (.int x) (.int y) st = .ok (.int (x ^ y.toNat)) st := if_pos h
@[simp] theorem oLt_i {x y : Int} : oLt (.int x) (.int y) st = .ok (.bl (decide (x < y))) st := rfl
@[simp] theorem oLe_i {x y : Int} : oLe (.int x) (.int y) st = .ok (.bl (decide (x ≤ y))) st := rfl
@[simp] theorem oGt_i {x y : Int} : oGt (.int x) (.int y) st = .ok (.bl (decide (y < x))) st := rfl
@[simp] theorem oGe_i {x y : Int} : oGe (.int x) (.int y) st = .ok (.bl (decide (y ≤ x))) st := rfl
@[simp] theorem dEq_i {x y : Int} : dEq (.int x) (.int y) = some (decide (x = y)) := rfl
@[simp] theorem dEq_s {x y : Str} : dEq (.str x) (.str y) = some (decide (x = y)) := rfl
@[simp] theorem dEq_b {x y : Bool} : dEq (.bl x) (.bl y) = some (decide (x = y)) := rfl
@[simp] theorem dEq_nn : dEq .non .non = some true := rfl
@[simp] theorem oEq_ap {x y : D} : oEq x y st = (match dEq x y with | some b => .ok (.bl b) st | none => .no) := rfl
@[simp] theorem oNe_ap {x y : D} : oNe x y st = (match dEq x y with | some b => .ok (.bl !b) st | none => .no) := rfl
@[simp] theorem bLen_l {xs : List D} : bLen [.lst xs] st = .ok (.int xs.length) st := rfl
@[simp] theorem bLen_t {xs : List D} : bLen [.tup xs] st = .ok (.int xs.length) st := rfl
@[simp] theorem bLen_d {xs : List (Key × D)} : bLen [.dct xs] st = .ok (.int xs.length) st := rfl
@[simp] theorem bLen_s {x : Str} (h : x.length ≤ 16777216) : bLen [.str x] st = .ok (.int x.length) st := if_pos h
@[simp] theorem bList_l {xs : List D} : bList [.lst xs] st = .ok (.lst xs) st := rfl
@[simp] theorem bList_t {xs : List D} : bList [.tup xs] st = .ok (.lst xs) st := rfl
@[simp] theorem bMin2_i {x y : Int} : bMin2 [.int x, .int y] st = .ok (.int (if y < x then y else x)) st := rfl
@[simp] theorem oIx_l {xs : List D} {k : Int} : oIx (.lst xs) (.int k) st = (match L2.atI xs k with | some d => .ok d st | none => .no) := rfl
@[simp] theorem oIx_t {xs : List D} {k : Int} : oIx (.tup xs) (.int k) st = (match L2.atI xs k with | some d => .ok d st | none => .no) := rfl
@[simp] theorem atI_0 {α : Type} (a : α) (l : List α) : L2.atI (a :: l) 0 = some a := L2.atI_nat (j := 0) rfl
@[simp] theorem atI_1 {α : Type} (a b : α) (l : List α) : L2.atI (a :: b :: l) 1 = some b := L2.atI_nat (j := 1) rfl
@[simp] theorem atI_2 {α : Type} (a b c : α) (l : List α) : L2.atI (a :: b :: c :: l) 2 = some c := L2.atI_nat (j := 2) rfl
theorem ixN_lt {n j : Nat} (h : j < n) : ixN n (j : Int) = some j := by unfold ixN; rw [if_pos (Int.natCast_nonneg j), if_pos (by omega)]; rfl
@[simp] theorem setAt_0 (a x : D) (l : List D) : setAt (.lst (a :: l)) (.int 0) x = some (.lst (x :: l)) := by
  show (match ixN (a :: l).length ((0 : Nat) : Int) with | some n => _ | none => none) = _; rw [ixN_lt (by simp)]; rfl
@[simp] theorem setAt_1 (a b x : D) (l : List D) : setAt (.lst (a :: b :: l)) (.int 1) x = some (.lst (a :: x :: l)) := by
  show (match ixN (a :: b :: l).length ((1 : Nat) : Int) with | some n => _ | none => none) = _; rw [ixN_lt (by simp)]; rfl
@[simp] theorem setAt_2 (a b c x : D) (l : List D) : setAt (.lst (a :: b :: c :: l)) (.int 2) x = some (.lst (a :: b :: x :: l)) := by
  show (match ixN (a :: b :: c :: l).length ((2 : Nat) : Int) with | some n => _ | none => none) = _; rw [ixN_lt (by simp)]; rfl
@[simp] theorem oSl_l {xs : List D} {lo hi : Option Int} : oSl lo hi (.lst xs) st = .ok (.lst (cutL xs lo hi)) st := rfl
@[simp] theorem oSl_s {x : Str} {lo hi : Option Int} (h : x.length ≤ 16777216) : oSl lo hi (.str x) st = .ok (.str (cutS x lo hi)) st := if_pos h
end
end DL
namespace DL
open PySem L2
/-! ### repr -/
def kP : Key → PyData
  | .inl i => .int i
  | .inr x => .str x
mutual
def D.sh : D → Option PyData
  | .non => some .none
  | .bl b => some (.bool b)
  | .int i => some (.int i)
  | .str x => some (.str x)
  | .lst xs => (D.shL xs).map .list
  | .tup xs => (D.shL xs).map .tuple
  | .dct kvs => (D.shP kvs).map .dict
  | _ => none
def D.shL : List D → Option (List PyData)
  | [] => some []
  | x :: xs => match D.sh x, D.shL xs with
    | some d, some ds => some (d :: ds)
    | _, _ => none
def D.shP : List (Key × D) → Option (List (PyData × PyData))
  | [] => some []
  | (k, x) :: xs => match D.sh x, D.shP xs with
    | some d, some ds => some ((kP k, d) :: ds)
    | _, _ => none
end
section
variable {K : PySem.W.Frag}
theorem RepP.inv {κ : Type} {w : Wd} {vs : List (κ × V)} {k : κ} {x : D} {xs : List (κ × D)} (h : RepP K w vs ((k, x) :: xs)) : ∃ v r, vs = (k, v) :: r ∧ Rep K w v x ∧ RepP K w r xs := by
  obtain ⟨h1, h2⟩ := h
  cases vs with
  | nil => simp at h1
  | cons v r =>
    obtain ⟨k', v'⟩ := v
    simp at h1
    obtain ⟨rfl, h1⟩ := h1
    exact ⟨v', r, rfl, h2 0 _ _ rfl rfl, h1, fun i a b p q => h2 (i + 1) a b (by simpa using p) (by simpa using q)⟩
theorem RepP.inv0 {κ : Type} {w : Wd} {vs : List (κ × V)} (h : RepP K w vs ([] : List (κ × D))) : vs = [] := by
  have := h.1
  simpa using this
theorem reads_key {h : Heap} {k : Key} {v : Value} (e : keyIs k v = true) : Reads h v (kP k) [] := by
  rcases keyIs_shape e with ⟨i, t, rfl, rfl⟩ | ⟨x, t, rfl, rfl⟩
  · exact .int i t
  · exact .str x t
variable {X : Cx} {pins : List (Addr × Obj)} {σ : L2.St} {s : Shared} {w : Wd}
theorem ne_sm (I : Inv X pins σ w.H s) (hs : ∃ o, X.base.get? sysModules = some o) {a : Addr} {o : HO} (h : w.H a = some o) : sysModules ≠ a := fun q => by
  obtain ⟨u, hu⟩ := hs
  have := (I.bs _ u hu).2
  rw [q, h] at this; cases this
/-- a dict's parts, read -/
theorem dct_parts (I : Inv X pins σ w.H s) {a : Addr} {vs : List (Key × V)} (h : Rd w.H a (.dK vs)) : ∃ o es ep us, s.heap.get? a = some o ∧ o.cls = .type "dict" ∧ o.data = .dict es ep ∧ KV vs us ∧ Pairs (mixKind X.prog X.w) es.toList us ∧ sysModules ≠ a := by
  obtain ⟨_, hne, us, kv, o, es, ep, h1, h2, h3, h4, h5, _⟩ := dk_rd I.hok h
  exact ⟨o, es, ep, us, h1, h2.1, h3, kv, h5, fun q => by simp [q] at hne⟩
mutual
theorem rep_reads (I : Inv X pins σ w.H s) (hs : ∃ o, X.base.get? sysModules = some o) (k : Ok X.K w) : ∀ (d : D) (v : V) (u : Value) (e : PyData), Rep X.K w v d → d.sh = some e → RelV v u → ∃ as, Reads s.heap u e as ∧ sysModules ∉ as
  | .non, _, _, _, r, h, q => by cases r; cases h; cases q; exact ⟨_, .none, by simp⟩
  | .bl b, _, _, _, r, h, q => by cases r; cases h; cases q; exact ⟨_, .bool b, by simp⟩
  | .int i, _, _, _, r, h, q => by cases r; cases h; obtain ⟨t, rfl⟩ := q; exact ⟨_, .int i t, by simp⟩
  | .str x, _, _, _, r, h, q => by cases r; cases h; obtain ⟨t, rfl⟩ := q; exact ⟨_, .str x t, by simp⟩
  | .lst xs, _, _, _, r, h, q => by
    cases r with
    | lst m l z =>
      cases q
      cases p : D.shL xs with
      | none => simp [D.sh, p] at h
      | some es =>
        simp only [D.sh, p, Option.map_some, Option.some.injEq] at h
        subst h
        have hm := k.ex _ _ m
        obtain ⟨its, rv, ⟨o, n, ho, hc, _, hd⟩, _⟩ := I.list (SqL.of hm)
        obtain ⟨as, hr, hn⟩ := repL_reads I hs k xs _ its es ⟨l, z⟩ p rv
        exact ⟨_, .list ho hc hd hr, by simp [ne_sm I hs hm, hn]⟩
  | .tup xs, _, _, _, r, h, q => by
    cases r with
    | tup m l z =>
      cases q
      cases p : D.shL xs with
      | none => simp [D.sh, p] at h
      | some es =>
        simp only [D.sh, p, Option.map_some, Option.some.injEq] at h
        subst h
        obtain ⟨its, rv, ⟨o, ho, hc, n, hd⟩, _⟩ := I.tuple (k.sqT m)
        obtain ⟨as, hr, hn⟩ := repL_reads I hs k xs _ its es ⟨l, z⟩ p rv
        exact ⟨_, .tuple ho hc hd hr, hn⟩
  | .dct xs, _, _, _, r, h, q => by
    cases r with
    | dct m l z =>
      cases q
      cases p : D.shP xs with
      | none => simp [D.sh, p] at h
      | some es =>
        simp only [D.sh, p, Option.map_some, Option.some.injEq] at h
        subst h
        obtain ⟨o, es', ep, us, h1, h2, h3, h4, h5, h6⟩ := dct_parts I (.inr ⟨_, k.ex _ _ m⟩)
        obtain ⟨as, bs, r1, r2, n1, n2⟩ := repP_reads I hs k xs _ us es'.toList es ⟨l, z⟩ p h4 h5
        exact ⟨_, .dict h1 h2 h3 r1 r2, by simp [h6, n1, n2]⟩
  | .ins _ _, _, _, _, _, h, _ => by simp [D.sh] at h
  | .ref _, _, _, _, _, h, _ => by simp [D.sh] at h
  | .scr _, _, _, _, _, h, _ => by simp [D.sh] at h
  | .ty _, _, _, _, _, h, _ => by simp [D.sh] at h
  | .cls _, _, _, _, _, h, _ => by simp [D.sh] at h
  | .opq, _, _, _, _, h, _ => by simp [D.sh] at h
  | .tomb, _, _, _, _, h, _ => by simp [D.sh] at h
  | .exc _ _, _, _, _, _, h, _ => by simp [D.sh] at h
theorem repL_reads (I : Inv X pins σ w.H s) (hs : ∃ o, X.base.get? sysModules = some o) (k : Ok X.K w) : ∀ (ds : List D) (vs : List V) (us : List Value) (es : List PyData), RepL X.K w vs ds → D.shL ds = some es → Vals vs us → ∃ as, ReadsAll s.heap us es as ∧ sysModules ∉ as
  | [], _, _, _, r, h, q => by
    have := r.inv0; subst this; cases q
    simp only [D.shL, Option.some.injEq] at h; subst h
    exact ⟨_, .nil, by simp⟩
  | d :: ds, _, _, _, r, h, q => by
    obtain ⟨v, vs, rfl, r1, r2⟩ := r.inv
    cases q with
    | cons q1 q2 =>
      unfold D.shL at h
      cases p1 : D.sh d with
      | none => rw [p1] at h; cases h
      | some e =>
        cases p2 : D.shL ds with
        | none => rw [p1, p2] at h; cases h
        | some es =>
          rw [p1, p2] at h
          cases h
          obtain ⟨as, a1, a2⟩ := rep_reads I hs k d v _ e r1 p1 q1
          obtain ⟨bs, b1, b2⟩ := repL_reads I hs k ds vs _ es r2 p2 q2
          exact ⟨_, .cons a1 b1, by simp [a2, b2]⟩
theorem repP_reads (I : Inv X pins σ w.H s) (hs : ∃ o, X.base.get? sysModules = some o) (k : Ok X.K w) : ∀ (ds : List (Key × D)) (vs : List (Key × V)) (us : List (Key × Value)) (des : List DictEntry) (es : List (PyData × PyData)), RepP X.K w vs ds → D.shP ds = some es → KV vs us → Pairs (mixKind X.prog X.w) des us →
    ∃ as bs, ReadsAll s.heap (des.map (·.key)) (es.map (·.1)) as ∧ ReadsAll s.heap (des.map (·.val)) (es.map (·.2)) bs ∧ sysModules ∉ as ∧ sysModules ∉ bs
  | [], _, _, _, _, r, h, q, t => by
    have := r.inv0; subst this; cases q; cases t
    simp only [D.shP, Option.some.injEq] at h; subst h
    exact ⟨_, _, .nil, .nil, by simp, by simp⟩
  | (y, d) :: ds, _, _, _, _, r, h, q, t => by
    obtain ⟨v, vs, rfl, r1, r2⟩ := r.inv
    cases q with
    | @cons _ b _ bs q1 q2 =>
      cases t with
      | cons t1 t2 t3 =>
        obtain ⟨b1, b2⟩ := b
        obtain ⟨q0, q1⟩ := q1
        unfold D.shP at h
        cases p1 : D.sh d with
        | none => rw [p1] at h; cases h
        | some e =>
          cases p2 : D.shP ds with
          | none => rw [p1, p2] at h; cases h
          | some es =>
            rw [p1, p2] at h
            cases h
            obtain ⟨as, a1, a2⟩ := rep_reads I hs k d v _ e r1 p1 q1
            obtain ⟨cs, ds', c1, c2, c3, c4⟩ := repP_reads I hs k ds vs _ _ es r2 p2 q2 t3
            have q0' : y = b1 := q0
            subst q0'
            have a1' := a1
            rw [← (show _ = b2 from t2)] at a1'
            exact ⟨_, _, .cons (reads_key t1) c1, .cons a1' c2, by simpa using c3, by simp [a2, c4]⟩
end
/-- .. what is read -/
theorem vw_reads (I : Inv X pins σ w.H s) (hs : ∃ o, X.base.get? sysModules = some o) (k : Ok X.K w) {d : D} {v : V} {u : Value} {e : PyData} (r : Vw X.K w v d) (h : d.sh = some e) (q : RelV v u) : ∃ as, Reads s.heap u e as ∧ sysModules ∉ as := by
  cases d with
  | non => obtain rfl := r; cases h; cases q; exact ⟨_, .none, by simp⟩
  | bl b => obtain rfl := r; cases h; cases q; exact ⟨_, .bool b, by simp⟩
  | int i => obtain rfl := r; cases h; obtain ⟨t, rfl⟩ := q; exact ⟨_, .int i t, by simp⟩
  | str x => obtain rfl := r; cases h; obtain ⟨t, rfl⟩ := q; exact ⟨_, .str x t, by simp⟩
  | lst xs =>
    obtain ⟨a, vs, rfl, m, z⟩ := r
    cases q
    cases p : D.shL xs with
    | none => simp [D.sh, p] at h
    | some es =>
      simp only [D.sh, p, Option.map_some, Option.some.injEq] at h
      subst h
      obtain ⟨its, rv, ⟨o, n, ho, hc, _, hd⟩, _⟩ := I.list (SqL.of m)
      obtain ⟨as, hr, hn⟩ := repL_reads I hs k xs _ its es z p rv
      exact ⟨_, .list ho hc hd hr, by simp [ne_sm I hs m, hn]⟩
  | tup xs =>
    obtain ⟨a, vs, rfl, m, z⟩ := r
    cases q
    cases p : D.shL xs with
    | none => simp [D.sh, p] at h
    | some es =>
      simp only [D.sh, p, Option.map_some, Option.some.injEq] at h
      subst h
      obtain ⟨its, rv, ⟨o, ho, hc, n, hd⟩, _⟩ := I.tuple m
      obtain ⟨as, hr, hn⟩ := repL_reads I hs k xs _ its es z p rv
      exact ⟨_, .tuple ho hc hd hr, hn⟩
  | dct xs =>
    obtain ⟨a, vs, rfl, m, z⟩ := r
    cases q
    cases p : D.shP xs with
    | none => simp [D.sh, p] at h
    | some es =>
      simp only [D.sh, p, Option.map_some, Option.some.injEq] at h
      subst h
      obtain ⟨o, es', ep, us, h1, h2, h3, h4, h5, h6⟩ := dct_parts I m
      obtain ⟨as, bs, r1, r2, n1, n2⟩ := repP_reads I hs k xs _ us es'.toList es z p h4 h5
      exact ⟨_, .dict h1 h2 h3 r1 r2, by simp [h6, n1, n2]⟩
  | _ => simp [D.sh] at h
end
/-- what repr's rule asks of data -/
def ShOk (e : PyData) : Prop := e.showable = true ∧ e.depth ≤ 60 ∧ e.shown.length ≤ 16777216
instance (e : PyData) : Decidable (ShOk e) := inferInstanceAs (Decidable (_ ∧ _))
def bRepr : List D → Store → ER
  | [d], st => match d.sh with
    | some e => if ShOk e then .ok (.str e.shown) st else .no
    | none => .no
  | _, _ => .no
def rRepr (K : PySem.W.Frag) : List V → Hp → VK → Prop := fun xs H Q => ∃ (w : Wd) (v : V) (d : D) (e : PyData), w.H = H ∧ Ok K w ∧ xs = [v] ∧ Vw K w v d ∧ d.sh = some e ∧ ShOk e ∧ Q (.str e.shown) H
section
variable {X : Cx}
theorem call_repr (hg : Tp X.A X.base) {k : Nat} (hr : Room k X.A) : CallR X (.builtin "repr") (rRepr X.K) := by
  intro pins s σ H xs us Q I r h
  obtain ⟨w, v, d, e, rfl, k, rfl, vw, he, ⟨h1, h2, h3⟩, q⟩ := h
  obtain ⟨u, rfl, ru⟩ := vals1 r
  obtain ⟨as, rd, hn⟩ := vw_reads I hg.2 k vw he ru
  have out : ∀ (t : Tok) (s' : Shared), Inv X pins σ w.H s' → EP X pins σ Q (.str e.shown t) s' := fun t s' I' => ⟨.str _, w.H, I', ⟨t, rfl⟩, q⟩
  cases rd with
  | none => exact PySem.P.repr_of_none (out _ _ (I.tok _))
  | bool b => exact PySem.P.repr_of_bool (out _ _ (I.tok _))
  | int i t => exact PySem.P.repr_of_int (by simpa [PyData.showable] using h1) (out _ _ (I.tok _))
  | str x t => exact PySem.P.repr_of_str (out _ _ (I.tok _)) (by rw [sizeLine_eq]; exact h3)
  | list a1 a2 a3 a4 => exact repr_of_reads' (Reads.list a1 a2 a3 a4) h1 (fun _ => hn) hg.1 (by have := hr.units; omega) (fun _ _ z => z) (fun h' u tk hk => out _ _ (I.kept hk)) (by rw [sizeLine_eq]; exact h3)
  | tuple a1 a2 a3 a4 => exact repr_of_reads' (Reads.tuple a1 a2 a3 a4) h1 (fun _ => hn) hg.1 (by have := hr.units; omega) (fun _ _ z => z) (fun h' u tk hk => out _ _ (I.kept hk)) (by rw [sizeLine_eq]; exact h3)
  | dict a1 a2 a3 a4 a5 => exact repr_of_reads' (Reads.dict a1 a2 a3 a4 a5) h1 (fun _ => hn) hg.1 (by have := hr.units; omega) (fun _ _ z => z) (fun h' u tk hk => out _ _ (I.kept hk)) (by rw [sizeLine_eq]; exact h3)
end
section
variable {P : Program} {wd : World} {K : PySem.W.Frag} {mg : Str → Option Value} {base : Heap} {k : Nat} {N : List Str} {sc : SC} {W : WX}
theorem cd_repr : CallD K (rRepr K) bRepr := fun w vs ds Q E k v p => by
  unfold bRepr at p
  split at p
  · obtain ⟨x, rfl, h⟩ := v.one
    split at p
    · rename_i e he
      obtain ⟨hs, p⟩ := PostE.ite p
      exact ⟨w, x, _, e, rfl, k, rfl, h, he, hs, p.now k .str⟩
    · exact p.elim
  · exact p.elim
theorem pr_repr {e : Expr} {ms : EM} {p pos : Pos} (hm : mg "repr" = none) (ha : PAb P wd K mg base k N sc W [e] ms) (hg : sc.s.names.lookup ("repr" : Str) = some .globalImplicit := by rfl) (he : ∀ env, starEach [e] env = (false, eval e env) :: starEach [] env := by intro _; rfl) :
    PR P wd K mg base k N sc W (.Call (.Name "repr" p) [e] [] pos) (eB bRepr ms) :=
  pr_B (id := "repr") (fun X g => by have := call_repr (X := X) g.grd g.room; rw [g.kk] at this; exact this) cd_repr hm (by decide +kernel) ha hg (by decide) (by decide) he (fun _ => rfl)
end
end DL
namespace DL
open PySem L2
/-! ### a new dict is locked: from then on it is read only -/
def lk (t : TE) : TE := fun σ H Q => t σ H fun v H' => Q v H' ∨ ∃ d kvs, v = .ref d ∧ H' d = some (.dK kvs) ∧ ∀ od, Q v (upd H' d (.frz od (.dK kvs)))
theorem pe_lk {X : Cx} {e : Expr} {t : TE} (h : PE X e t) : PE X e (lk t) := ⟨fun pins s σ H Q I q => thn (h.run pins s σ H _ I q) fun u s' ⟨v, H', I', r, z⟩ => by
  rcases z with z | ⟨d, kvs, rfl, hd, z⟩
  · exact ⟨v, H', I', r, z⟩
  · obtain ⟨od, I2⟩ := I'.lock hd True.intro
    exact ⟨_, _, I2, r, z od⟩⟩
theorem PE.or {X : Cx} {e : Expr} {t u : TE} (h : PE X e t) (h' : PE X e u) : PE X e (fun σ H Q => t σ H Q ∨ u σ H Q) := ⟨fun pins s σ H Q I q => q.elim (h.run pins s σ H Q I) (h'.run pins s σ H Q I)⟩
section
variable {P : Program} {wd : World} {K : PySem.W.Frag} {mg : Str → Option Value} {base : Heap} {k : Nat} {N : List Str} {sc : SC} {W : WX}
/-- a new thing o at a is frozen as o' -/
theorem fz_as {w w' : Wd} {a : Addr} {o o' : HO} (e : Evo w w') (k : Ok K w') (ha : w.H a = none) (h : w'.H a = some o) (hm : w'.M a = none) (hr : ∀ l, l < w'.st.length → w'.ρ l ≠ a) :
    ∃ w2 : Wd, w2.H = upd w'.H a o' ∧ w2.st = w'.st ∧ Evo w w2 ∧ Ok K w2 ∧ Ext w' w2 ∧ w2.M a = some o' := by
  have x : Ext w' { w' with M := upd w'.M a o', H := upd w'.H a o' } := ⟨fun b u q => by show upd w'.M a _ b = _; rw [upd_ne (ne_of_none q hm)]; exact q, fun _ _ => rfl, Nat.le_refl _⟩
  refine ⟨{ w' with M := upd w'.M a o', H := upd w'.H a o' }, rfl, rfl, ⟨(e.ext.trans x).mono, e.rho, e.le, fun b u q n => ?_, e.newR, fun b u hb hmb hrb => ?_⟩, ⟨fun b u q => ?_, fun l d q => ?_, k.inj⟩, x, upd_same⟩
  · by_cases z : b = a
    · rw [z]; exact ha
    · have q' : upd w'.M a o' b = some u := q
      rw [upd_ne z] at q'; exact e.newM b u q' n
  · show upd w'.H a o' b = _
    rw [upd_ne (ne_of_none hb ha)]; exact e.keep b u hb hmb hrb
  · have q' : upd w'.M a o' b = some u := q
    show upd w'.H a o' b = _
    by_cases z : b = a
    · rw [z, upd_same] at q' ⊢; exact q'
    · rw [upd_ne z] at q' ⊢; exact k.ex b u q'
  · obtain ⟨u, h1, h2⟩ := k.sto l d q
    have ne := hr l (getElem?_lt q)
    refine ⟨u, ?_, h2.imp id fun ⟨h2, h3⟩ => ⟨?_, h3.ext x⟩⟩
    · show upd w'.H a o' (w'.ρ l) = _
      rw [upd_ne ne]; exact h1
    · show upd w'.M a o' (w'.ρ l) = _
      rw [upd_ne ne]; exact h2
/-- it is a thing that can be new -/
def IsNew (m : EM) : Prop := ∀ Γ st d s, m Γ st = .ok d s → match d with | .lst _ => True | .dct _ => True | .ins _ _ => True | _ => False
theorem upd_id {H : Hp} {a : Addr} {o : HO} (h : H a = some o) : upd H a o = H := by
  funext b
  by_cases z : b = a
  · rw [z, upd_same, h]
  · rw [upd_ne z]
theorem RTN.fz {t : TE} {m : EM} (h : RTN K W t m) (hn : IsNew m) : RT K W (lk t) m := by
  intro H0 w Γ σ ok f Q p
  refine h H0 w Γ σ ok f _ ?_
  cases e : m Γ w.st with
  | err x st => rw [e] at p; exact p
  | no => rw [e] at p; exact p
  | ok d st =>
    rw [e] at p
    have hd := hn _ _ _ _ e
    intro a o w' ev k' s ha ho hm hr r
    cases d with
    | lst xs =>
      obtain ⟨vs, rfl, rl⟩ := r
      obtain ⟨w2, q1, q2, q3, q4, q5, q6⟩ := fz_as (o' := .lst vs) ev k' ha ho hm hr
      refine .inl ?_
      have q1' : w2.H = w'.H := q1.trans (upd_id ho)
      rw [← q1']
      have rl' := rl.ext q5
      exact p _ w2 q3 q4 (q2.trans s) (.lst q6 rl'.1 rl'.2)
    | ins C fs =>
      obtain ⟨dx, vs, rfl, rl⟩ := r
      obtain ⟨w2, q1, q2, q3, q4, q5, q6⟩ := fz_as (o' := .ins (cA K C) dx vs) ev k' ha ho hm hr
      refine .inl ?_
      have q1' : w2.H = w'.H := q1.trans (upd_id ho)
      rw [← q1']
      have rl' := rl.ext q5
      exact p _ w2 q3 q4 (q2.trans s) (.ins q6 rl'.1 rl'.2)
    | dct xs =>
      obtain ⟨vs, rfl, rl⟩ := r
      refine .inr ⟨a, vs, rfl, ho, fun od => ?_⟩
      obtain ⟨w2, q1, q2, q3, q4, q5, q6⟩ := fz_as (o' := .frz od (.dK vs)) ev k' ha ho hm hr
      rw [← q1]
      have rl' := rl.ext q5
      exact p _ w2 q3 q4 (q2.trans s) (.dct q6 rl'.1 rl'.2)
    | _ => exact hd.elim
theorem PN.fz {e : Expr} {m : EM} (h : PN P wd K mg base k N sc W e m) (hn : IsNew m) : PR P wd K mg base k N sc W e m := let ⟨t, a, b⟩ := h; ⟨lk t, fun X g => pe_lk (a X g), b.fz hn⟩

/-! ### {}, dict(pairs), tuple(xs) -/
def eDnew : EM := fun _ st => .ok (.dct []) st
theorem pn_dnew {pos : Pos} : PN P wd K mg base k N sc W (.Dict [] [] pos) eDnew := ⟨_, fun X g => pe_dnewK, fun H0 w Γ σ ok f Q p a ha => PostN.al p ok ha ⟨[], rfl, rfl, fun i v x h => by simp at h⟩⟩
theorem pr_dnew {pos : Pos} : PR P wd K mg base k N sc W (.Dict [] [] pos) eDnew := pn_dnew.fz fun _ _ _ _ h => by cases h; trivial
/-- a new thing from read arguments -/
def CallN (K : PySem.W.Frag) (r : List V → Hp → VK → Prop) (f : List D → Store → ER) : Prop := ∀ (w : Wd) (vs : List V) (ds : List D) (Q : VK) (E : XK), Ok K w → VwL K w vs ds → PostN K w (f ds w.st) Q E → r vs w.H Q
theorem rtn_B {r : List V → Hp → VK → Prop} {f : List D → Store → ER} {t : TA} {ms : EM} (h : CallN K r f) (ra : RTAB K W t ms) : RTN K W (tCB r t) (eB f ms) := by
  intro H0 w Γ σ ok f0 Q q
  refine RTAB.use (P := fun w r => PostN K w r Q (at_ W σ)) ra ok f0 (fun _ _ e k p => p.shift e k) (fun _ _ p => p) (fun p => p) (fun d st hb => by cases d <;> first | rfl | exact absurd rfl (hb _)) q fun ds vs w1 e1 k1 f1 r1 p1 => ?_
  exact h w1 vs _ Q _ k1 (r1.vw k1 f1) p1
theorem pn_Ty {r : List V → Hp → VK → Prop} {f : List D → Store → ER} {T : String} {x : Str} {e : Expr} {es : List Expr} {ms : EM} {p pos : Pos} (hc : ∀ X, G P wd K mg base k N sc W X → CallR X (.type T) r) (h : CallN K r f) (hm : mg x = none) (hv : bootBuiltins x = some (.type T))
    (ha : PAb P wd K mg base k N sc W (e :: es) ms) (hg : sc.s.names.lookup x = some .globalImplicit := by rfl) (hn : x ≠ "__name__" := by decide) (hdb : (x == ("__debug__" : Str)) = false := by decide)
    (he : ∀ env, starEach (e :: es) env = (false, eval e env) :: starEach es env := by intro _; rfl) (hpl : ∀ env, (backTo pos (starEach es env)).any (·.1) = false := by intro _; rfl) :
    PN P wd K mg base k N sc W (.Call (.Name x p) (e :: es) [] pos) (eB f ms) := by
  obtain ⟨t, pt, ra⟩ := ha
  refine ⟨_, fun X g => ?_, rtn_B h ra⟩
  exact pe_callTy (hc X g) (by unfold Gl PySem.Env.kindOf; rw [g.scp]; exact hg) (by rw [g.mg]; exact hm) hv (pt X g) hn hdb (he X.env) (hpl X.env)
theorem eB_new {f : List D → Store → ER} {ms : EM} (h : ∀ ds st d s, f ds st = .ok d s → match d with | .lst _ => True | .dct _ => True | .ins _ _ => True | _ => False) : IsNew (eB f ms) := fun Γ st d s q => by
  unfold eB at q
  cases e : ms Γ st with
  | err x st => rw [e] at q; cases q
  | no => rw [e] at q; cases q
  | ok a s1 =>
    rw [e] at q
    cases a with
    | tup ds => exact h _ _ _ _ q
    | _ => cases q
/-- keys -/
def keyD : D → Option Key
  | .int i => some (.inl i)
  | .str x => some (.inr x)
  | _ => none
theorem keyD_rep {w : Wd} {v : V} {d : D} {k : Key} (r : Rep K w v d) (h : keyD d = some k) : v = kV k := by
  cases r <;> cases h <;> rfl
theorem keyD_vw {w : Wd} {v : V} {d : D} {k : Key} (r : Vw K w v d) (h : keyD d = some k) : v = kV k := by
  cases d <;> cases h
  · exact r
  · exact r
def putD (kvs : List (Key × D)) (k : Key) (v : D) : List (Key × D) :=
  if (kvs.any fun kv => decide (kv.1 = k)) = true then kvs.map (fun kv => if kv.1 = k then (kv.1, v) else kv) else kvs ++ [(k, v)]
def mergeD (kvs more : List (Key × D)) : List (Key × D) := more.foldl (fun acc kv => putD acc kv.1 kv.2) kvs
theorem repP_put {w : Wd} {vs : List (Key × V)} {xs : List (Key × D)} (r : RepP K w vs xs) (k : Key) {v : V} {x : D} (h : Rep K w v x) : RepP K w (putK vs k v) (putD xs k x) := by
  have e : (vs.any fun kv => decide (kv.1 = k)) = (xs.any fun kv => decide (kv.1 = k)) := by
    have h1 : (vs.any fun kv => decide (kv.1 = k)) = (vs.map (·.1)).any fun y => decide (y = k) := by rw [List.any_map]; rfl
    have h2 : (xs.any fun kv => decide (kv.1 = k)) = (xs.map (·.1)).any fun y => decide (y = k) := by rw [List.any_map]; rfl
    rw [h1, h2, r.1]
  unfold putK putD
  rw [e]
  by_cases q : (xs.any fun kv => decide (kv.1 = k)) = true
  · rw [if_pos q, if_pos q]
    refine ⟨?_, fun i a b p1 p2 => ?_⟩
    · rw [List.map_map, List.map_map]
      have f1 : ((fun x : Key × V => x.1) ∘ fun kv => if kv.1 = k then (kv.1, v) else kv) = (·.1) := by funext kv; simp only [Function.comp]; split <;> rfl
      have f2 : ((fun x : Key × D => x.1) ∘ fun kv => if kv.1 = k then (kv.1, x) else kv) = (·.1) := by funext kv; simp only [Function.comp]; split <;> rfl
      rw [f1, f2]; exact r.1
    · rw [List.getElem?_map] at p1 p2
      cases z1 : vs[i]? with
      | none => rw [z1] at p1; cases p1
      | some a' =>
        cases z2 : xs[i]? with
        | none => rw [z2] at p2; cases p2
        | some b' =>
          rw [z1] at p1; rw [z2] at p2; cases p1; cases p2
          have ke : a'.1 = b'.1 := by
            have := congrArg (fun l => l[i]?) r.1
            simp only [List.getElem?_map, z1, z2, Option.map_some, Option.some.injEq] at this
            exact this
          by_cases y : a'.1 = k
          · have y' : b'.1 = k := ke ▸ y
            simp only [y, y', if_true]; exact h
          · have y' : ¬ b'.1 = k := ke ▸ y
            simp only [y, y', if_false]; exact r.2 i a' b' z1 z2
  · rw [if_neg q, if_neg q]
    refine ⟨by simp [r.1], fun i a b p1 p2 => ?_⟩
    have hl : vs.length = xs.length := r.len
    by_cases z : i < vs.length
    · rw [List.getElem?_append_left z] at p1
      rw [List.getElem?_append_left (hl ▸ z)] at p2
      exact r.2 i a b p1 p2
    · rw [List.getElem?_append_right (Nat.le_of_not_lt z)] at p1
      rw [List.getElem?_append_right (hl ▸ Nat.le_of_not_lt z)] at p2
      rw [hl] at p1
      cases j : i - xs.length with
      | zero => rw [j] at p1 p2; simp at p1 p2; subst p1; subst p2; exact h
      | succ n => rw [j] at p1; simp at p1
theorem repP_merge {w : Wd} : ∀ {ms : List (Key × V)} {ns : List (Key × D)} {vs : List (Key × V)} {xs : List (Key × D)}, RepP K w ms ns → RepP K w vs xs → RepP K w (mergeK vs ms) (mergeD xs ns)
  | ms, [], vs, xs, r, q => by rw [r.inv0]; exact q
  | ms, (k, x) :: ns, vs, xs, r, q => by
    obtain ⟨v, r', rfl, h, t⟩ := r.inv
    show RepP K w (mergeK (putK vs k v) r') (mergeD (putD xs k x) ns)
    exact repP_merge t (repP_put q k h)
theorem RepP.nil {κ : Type} {w : Wd} : RepP K w ([] : List (κ × V)) [] := ⟨rfl, fun i v x h => by simp at h⟩
theorem RepP.cons {κ : Type} {w : Wd} {k : κ} {v : V} {x : D} {vs : List (κ × V)} {xs : List (κ × D)} (h : Rep K w v x) (t : RepP K w vs xs) : RepP K w ((k, v) :: vs) ((k, x) :: xs) := ⟨by simp [t.1], fun i a b p q => by
  cases i with
  | zero => simp at p q; subst p; subst q; exact h
  | succ i => exact t.2 i a b (by simpa using p) (by simpa using q)⟩
def pairsD : List D → Option (List (Key × D))
  | [] => some []
  | .tup [a, b] :: r => match keyD a, pairsD r with
    | some k, some ps => some ((k, b) :: ps)
    | _, _ => none
  | _ => none
def bDict : List D → Store → ER
  | [.lst xs], st => match pairsD xs with
    | some ps => .ok (.dct (mergeD [] ps)) st
    | none => .no
  | _, _ => .no
theorem pairs_rep {w : Wd} (k : Ok K w) : ∀ {vs : List V} {xs : List D} {ps : List (Key × D)}, RepL K w vs xs → pairsD xs = some ps → ∃ (as : List Addr) (kvs : List (Key × V)), vs = as.map V.ref ∧ Paired (fun p kv => SqT K w.H p [kV kv.1, kv.2]) as kvs ∧ RepP K w kvs ps := by
  intro vs xs
  induction xs generalizing vs with
  | nil => intro ps r h; cases h; rw [r.inv0]; exact ⟨[], [], rfl, .nil, .nil⟩
  | cons d xs ih =>
    intro ps r h
    obtain ⟨v, us, rfl, r1, r2⟩ := r.inv
    unfold pairsD at h
    split at h
    · rename_i heq; cases heq
    · rename_i a b r' heq
      cases heq
      split at h
      · rename_i ky ps' hk hp
        cases h
        obtain ⟨as, kvs, rfl, h1, h2⟩ := ih r2 hp
        cases r1 with
        | tup m l z =>
          have rl : RepL K w _ [a, b] := ⟨l, z⟩
          obtain ⟨va, r1', rfl, ra, t⟩ := rl.inv
          obtain ⟨vb, r2', rfl, rb, t2⟩ := t.inv
          have e := t2.inv0
          subst e
          have ek := keyD_rep ra hk
          subst ek
          exact ⟨_ :: as, (ky, vb) :: kvs, rfl, .cons (k.sqT m) h1, .cons rb h2⟩
      · cases h
    · cases h
theorem cn_dict : CallN K (fun xs H Q => ∃ (a : Addr) (ps : List Addr) (kvs : List (Key × V)), xs = [.ref a] ∧ SqL K H a (ps.map V.ref) ∧ Paired (fun p kv => SqT K H p [kV kv.1, kv.2]) ps kvs ∧
    ∀ p, H p = none → Q (.ref p) (upd H p (.dK (mergeK [] kvs)))) bDict := fun w vs ds Q E k v p => by
  unfold bDict at p
  split at p
  · rename_i xs
    obtain ⟨x, rfl, a, us, rfl, m, r⟩ := v.one
    cases h : pairsD xs with
    | none => rw [h] at p; exact p.elim
    | some ps =>
      rw [h] at p
      obtain ⟨as, kvs, rfl, h1, h2⟩ := pairs_rep k r h
      exact ⟨a, as, kvs, rfl, SqL.of m, h1, fun l hl => PostN.al p k hl ⟨_, rfl, repP_merge h2 .nil⟩⟩
  · exact p.elim
theorem pn_dict {e : Expr} {ms : EM} {p pos : Pos} (hm : mg "dict" = none) (ha : PAb P wd K mg base k N sc W [e] ms) (hg : sc.s.names.lookup ("dict" : Str) = some .globalImplicit := by rfl) (he : ∀ env, starEach [e] env = (false, eval e env) :: starEach [] env := by intro _; rfl) :
    PN P wd K mg base k N sc W (.Call (.Name "dict" p) [e] [] pos) (eB bDict ms) :=
  pn_Ty (T := "dict") (fun X g => by have := call_dictP (X := X) g.calm; rw [g.kk] at this; exact this) cn_dict hm (by decide +kernel) ha hg (by decide) (by decide) he (fun _ => rfl)
theorem pr_dict {e : Expr} {ms : EM} {p pos : Pos} (hm : mg "dict" = none) (ha : PAb P wd K mg base k N sc W [e] ms) (hg : sc.s.names.lookup ("dict" : Str) = some .globalImplicit := by rfl) (he : ∀ env, starEach [e] env = (false, eval e env) :: starEach [] env := by intro _; rfl) :
    PR P wd K mg base k N sc W (.Call (.Name "dict" p) [e] [] pos) (eB bDict ms) := (pn_dict hm ha hg he).fz (eB_new fun ds st d s h => by
  unfold bDict at h
  split at h
  · split at h
    · cases h; trivial
    · cases h
  · cases h)
def bTuple : List D → Store → ER
  | [.lst xs], st => .ok (.tup xs) st
  | _, _ => .no
theorem cd_tuple : CallD K (fun xs H Q => ∃ p ys, xs = [.ref p] ∧ ((SqL K H p ys ∧ ∀ l, H l = none → Q (.ref l) (upd H l (.tup ys))) ∨ (SqT K H p ys ∧ Q (.ref p) H))) bTuple := fun w vs ds Q E k v p => by
  unfold bTuple at p
  split at p
  · obtain ⟨x, rfl, a, us, rfl, h, r⟩ := v.one; exact ⟨_, _, rfl, .inl ⟨SqL.of h, fun l hl => p.tup rfl k r l hl⟩⟩
  · exact p.elim
theorem pr_tuple {e : Expr} {ms : EM} {p pos : Pos} (hm : mg "tuple" = none) (ha : PAb P wd K mg base k N sc W [e] ms) (hg : sc.s.names.lookup ("tuple" : Str) = some .globalImplicit := by rfl) (he : ∀ env, starEach [e] env = (false, eval e env) :: starEach [] env := by intro _; rfl) :
    PR P wd K mg base k N sc W (.Call (.Name "tuple" p) [e] [] pos) (eB bTuple ms) :=
  pr_Ty (T := "tuple") (fun X g => by rw [← g.kk]; exact call_tuple_of) cd_tuple hm (by decide +kernel) ha hg (by decide) (by decide) he (fun _ => rfl)

/-! ### all, any -/
def blsD : List D → Option (List Bool)
  | [] => some []
  | .bl b :: r => (blsD r).map (b :: ·)
  | _ => none
theorem bls_rep {w : Wd} : ∀ {vs : List V} {xs : List D} {bs : List Bool}, RepL K w vs xs → blsD xs = some bs → vs = bs.map V.bl := by
  intro vs xs
  induction xs generalizing vs with
  | nil => intro bs r h; cases h; rw [r.inv0]; rfl
  | cons d xs ih =>
    intro bs r h
    obtain ⟨v, us, rfl, r1, r2⟩ := r.inv
    cases d with
    | bl b =>
      unfold blsD at h
      cases e : blsD xs with
      | none => rw [e] at h; cases h
      | some cs => rw [e] at h; cases h; cases r1; rw [ih r2 e]; rfl
    | _ => cases h
def bAll : List D → Store → ER
  | [.lst xs], st => match blsD xs with | some bs => .ok (.bl (bs.all id)) st | none => .no
  | _, _ => .no
def bAny : List D → Store → ER
  | [.lst xs], st => match blsD xs with | some bs => .ok (.bl (bs.any id)) st | none => .no
  | _, _ => .no
theorem cd_all : CallD K (rAll K) bAll := fun w vs ds Q E k v p => by
  unfold bAll at p
  split at p
  · obtain ⟨x, rfl, a, us, rfl, m, r⟩ := v.one
    split at p
    · rename_i bs h; have := bls_rep r h; subst this; exact ⟨a, bs, rfl, SqL.of m, p.now k .bl⟩
    · exact p.elim
  · exact p.elim
theorem cd_any : CallD K (rAny K) bAny := fun w vs ds Q E k v p => by
  unfold bAny at p
  split at p
  · obtain ⟨x, rfl, a, us, rfl, m, r⟩ := v.one
    split at p
    · rename_i bs h; have := bls_rep r h; subst this; exact ⟨a, bs, rfl, SqL.of m, p.now k .bl⟩
    · exact p.elim
  · exact p.elim
theorem pr_all {e : Expr} {ms : EM} {p pos : Pos} (hm : mg "all" = none) (ha : PAb P wd K mg base k N sc W [e] ms) (hg : sc.s.names.lookup ("all" : Str) = some .globalImplicit := by rfl) (he : ∀ env, starEach [e] env = (false, eval e env) :: starEach [] env := by intro _; rfl) :
    PR P wd K mg base k N sc W (.Call (.Name "all" p) [e] [] pos) (eB bAll ms) :=
  pr_B (id := "all") (fun X g => by have := cr_all (X := X) g.calm; rw [g.kk] at this; exact this) cd_all hm (by decide +kernel) ha hg (by decide) (by decide) he (fun _ => rfl)
theorem pr_any {e : Expr} {ms : EM} {p pos : Pos} (hm : mg "any" = none) (ha : PAb P wd K mg base k N sc W [e] ms) (hg : sc.s.names.lookup ("any" : Str) = some .globalImplicit := by rfl) (he : ∀ env, starEach [e] env = (false, eval e env) :: starEach [] env := by intro _; rfl) :
    PR P wd K mg base k N sc W (.Call (.Name "any" p) [e] [] pos) (eB bAny ms) :=
  pr_B (id := "any") (fun X g => by have := cr_any (X := X) g.calm; rw [g.kk] at this; exact this) cd_any hm (by decide +kernel) ha hg (by decide) (by decide) he (fun _ => rfl)

/-! ### in -/
def flD : D → Option V
  | .non => some .non
  | .bl b => some (.bl b)
  | .int i => some (.int i)
  | .str x => some (.str x)
  | _ => none
def flDs : List D → Option (List V)
  | [] => some []
  | d :: ds => match flD d, flDs ds with
    | some v, some vs => some (v :: vs)
    | _, _ => none
theorem fl_vw {w : Wd} {v u : V} {d : D} (r : Vw K w v d) (h : flD d = some u) : v = u ∧ flatV u = true := by
  cases d <;> cases h <;> exact ⟨r, rfl⟩
theorem fl_rep {w : Wd} {v u : V} {d : D} (r : Rep K w v d) (h : flD d = some u) : v = u ∧ flatV u = true := by
  cases d <;> cases h <;> cases r <;> exact ⟨rfl, rfl⟩
theorem fls_rep {w : Wd} : ∀ {vs us : List V} {xs : List D}, RepL K w vs xs → flDs xs = some us → vs = us ∧ us.all flatV = true := by
  intro vs us xs
  induction xs generalizing vs us with
  | nil => intro r h; cases h; exact ⟨r.inv0, rfl⟩
  | cons d xs ih =>
    intro r h
    obtain ⟨v, ws, rfl, r1, r2⟩ := r.inv
    unfold flDs at h
    split at h
    · rename_i v' vs' h1 h2
      cases h
      obtain ⟨rfl, e1⟩ := fl_rep r1 h1
      obtain ⟨rfl, e2⟩ := ih r2 h2
      exact ⟨rfl, by rw [List.all_cons, e1, e2]; rfl⟩
    · cases h
def hasK (kvs : List (Key × D)) (k : Key) : Bool := kvs.any fun kv => decide (kv.1 = k)
def inD (x y : D) : Option Bool := match y with
  | .lst ys => match flD x, flDs ys with | some v, some vs => some (inV v vs) | _, _ => none
  | .tup ys => match flD x, flDs ys with | some v, some vs => some (inV v vs) | _, _ => none
  | .str z => match x with | .str a => (match a.cps with | ⟨[c]⟩ => some (decide (c ∈ z.cps.toList)) | _ => none) | _ => none
  | .dct kvs => match keyD x with | some k => some (hasK kvs k) | none => none
  | _ => none
def oIn : D → D → Store → ER := fun x y st => match inD x y with | some b => .ok (.bl b) st | none => .no
def oNotIn : D → D → Store → ER := fun x y st => match inD x y with | some b => .ok (.bl !b) st | none => .no
theorem valV_has {w : Wd} {vs : List (Key × V)} {xs : List (Key × D)} (r : RepP K w vs xs) (k : Key) : (valV vs k).isSome = hasK xs k := by
  unfold valV hasK
  have h2 : (xs.any fun kv => decide (kv.1 = k)) = (xs.map (·.1)).any fun y => decide (y = k) := by rw [List.any_map]; rfl
  have h1 : (vs.any fun kv => decide (kv.1 = k)) = (vs.map (·.1)).any fun y => decide (y = k) := by rw [List.any_map]; rfl
  rw [h2, ← r.1, ← h1, Option.isSome_map]
  induction vs generalizing xs with
  | nil => rfl
  | cons p ps ih =>
    obtain ⟨k0, v0⟩ := p
    cases xs with
    | nil => have := r.1; simp at this
    | cons q qs =>
      obtain ⟨k1, x1⟩ := q
      obtain ⟨v', r', e, h, t⟩ := r.inv
      cases e
      have ih' := ih t (by rw [List.any_map]; rfl) (by rw [List.any_map]; rfl)
      by_cases z : k0 = k
      · simp [List.find?_cons, z]
      · simp only [List.find?_cons, List.any_cons, z, decide_false, Bool.false_or]; exact ih'
def rSgn : R2 := fun x y H Q => ∃ (c : Nat) (z : Str), x = .str ⟨#[c]⟩ ∧ y = .str z ∧ Q (.bl (decide (c ∈ z.cps.toList))) H
def rNotSgn : R2 := fun x y H Q => ∃ (c : Nat) (z : Str), x = .str ⟨#[c]⟩ ∧ y = .str z ∧ Q (.bl (!decide (c ∈ z.cps.toList))) H
def rInDct (neg : Bool) : R2 := fun y x H Q => ∃ a o, x = .ref a ∧ DGet H a y o ∧ Q (.bl (if neg then !o.isSome else o.isSome)) H
theorem op_inDct {X : Cx} (hu : X.A.units + 1 < cLine) : OpR X (compareOp .In) (rInDct false) := by
  intro pins s σ H x y u v Q I rx ry h
  obtain ⟨a, o, rfl, g, q⟩ := h
  cases ry
  exact d_in hu I g rx fun s' I' => ⟨.bl _, H, I', rfl, q⟩
theorem op_notInDct {X : Cx} (hu : X.A.units + 1 < cLine) : OpR X (compareOp .NotIn) (rInDct true) := by
  intro pins s σ H x y u v Q I rx ry h
  obtain ⟨a, o, rfl, g, q⟩ := h
  cases ry
  exact d_notIn hu I g rx fun s' I' => ⟨.bl _, H, I', rfl, q⟩
theorem od_in : OpD K (rOr (rIn K false) (rOr rSgn (rInDct false))) oIn := fun w x y dx dy Q E k vx vy p => by
  unfold oIn inD at p
  cases dy with
  | lst ys =>
    obtain ⟨a, vs, rfl, m, r⟩ := vy
    dsimp only at p
    split at p
    · rename_i b hb
      split at hb
      · rename_i v us h1 h2
        cases hb
        obtain ⟨rfl, e1⟩ := fl_vw vx h1
        obtain ⟨rfl, e2⟩ := fls_rep r h2
        exact .inl ⟨a, _, rfl, .inl (SqL.of m), e1, e2, p.now k .bl⟩
      · cases hb
    · exact p.elim
  | tup ys =>
    obtain ⟨a, vs, rfl, m, r⟩ := vy
    dsimp only at p
    split at p
    · rename_i b hb
      split at hb
      · rename_i v us h1 h2
        cases hb
        obtain ⟨rfl, e1⟩ := fl_vw vx h1
        obtain ⟨rfl, e2⟩ := fls_rep r h2
        exact .inl ⟨a, _, rfl, .inr m, e1, e2, p.now k .bl⟩
      · cases hb
    · exact p.elim
  | str z =>
    obtain rfl := vy
    cases dx with
    | str a =>
      obtain rfl := vx
      dsimp only at p
      split at p
      · rename_i b hb
        split at hb
        · rename_i c hc
          cases hb
          obtain ⟨cs⟩ := a
          subst hc
          exact .inr (.inl ⟨c, z, rfl, rfl, p.now k .bl⟩)
        · cases hb
      · exact p.elim
    | _ => exact p.elim
  | dct kvs =>
    obtain ⟨a, vs, rfl, m, r⟩ := vy
    dsimp only at p
    split at p
    · rename_i b hb
      split at hb
      · rename_i ky hk
        cases hb
        have := keyD_vw vx hk
        subst this
        exact .inr (.inr ⟨a, valV vs ky, rfl, .inl ⟨vs, ky, m, rfl, rfl⟩, by rw [valV_has r]; exact p.now k .bl⟩)
      · cases hb
    · exact p.elim
  | _ => exact p.elim
theorem od_notIn : OpD K (rOr (rIn K true) (rOr rNotSgn (rInDct true))) oNotIn := fun w x y dx dy Q E k vx vy p => by
  unfold oNotIn inD at p
  cases dy with
  | lst ys =>
    obtain ⟨a, vs, rfl, m, r⟩ := vy
    dsimp only at p
    split at p
    · rename_i b hb
      split at hb
      · rename_i v us h1 h2
        cases hb
        obtain ⟨rfl, e1⟩ := fl_vw vx h1
        obtain ⟨rfl, e2⟩ := fls_rep r h2
        exact .inl ⟨a, _, rfl, .inl (SqL.of m), e1, e2, p.now k .bl⟩
      · cases hb
    · exact p.elim
  | tup ys =>
    obtain ⟨a, vs, rfl, m, r⟩ := vy
    dsimp only at p
    split at p
    · rename_i b hb
      split at hb
      · rename_i v us h1 h2
        cases hb
        obtain ⟨rfl, e1⟩ := fl_vw vx h1
        obtain ⟨rfl, e2⟩ := fls_rep r h2
        exact .inl ⟨a, _, rfl, .inr m, e1, e2, p.now k .bl⟩
      · cases hb
    · exact p.elim
  | str z =>
    obtain rfl := vy
    cases dx with
    | str a =>
      obtain rfl := vx
      dsimp only at p
      split at p
      · rename_i b hb
        split at hb
        · rename_i c hc
          cases hb
          obtain ⟨cs⟩ := a
          subst hc
          exact .inr (.inl ⟨c, z, rfl, rfl, p.now k .bl⟩)
        · cases hb
      · exact p.elim
    | _ => exact p.elim
  | dct kvs =>
    obtain ⟨a, vs, rfl, m, r⟩ := vy
    dsimp only at p
    split at p
    · rename_i b hb
      split at hb
      · rename_i ky hk
        cases hb
        have := keyD_vw vx hk
        subst this
        exact .inr (.inr ⟨a, valV vs ky, rfl, .inl ⟨vs, ky, m, rfl, rfl⟩, by rw [valV_has r]; exact p.now k .bl⟩)
      · cases hb
    · exact p.elim
  | _ => exact p.elim
theorem pr_in {a b : Expr} {ma mb : EM} {pos : Pos} (ha : PB P wd K mg base k N sc W a ma) (hb : PB P wd K mg base k N sc W b mb) (hm : behindInMarks .In b = false := by first | exact nomark _ | rfl) : PR P wd K mg base k N sc W (.Compare a [.In] [b] pos) (eOp oIn ma mb) :=
  pr_cmp (fun X g => OpR.or' (by have := op_in_seq (X := X); rw [g.kk] at this; exact this) (OpR.or' op_in_sign (op_inDct (by have := g.room.un; omega)))) od_in ha hb hm
theorem pt_in {a b : Expr} {ma mb : EM} {pos : Pos} (ha : PB P wd K mg base k N sc W a ma) (hb : PB P wd K mg base k N sc W b mb) (hm : behindInMarks .In b = false := by first | exact nomark _ | rfl) : PTt P wd K mg base k N sc W (.Compare a [.In] [b] pos) (eOp oIn ma mb) :=
  pt_cmp' (fun X g => OpR.or' (by have := op_in_seq (X := X); rw [g.kk] at this; exact this) (OpR.or' op_in_sign (op_inDct (by have := g.room.un; omega)))) od_in ha hb hm
theorem pr_notin {a b : Expr} {ma mb : EM} {pos : Pos} (ha : PB P wd K mg base k N sc W a ma) (hb : PB P wd K mg base k N sc W b mb) (hm : behindInMarks .NotIn b = false := by first | exact nomark _ | rfl) : PR P wd K mg base k N sc W (.Compare a [.NotIn] [b] pos) (eOp oNotIn ma mb) :=
  pr_cmp (fun X g => OpR.or' (by have := op_notIn_seq (X := X); rw [g.kk] at this; exact this) (OpR.or' op_notIn_sign (op_notInDct (by have := g.room.un; omega)))) od_notIn ha hb hm
theorem pt_notin {a b : Expr} {ma mb : EM} {pos : Pos} (ha : PB P wd K mg base k N sc W a ma) (hb : PB P wd K mg base k N sc W b mb) (hm : behindInMarks .NotIn b = false := by first | exact nomark _ | rfl) : PTt P wd K mg base k N sc W (.Compare a [.NotIn] [b] pos) (eOp oNotIn ma mb) :=
  pt_cmp' (fun X g => OpR.or' (by have := op_notIn_seq (X := X); rw [g.kk] at this; exact this) (OpR.or' op_notIn_sign (op_notInDct (by have := g.room.un; omega)))) od_notIn ha hb hm
end
end DL
namespace DL
open PySem L2
section
variable {P : Program} {wd : World} {K : PySem.W.Frag} {mg : Str → Option Value} {base : Heap} {k : Nat} {N : List Str} {sc : SC} {W : WX}
/-! ### text times int -/
def repS (x : Str) (n : Int) : Str := if n < 1 then Str.empty else if (n == 1 || x.length == 0) = true then x else ⟨(List.replicate n.toNat x.cps).foldl (· ++ ·) #[]⟩
theorem rep_size (a : Array Nat) : ∀ (n : Nat) (acc : Array Nat), ((List.replicate n a).foldl (· ++ ·) acc).size = acc.size + n * a.size
  | 0, acc => by simp
  | n + 1, acc => by
    rw [List.replicate_succ, List.foldl_cons, rep_size a n, Array.size_append, Nat.succ_mul]; omega
theorem rep_toList (a : Array Nat) : ∀ (n : Nat) (acc : Array Nat), ((List.replicate n a).foldl (· ++ ·) acc).toList = acc.toList ++ (List.replicate n a.toList).flatten
  | 0, acc => by simp
  | n + 1, acc => by
    rw [List.replicate_succ, List.foldl_cons, rep_toList a n, Array.toList_append, List.replicate_succ, List.flatten_cons, List.append_assoc]
/-- its signs -/
theorem repS_toList (x : Str) (n : Int) : (repS x n).cps.toList = (List.replicate n.toNat x.cps.toList).flatten := by
  unfold repS
  split
  · have : n.toNat = 0 := by omega
    rw [this]; rfl
  · split
    · rename_i h
      simp at h
      rcases h with h | h
      · subst h; simp
      · have : x.cps.toList = [] := List.eq_nil_of_length_eq_zero (by simpa [Str.length] using h)
        rw [this]; simp
    · rw [rep_toList]; rfl
def rMulS : R2 := fun x y H Q => ∃ z n, x = .str z ∧ y = .int n ∧ n < 16777216 ∧ -16777216 < n ∧ z.length * n.toNat ≤ sizeLine ∧ Q (.str (repS z n)) H
theorem op_mulS {X : Cx} : OpR X (binaryOp .Mult) rMulS := by
  intro pins s σ H x y u v Q I rx ry h
  obtain ⟨z, n, rfl, rfl, h1, h2, h3, q⟩ := h
  obtain ⟨t, rfl⟩ := rx
  obtain ⟨t', rfl⟩ := ry
  have tl : PySem.Builtin.Str.tooLong (z.length * n.toNat) = false := by
    show decide _ = false
    exact decide_eq_false (Nat.not_lt.mpr h3)
  refine PySem.P.mul_str ?_ (fun a b => ?_) (fun a b => tl) ?_
  · have a : ¬ n < -(2 ^ 63 : Int) := by omega
    have b : ¬ n ≥ 2 ^ 63 := by omega
    rw [decide_eq_false a, decide_eq_false b]; rfl
  · have hn : 2 ≤ n := by
      simp at b; omega
    have hz : (z.length : Int) * n ≤ 16777216 := by
      have h3' : z.length * n.toNat ≤ 16777216 := by rw [← sizeLine_eq]; exact h3
      have e : ((z.length * n.toNat : Nat) : Int) = (z.length : Int) * n := by rw [Int.natCast_mul, Int.toNat_of_nonneg (by omega)]
      omega
    have : (z.length : Int) ≤ (2 ^ 63 - 1) / n := by
      rw [Int.le_ediv_iff_mul_le (by omega)]; omega
    omega
  · unfold repS at q
    by_cases a : n < 1
    · rw [if_pos a] at q ⊢
      exact ⟨by decide, ⟨.str _, H, I.tok _, ⟨_, rfl⟩, q⟩⟩
    · rw [if_neg a] at q ⊢
      by_cases b : (n == 1 || z.length == 0) = true
      · rw [if_pos b] at q ⊢
        exact ⟨.str _, H, I, ⟨_, rfl⟩, q⟩
      · rw [if_neg b] at q ⊢
        refine ⟨?_, ⟨.str _, H, I.tok _, ⟨_, rfl⟩, q⟩⟩
        show ((List.replicate n.toNat z.cps).foldl (· ++ ·) #[]).size ≤ _
        rw [rep_size]
        have e : z.cps.size = z.length := rfl
        rw [e, Nat.mul_comm]
        simpa using h3
def oMulX : D → D → Store → ER
  | .int i, .int j, st => if (-18446744073709551616 < i ∧ i < 18446744073709551616) ∨ (-18446744073709551616 < j ∧ j < 18446744073709551616) then .ok (.int (i * j)) st else .no
  | .str x, .int n, st => if n < 16777216 ∧ -16777216 < n ∧ x.length * n.toNat ≤ 16777216 then .ok (.str (repS x n)) st else .no
  | .lst xs, .int n, st => if n < 16777216 ∧ -16777216 < n ∧ xs.length * n.toNat ≤ 16777216 then .ok (.lst (List.replicate n.toNat xs).flatten) st else .no
  | _, _, _ => .no
theorem repL_flat {w : Wd} {vs : List V} {xs : List D} (r : RepL K w vs xs) : ∀ n : Nat, RepL K w (List.replicate n vs).flatten (List.replicate n xs).flatten
  | 0 => .nil
  | n + 1 => by rw [List.replicate_succ, List.replicate_succ, List.flatten_cons, List.flatten_cons]; exact r.append (repL_flat r n)
theorem pr_mulx {a b : Expr} {ma mb : EM} {pos : Pos} (ha : PB P wd K mg base k N sc W a ma) (hb : PB P wd K mg base k N sc W b mb) : PR P wd K mg base k N sc W (.BinOp a .Mult b pos) (eOp oMulX ma mb) :=
  pr_op (fun X g => OpR.or' op_mul (OpR.or' op_mulS op_rep)) (fun w x y dx dy Q E k vx vy p => by
    cases dx <;> cases dy <;> try exact p.elim
    case int.int i j => obtain rfl := vx; obtain rfl := vy; obtain ⟨h, p⟩ := PostE.ite p; exact .inl ⟨i, j, rfl, rfl, h, p.now k .int⟩
    case str.int x n => obtain rfl := vx; obtain rfl := vy; obtain ⟨h, p⟩ := PostE.ite p; exact .inr (.inl ⟨x, n, rfl, rfl, h.1, h.2.1, by rw [sizeLine_eq]; exact h.2.2, p.now k .str⟩)
    case lst.int xs n =>
      obtain ⟨p1, vs, rfl, h1, r1⟩ := vx; obtain rfl := vy; obtain ⟨h, p⟩ := PostE.ite p
      exact .inr (.inr ⟨p1, n, vs, rfl, rfl, h1, by omega, by omega, by rw [sizeLine_eq, r1.1]; exact h.2.2, fun c hc => p.lst rfl k (repL_flat r1 _) c hc⟩)) ha hb

/-! ### minus -/
def eNeg (m : EM) : EM := fun Γ st => (m Γ st).bind fun d s => match d with | .int i => .ok (.int (-i)) s | _ => .no
theorem pr_neg {a : Expr} {ma : EM} {pos : Pos} (h : PR P wd K mg base k N sc W a ma) : PR P wd K mg base k N sc W (.UnaryOp .USub a pos) (eNeg ma) := by
  obtain ⟨t, p, r⟩ := h
  refine ⟨_, fun X g => pe_un un_neg (p X g), ?_⟩
  intro H0 w Γ σ ok f Q q
  refine r.use ok f (P := fun w r => PostE K w r Q (at_ W σ)) (fun _ _ e k p => p.shift e k) (fun _ _ p => p) (fun p => p) q fun d v w1 e1 k1 f1 r p1 => ?_
  cases r with
  | @int i => exact ⟨i, rfl, p1.now k1 .int⟩
  | _ => exact p1.elim

/-! ### isinstance -/
def tyN : D → Option String
  | .non => some "NoneType"
  | .bl _ => some "bool"
  | .int _ => some "int"
  | .str _ => some "str"
  | .lst _ => some "list"
  | .tup _ => some "tuple"
  | .dct _ => some "dict"
  | _ => none
theorem ty_vw {w : Wd} {v : V} {d : D} {T : String} (vw : Vw K w v d) (h : tyN d = some T) : TyX K w.H v (.type T) := by
  cases d with
  | non => cases h; obtain rfl := vw; exact .base .non
  | bl b => cases h; obtain rfl := vw; exact .base (.bl _)
  | int b => cases h; obtain rfl := vw; exact .base (.int _)
  | str b => cases h; obtain rfl := vw; exact .base (.str _)
  | lst xs => cases h; obtain ⟨a, vs, rfl, m, _⟩ := vw; exact .base (.lst m)
  | tup xs =>
    cases h; obtain ⟨a, vs, rfl, m, _⟩ := vw
    rcases m with (m | ⟨o, m⟩) | ⟨o, its, n, m, c, _⟩
    · exact .base (.tup m)
    · exact .fTuple m
    · exact .kTuple m c
  | dct xs =>
    cases h; obtain ⟨a, vs, rfl, m, _⟩ := vw
    rcases m with m | ⟨o, m⟩
    · exact .base (.dK m)
    · exact .fDict m
  | _ => cases h
def bIsi : List D → Store → ER
  | [x, .ty U], st => match tyN x with
    | some T => match kitB T U with
      | some b => .ok (.bl b) st
      | none => .no
    | none => .no
  | _, _ => .no
theorem cd_isi : CallD K (rIsi K) bIsi := fun w vs ds Q E k v p => by
  unfold bIsi at p
  split at p
  · rename_i x U
    obtain ⟨a, c, rfl, va, vc⟩ := v.two
    obtain rfl := vc
    split at p
    · rename_i T hT
      split at p
      · rename_i b hb
        exact ⟨a, _, _, _, b, rfl, .ty U, ty_vw va hT, kit_ty hb, p.now k .bl⟩
      · exact p.elim
    · exact p.elim
  · exact p.elim
theorem pr_isi {e1 e2 : Expr} {ms : EM} {p pos : Pos} (hm : mg "isinstance" = none) (ha : PAb P wd K mg base k N sc W [e1, e2] ms) (hg : sc.s.names.lookup ("isinstance" : Str) = some .globalImplicit := by rfl) (he : ∀ env, starEach [e1, e2] env = (false, eval e1 env) :: starEach [e2] env := by intro _; rfl)
    (hpl : ∀ env, (backTo pos (starEach [e2] env)).any (·.1) = false := by intro _; rfl) :
    PR P wd K mg base k N sc W (.Call (.Name "isinstance" p) [e1, e2] [] pos) (eB bIsi ms) :=
  pr_B (id := "isinstance") (fun X g => by have := call_isi (X := X); rw [g.kk] at this; exact this) cd_isi hm (by decide +kernel) ha hg (by decide) (by decide) he hpl
/-- a built-in type by its name -/
theorem pr_ty {x : Str} {T : String} {pos : Pos} (hm : mg x = none) (hv : bootBuiltins x = some (.type T) := by decide +kernel) (hg : sc.s.names.lookup x = some .globalImplicit := by rfl) (hn : x ≠ "__name__" := by decide) (hdb : (x == ("__debug__" : Str)) = false := by decide) :
    PR P wd K mg base k N sc W (.Name x pos) (eC (.ty T)) :=
  ⟨_, fun X g => pe_bltn (v := .ty T) (by unfold Gl PySem.Env.kindOf; rw [g.scp]; exact hg) (by rw [g.mg]; exact hm) hv rfl hn hdb, rt_c fun _ => .ty⟩

/-! ### a text is walked -/
def sgn (c : Nat) : Str := ⟨#[c]⟩
def sgns (x : Str) : List D := x.cps.toList.map fun c => .str (sgn c)
theorem itr_str {w : Wd} {x : Str} : Wlk K w (Its x) (sgns x) := fun i w1 e k => by
  refine ⟨fun d hd => ?_, fun hn => ?_⟩
  · unfold sgns at hd
    rw [List.getElem?_map] at hd
    cases q : x.cps.toList[i]? with
    | none => rw [q] at hd; cases hd
    | some c =>
      rw [q] at hd; cases hd
      have hl := getElem?_lt q
      refine ⟨show i < x.cps.size by simpa using hl, fun v H2 y => ⟨w1, y.1.symm, rfl, Evo.refl w1, k, ?_⟩⟩
      obtain ⟨c', h1, rfl⟩ := y.2
      rw [← Array.getElem?_toList, q] at h1
      cases h1
      exact .str
  · have := List.getElem?_eq_none_iff.mp hn
    show x.cps.size ≤ i
    simpa [sgns] using this
def eIterX (m : EM) : EM := fun Γ st => (m Γ st).bind fun d s => match d with
  | .lst xs => .ok (.tup xs) s
  | .tup xs => .ok (.tup xs) s
  | .dct kvs => .ok (.tup (kvs.map fun p => kD p.1)) s
  | .str x => .ok (.tup (sgns x)) s
  | _ => .no
theorem pi_anyx {tg e : Expr} {m : EM} (h : PR P wd K mg base k N sc W e m) : PIt P wd K mg base k N sc W tg e (eIterX m) := by
  obtain ⟨t, p, r⟩ := h
  refine ⟨fun σ H R => iList K t σ H R ∨ iTup K t σ H R ∨ iKeys t σ H R ∨ iStr t σ H R, fun X g => PI.or (by have := pi_list (tg := tg) (p X g); rw [g.kk] at this; exact this) (PI.or (by have := pi_tup (tg := tg) (p X g); rw [g.kk] at this; exact this) (PI.or (pi_keys (p X g)) (pi_str (p X g)))), ?_⟩
  intro H0 w Γ σ ok f R q
  have q' : PostI K w ((m Γ w.st).bind _) R (at_ W σ) := q
  cases e : m Γ w.st with
  | err x st => rw [e] at q'; exact .inl (r H0 w Γ σ ok f _ (by rw [e]; exact q'))
  | no => rw [e] at q'; exact q'.elim
  | ok d st =>
    rw [e] at q'
    cases d with
    | lst xs => exact .inl (r H0 w Γ σ ok f _ (by
        rw [e]
        intro v w' ev k' s rv
        cases rv with
        | lst m l z => exact ⟨_, rfl, ⟨_, SqL.of (k'.ex _ _ m)⟩, q' _ w' ev k' s (itr_list m ⟨l, z⟩)⟩))
    | tup xs => exact .inr (.inl (r H0 w Γ σ ok f _ (by
        rw [e]
        intro v w' ev k' s rv
        cases rv with
        | tup m l z => exact ⟨_, rfl, ⟨_, k'.sqT m⟩, q' _ w' ev k' s (itr_tup m ⟨l, z⟩)⟩)))
    | dct xs => exact .inr (.inr (.inl (r H0 w Γ σ ok f _ (by
        rw [e]
        intro v w' ev k' s rv
        cases rv with
        | dct m l z => exact ⟨_, _, rfl, .inl ⟨_, k'.ex _ _ m, q' _ w' ev k' s (wlk_keys m ⟨l, z⟩)⟩⟩))))
    | str x => exact .inr (.inr (.inr (r H0 w Γ σ ok f _ (by
        rw [e]
        intro v w' ev k' s rv
        cases rv
        exact ⟨x, rfl, q' _ w' ev k' s itr_str⟩))))
    | _ => exact q'.elim

/-! ### items, of dicts too -/
def valD (kvs : List (Key × D)) (k : Key) : Option D := (kvs.find? fun kv => decide (kv.1 = k)).map (·.2)
def oIxX : D → D → Store → ER
  | .lst xs, .int i, st => match atI xs i with | some d => .ok d st | none => .no
  | .tup xs, .int i, st => match atI xs i with | some d => .ok d st | none => .no
  | .str x, .int i, st => if x.length ≤ 16777216 then match atI x.cps.toList i with | some c => .ok (.str (sgn c)) st | none => .no else .no
  | .dct kvs, i, st => match keyD i with
    | some ky => match valD kvs ky with
      | some d => .ok d st
      | none => .no
    | none => .no
  | _, _, _ => .no
theorem repP_val {w : Wd} {vs : List (Key × V)} {xs : List (Key × D)} (r : RepP K w vs xs) (k : Key) {d : D} (h : valD xs k = some d) : ∃ v, valV vs k = some v ∧ Rep K w v d := by
  induction xs generalizing vs with
  | nil => cases h
  | cons p ps ih =>
    obtain ⟨k1, x1⟩ := p
    obtain ⟨v', r', rfl, h1, t⟩ := r.inv
    by_cases z : k1 = k
    · refine ⟨v', valV_pos z, ?_⟩
      have : valD ((k1, x1) :: ps) k = some x1 := by simp [valD, List.find?_cons, z]
      rw [this] at h; cases h; exact h1
    · have e : valD ((k1, x1) :: ps) k = valD ps k := by simp [valD, List.find?_cons, z]
      rw [e] at h
      obtain ⟨v, hv, rv⟩ := ih t h
      exact ⟨v, (valV_neg z).trans hv, rv⟩
def rIxD : R2 := fun x y H Q => ∃ a v, x = .ref a ∧ DGet H a y (some v) ∧ Q v H
theorem pr_ixx {a b : Expr} {ma mb : EM} {pos : Pos} (ha : PB P wd K mg base k N sc W a ma) (hb : PB P wd K mg base k N sc W b mb) (hs : PlainIx b := by exact fun _ _ => rfl) : PR P wd K mg base k N sc W (.Subscript a b pos) (eOp oIxX ma mb) := by
  obtain ⟨ta, pa, ra⟩ := ha
  obtain ⟨tb, pb, rb⟩ := hb
  refine ⟨fun σ H Q => tOp (rIx K) ta tb σ H Q ∨ tDGet ta tb σ H Q, fun X g => PE.or (pe_ix (by have := ix_seq (X := X); rw [g.kk] at this; exact this) (pa X g) (pb X g) hs) (pe_dget (by have := g.room.un; omega) (pa X g) (pb X g) hs), ?_⟩
  have one : ∀ (H0 : Hp) (w : Wd) (Γ : DEnv) (σ : L2.St), Ok K w → Fr K H0 w Γ σ → ∀ Q : VK, PostE K w (eOp oIx ma mb Γ w.st) Q (at_ W σ) → tOp (rIx K) ta tb σ w.H Q := rt_op od_ix ra rb
  have two : ∀ (H0 : Hp) (w : Wd) (Γ : DEnv) (σ : L2.St), Ok K w → Fr K H0 w Γ σ → ∀ Q : VK, PostE K w (eOp (fun x i st => match x with | .dct kvs => (match keyD i with | some ky => (match valD kvs ky with | some d => .ok d st | none => .no) | none => .no) | _ => .no) ma mb Γ w.st) Q (at_ W σ) → tDGet ta tb σ w.H Q := by
    refine rt_op (r := rIxD) (fun w x y dx dy Q E k vx vy p => ?_) ra rb
    split at p
    · rename_i kvs
      obtain ⟨c, vs, rfl, m, r⟩ := vx
      split at p
      · rename_i ky hk
        split at p
        · rename_i d hd
          obtain ⟨v, hv, rv⟩ := repP_val r ky hd
          have := keyD_vw vy hk
          subst this
          exact ⟨c, v, rfl, .inl ⟨vs, ky, m, rfl, hv.symm⟩, p.now k rv⟩
        · exact p.elim
      · exact p.elim
    · exact p.elim
  intro H0 w Γ σ ok f Q q
  have q' : PostE K w ((ma Γ w.st).bind fun x s1 => (mb Γ s1).bind fun y s2 => oIxX (deref s2 x) (deref s2 y) s2) Q (at_ W σ) := q
  cases e1 : ma Γ w.st with
  | no => rw [e1] at q'; exact q'.elim
  | err x st => refine .inl (one H0 w Γ σ ok f Q ?_); unfold eOp; rw [e1]; rw [e1] at q'; exact q'
  | ok x s1 =>
    rw [e1] at q'
    have q2 : PostE K w ((mb Γ s1).bind fun y s2 => oIxX (deref s2 x) (deref s2 y) s2) Q (at_ W σ) := q'
    cases e2 : mb Γ s1 with
    | no => rw [e2] at q2; exact q2.elim
    | err x st => refine .inl (one H0 w Γ σ ok f Q ?_); unfold eOp; rw [e1, ok_bind, e2]; rw [e2] at q2; exact q2
    | ok y s2 =>
      rw [e2] at q2
      have q3 : PostE K w (oIxX (deref s2 x) (deref s2 y) s2) Q (at_ W σ) := q2
      cases e3 : deref s2 x with
      | dct kvs => refine .inr (two H0 w Γ σ ok f Q ?_); unfold eOp; rw [e1, ok_bind, e2, ok_bind, e3]; rw [e3] at q3; exact q3
      | lst xs => refine .inl (one H0 w Γ σ ok f Q ?_); unfold eOp; rw [e1, ok_bind, e2, ok_bind, e3]; rw [e3] at q3; cases e4 : deref s2 y <;> rw [e4] at q3 <;> exact q3
      | tup xs => refine .inl (one H0 w Γ σ ok f Q ?_); unfold eOp; rw [e1, ok_bind, e2, ok_bind, e3]; rw [e3] at q3; cases e4 : deref s2 y <;> rw [e4] at q3 <;> exact q3
      | str xs => refine .inl (one H0 w Γ σ ok f Q ?_); unfold eOp; rw [e1, ok_bind, e2, ok_bind, e3]; rw [e3] at q3; cases e4 : deref s2 y <;> rw [e4] at q3 <;> exact q3
      | _ => rw [e3] at q3; exact q3.elim
end
end DL
namespace DL
open PySem L2
section
variable {P : Program} {wd : World} {K : PySem.W.Frag} {mg : Str → Option Value} {base : Heap} {k : Nat}
/-- where nothing is asked, nothing is promised -/
abbrev Dbot : DF := fun _ _ => .no
theorem fn_bot {x : Str} {st : Stmt} {ps : List Str} (h : HF K mg x st) (hb : ∀ (kV doc pm : Value) (an : Option Addr) (cdv ct : Value) (us : List Value), us.length = ps.length → bindArgs (PySem.W.fnOf x x (defArgs st) (defBody st) (defScope st) .none kV doc pm an cdv ct) ⟨us, []⟩ = pure (ps.zip us)) : Fn P wd K mg base k x Dbot := by
  obtain ⟨f, fd, F, hm⟩ := h
  refine ⟨f, fd, ps, ⟨fun vs H Q E h => ?_, fun {A outer s H args us vs Q E} _ _ _ _ h => ?_⟩, hm, F.kp, F.binds hb⟩
  · obtain ⟨_, _, _, _, _, p⟩ := h; exact p.elim
  · obtain ⟨_, _, _, _, _, p⟩ := h; exact p.elim
theorem Fn.mono {j : Nat} {x : Str} {F : DF} (h : Fn P wd K mg base j x F) (hj : j ≤ k) : Fn P wd K mg base k x F :=
  let ⟨f, fd, ps, a, b, c, d⟩ := h.ex; ⟨f, fd, ps, a.mono hj, b, c, d⟩
variable {N : List Str} {sc : SC} {W : WX}
theorem sw_cell {elt : Expr} {gs : List Comprehension} {scope : Scope} {pos py : Pos} {y : Str} {l : Nat} {env : PySem.Env} (hy : env.scope.names.lookup y = some .cell) : swapsWithSole [.Name y py] (.ListComp elt gs scope pos) l env = pure false := by
  have e : (env.kindOf y == some .local) = false := by unfold PySem.Env.kindOf; rw [hy]; rfl
  unfold swapsWithSole swapsWith
  simp [e]
/-- a cell of the frame is set to a list comprehension -/
theorem ps_asgC (i : Nat) {x : Str} {elt : Expr} {gs : List Comprehension} {scope : Scope} {m : EM} {pos pos' cpos : Pos} (nd : N.Nodup) (h : PR P wd K mg base k N sc W (.ListComp elt gs scope cpos) m) (hi : N[i]? = some x := by rfl) (hx : sc.s.names.lookup x = some .cell := by rfl) (hf : sc.fn x = true := by rfl)
    (hw : ∀ env, swappedStores [.Name x pos'] (.ListComp elt gs scope cpos) env = pure none := by intro _; rfl) :
    PSt P wd K mg base k N sc W (.Assign [.Name x pos'] (.ListComp elt gs scope cpos) pos) (sAsg i m) := by
  obtain ⟨t, p, r⟩ := h
  refine ⟨tAsg t (gName i), fun X g => ps_asg (p X g) (pg_name (by rw [g.nn]; exact nd) (by rw [g.nn]; exact hi) (by rw [g.scp]; exact .inr hx) ?_) (sw_cell (by rw [g.scp]; exact hx)) (hw X.env), ?_⟩
  · rw [g.fnc]; exact .inl hf
  intro w0 w Γ σ e0 ok f Dn q
  exact r.useS e0 ok f q fun d v w1 e1 k1 f1 r1 x1 p1 => p1 w1 _ e1 (Ext.refl w1) k1 rfl (fr_set f1 r1 i)
end
section
variable {Γ : DEnv} {st : Store} {ma mb mc mi me mo ml mh : EM} {a b : SM} {i j : Nat} {d : D}
@[simp] theorem oMulX_i {x y : Int} (h : (-18446744073709551616 < x ∧ x < 18446744073709551616) ∨ (-18446744073709551616 < y ∧ y < 18446744073709551616)) : oMulX (.int x) (.int y) st = .ok (.int (x * y)) st := if_pos h
@[simp] theorem oMulX_s {x : Str} {n : Int} (h : n < 16777216 ∧ -16777216 < n ∧ x.length * n.toNat ≤ 16777216) : oMulX (.str x) (.int n) st = .ok (.str (repS x n)) st := if_pos h
@[simp] theorem oMulX_l {x : List D} {n : Int} (h : n < 16777216 ∧ -16777216 < n ∧ x.length * n.toNat ≤ 16777216) : oMulX (.lst x) (.int n) st = .ok (.lst (List.replicate n.toNat x).flatten) st := if_pos h
@[simp] theorem oIxX_l {xs : List D} {k : Int} : oIxX (.lst xs) (.int k) st = (match L2.atI xs k with | some d => .ok d st | none => .no) := rfl
@[simp] theorem oIxX_t {xs : List D} {k : Int} : oIxX (.tup xs) (.int k) st = (match L2.atI xs k with | some d => .ok d st | none => .no) := rfl
@[simp] theorem oIxX_s {x : Str} {k : Int} (h : x.length ≤ 16777216) : oIxX (.str x) (.int k) st = (match L2.atI x.cps.toList k with | some c => .ok (.str (sgn c)) st | none => .no) := if_pos h
@[simp] theorem oIxX_d {xs : List (Key × D)} : oIxX (.dct xs) d st = (match keyD d with | some ky => (match valD xs ky with | some d => .ok d st | none => .no) | none => .no) := rfl
@[simp] theorem eIterX_ap : eIterX ma Γ st = (ma Γ st).bind fun d s => match d with
  | .lst xs => .ok (.tup xs) s
  | .tup xs => .ok (.tup xs) s
  | .dct kvs => .ok (.tup (kvs.map fun p => kD p.1)) s
  | .str x => .ok (.tup (sgns x)) s
  | _ => .no := rfl
@[simp] theorem eNeg_ap : eNeg ma Γ st = (ma Γ st).bind fun d s => match d with | .int i => .ok (.int (-i)) s | _ => .no := rfl
@[simp] theorem eDnew_ap : eDnew Γ st = .ok (.dct []) st := rfl
@[simp] theorem bIsi_ap {U : String} : bIsi [d, .ty U] st = (match tyN d with
    | some T => match kitB T U with
      | some b => .ok (.bl b) st
      | none => .no
    | none => .no) := rfl
@[simp] theorem bTuple_l {xs : List D} : bTuple [.lst xs] st = .ok (.tup xs) st := rfl
@[simp] theorem bAll_l {xs : List D} : bAll [.lst xs] st = (match blsD xs with | some bs => .ok (.bl (bs.all id)) st | none => .no) := rfl
@[simp] theorem bAny_l {xs : List D} : bAny [.lst xs] st = (match blsD xs with | some bs => .ok (.bl (bs.any id)) st | none => .no) := rfl
@[simp] theorem bDict_l {xs : List D} : bDict [.lst xs] st = (match pairsD xs with | some ps => .ok (.dct (mergeD [] ps)) st | none => .no) := rfl
@[simp] theorem bRepr_ap : bRepr [d] st = (match d.sh with | some e => if ShOk e then .ok (.str e.shown) st else .no | none => .no) := rfl
@[simp] theorem oIn_ap {x y : D} : oIn x y st = (match inD x y with | some b => .ok (.bl b) st | none => .no) := rfl
@[simp] theorem oNotIn_ap {x y : D} : oNotIn x y st = (match inD x y with | some b => .ok (.bl !b) st | none => .no) := rfl
end
end DL
namespace DL
open PySem L2
/-! ### plain: data that can be shown -/
structure Gd (n L : Nat) (d : D) : Prop where
  ex : ∃ e, d.sh = some e ∧ e.showable = true ∧ e.depth ≤ n ∧ e.shown.length ≤ L
  len : ∀ x, d = .str x → x.length ≤ L
theorem Gd.mono {n L n' L' : Nat} {d : D} (h : Gd n L d) (h1 : n ≤ n') (h2 : L ≤ L') : Gd n' L' d := let ⟨e, a, b, c, q⟩ := h.ex; ⟨⟨e, a, b, Nat.le_trans c h1, Nat.le_trans q h2⟩, fun x e => Nat.le_trans (h.len x e) h2⟩
theorem gd_non : Gd 0 4 .non := ⟨⟨_, rfl, rfl, Nat.le_refl _, by decide +kernel⟩, fun _ e => nomatch e⟩
theorem gd_bl {b : Bool} : Gd 0 5 (.bl b) := ⟨⟨_, rfl, rfl, Nat.le_refl _, by cases b <;> decide +kernel⟩, fun _ e => nomatch e⟩
theorem gd_int {i : Int} (h : i.natAbs.log2 < 1920) : Gd 0 2000 (.int i) := ⟨⟨_, rfl, decide_eq_true h, Nat.le_refl _, Nat.le_trans (PyProof.Rows.int_text_len_1921 h) (by decide)⟩, fun _ e => nomatch e⟩
def Cs (x : Str) : Prop := ∀ c ∈ x.cps.toList, c < 4294967296
instance (x : Str) : Decidable (Cs x) := inferInstanceAs (Decidable (∀ c ∈ x.cps.toList, c < 4294967296))
theorem gd_str {x : Str} {L : Nat} (h : Cs x) (hl : 10 * x.length + 2 ≤ L) : Gd 0 L (.str x) := ⟨⟨_, rfl, rfl, Nat.le_refl _, Nat.le_trans (StrLaws.reprText_len x h) hl⟩, fun y e => by cases e; omega⟩
theorem sum_le {ts : List Str} {L : Nat} (h : ∀ t ∈ ts, t.length ≤ L) : (ts.map (·.length)).sum ≤ ts.length * L := by
  induction ts with
  | nil => simp
  | cons t r ih =>
    have h1 := ih fun x hx => h x (List.mem_cons_of_mem _ hx)
    have h2 := h t List.mem_cons_self
    rw [List.map_cons, List.sum_cons, List.length_cons, Nat.succ_mul]; omega
theorem gd_all {n L : Nat} : ∀ {xs : List D}, (∀ x ∈ xs, Gd n L x) → ∃ es, D.shL xs = some es ∧ es.length = xs.length ∧ PyData.showableAll es = true ∧ PyData.depthAll es ≤ n ∧ (PyData.shownAll es).length = xs.length ∧ ∀ t ∈ PyData.shownAll es, t.length ≤ L
  | [], _ => ⟨[], rfl, rfl, rfl, Nat.zero_le _, rfl, by simp [PyData.shownAll]⟩
  | x :: xs, h => by
    obtain ⟨e, a, b, c, q⟩ := (h x List.mem_cons_self).ex
    obtain ⟨es, a', l', b', c', m', q'⟩ := gd_all fun y hy => h y (List.mem_cons_of_mem _ hy)
    refine ⟨e :: es, by simp [D.shL, a, a'], by simp [l'], by simp [PyData.showableAll, b, b'], by simp only [PyData.depthAll]; omega, by simp [PyData.shownAll, m'], ?_⟩
    intro t ht
    simp only [PyData.shownAll, List.mem_cons] at ht
    rcases ht with rfl | ht
    · exact q
    · exact q' t ht
theorem gd_lst {n L : Nat} {xs : List D} (h : ∀ x ∈ xs, Gd n L x) : Gd (n + 1) (xs.length * (L + 2) + 3) (.lst xs) := by
  obtain ⟨es, a, l, b, c, m, q⟩ := gd_all h
  refine ⟨⟨.list es, by simp [D.sh, a], by simpa [PyData.showable] using b, by simp only [PyData.depth]; omega, ?_⟩, fun _ e => nomatch e⟩
  have h1 := listText_len_le (PyData.shownAll es)
  have h2 := sum_le q
  rw [m] at h1 h2
  simp only [PyData.shown]
  rw [Nat.mul_add]; omega
theorem gd_tup {n L : Nat} {xs : List D} (h : ∀ x ∈ xs, Gd n L x) : Gd (n + 1) (xs.length * (L + 2) + 3) (.tup xs) := by
  obtain ⟨es, a, l, b, c, m, q⟩ := gd_all h
  refine ⟨⟨.tuple es, by simp [D.sh, a], by simpa [PyData.showable] using b, by simp only [PyData.depth]; omega, ?_⟩, fun _ e => nomatch e⟩
  have h1 := tupleText_len_le (PyData.shownAll es)
  have h2 := sum_le q
  rw [m] at h1 h2
  simp only [PyData.shown]
  rw [Nat.mul_add]; omega
theorem sh_key (k : Key) : (kD k).sh = some (kP k) := by cases k <;> rfl
theorem gd_kv {n L : Nat} : ∀ {xs : List (Key × D)}, (∀ p ∈ xs, Gd 0 L (kD p.1) ∧ Gd n L p.2) → ∃ es, D.shP xs = some es ∧ PyData.showableKv es = true ∧ PyData.depthKv es ≤ n ∧ (PyData.shownKv es).length = xs.length ∧ ∀ t ∈ PyData.shownKv es, t.length ≤ 2 * L + 2
  | [], _ => ⟨[], rfl, rfl, Nat.zero_le _, rfl, by simp [PyData.shownKv]⟩
  | (k, x) :: xs, h => by
    obtain ⟨hk, hx⟩ := (h (k, x) List.mem_cons_self)
    obtain ⟨k', ka, kb, kc, kq⟩ := hk.ex
    obtain ⟨e, a, b, c, q⟩ := hx.ex
    obtain ⟨es, a', b', c', m', q'⟩ := gd_kv fun y hy => h y (List.mem_cons_of_mem _ hy)
    rw [sh_key] at ka; cases ka
    have kc : (kP k).depth ≤ 0 := kc
    have kq : (kP k).shown.length ≤ L := kq
    have kb : (kP k).showable = true := kb
    have a0 : D.sh x = some e := a
    refine ⟨(kP k, e) :: es, by simp [D.shP, a0, a'], by simp [PyData.showableKv, kb, b, b'], by simp only [PyData.depthKv]; omega, by simp [PyData.shownKv, m'], ?_⟩
    intro t ht
    simp only [PyData.shownKv, List.mem_cons] at ht
    rcases ht with rfl | ht
    · rw [strLen_append, strLen_append]
      have : (": " : Str).length = 2 := rfl
      omega
    · exact q' t ht
theorem gd_dct {n L : Nat} {xs : List (Key × D)} (h : ∀ p ∈ xs, Gd 0 L (kD p.1) ∧ Gd n L p.2) : Gd (n + 1) (xs.length * (2 * L + 4) + 3) (.dct xs) := by
  obtain ⟨es, a, b, c, m, q⟩ := gd_kv h
  refine ⟨⟨.dict es, by simp [D.sh, a], by simpa [PyData.showable] using b, by simp only [PyData.depth]; omega, ?_⟩, fun _ e => nomatch e⟩
  have h1 := dictText_len_le (PyData.shownKv es)
  have h2 := sum_le q
  rw [m] at h1 h2
  simp only [PyData.shown]
  have e : xs.length * (2 * L + 4) = xs.length * (2 * L + 2) + 2 * xs.length := by rw [show 2 * L + 4 = (2 * L + 2) + 2 from rfl, Nat.mul_add]; omega
  omega
/-- repr of it -/
def shw (d : D) : Str := match d.sh with | some e => e.shown | none => ""
theorem Gd.repr {n L : Nat} {d : D} (h : Gd n L d) (hn : n ≤ 60) (hL : L ≤ 16777216) (st : Store) : bRepr [d] st = .ok (.str (shw d)) st := by
  obtain ⟨e, a, b, c, q⟩ := h.ex
  have : ShOk e := ⟨b, Nat.le_trans c hn, Nat.le_trans q hL⟩
  simp [bRepr, shw, a, this]

/-! ### plain: loops -/
theorem forL_ok {g : GM} {mb : SM} : ∀ {ds : List D} (I : Nat → DEnv → Store → Prop), (∀ (j : Nat) (d : D), ds[j]? = some d → ∀ Γ st, I j Γ st → ∃ Γ1, g d Γ = some Γ1 ∧ ∃ Γ2 st2, mb Γ1 st = .nx Γ2 st2 ∧ I (j + 1) Γ2 st2) →
    ∀ Γ st, I 0 Γ st → ∃ Γ' st', forL g mb ds Γ st = .nx Γ' st' ∧ I ds.length Γ' st'
  | [], I, _, Γ, st, i => ⟨Γ, st, rfl, i⟩
  | d :: ds, I, h, Γ, st, i => by
    obtain ⟨Γ1, h1, Γ2, st2, h2, i2⟩ := h 0 d rfl Γ st i
    obtain ⟨Γ', st', h3, i3⟩ := forL_ok (ds := ds) (fun j => I (j + 1)) (fun j d hd => h (j + 1) d hd) Γ2 st2 i2
    refine ⟨Γ', st', ?_, i3⟩
    unfold forL
    rw [h1]
    show (match mb Γ1 st with | .nx Γ2 st2 => forL g mb ds Γ2 st2 | .ct Γ2 st2 => forL g mb ds Γ2 st2 | .bk Γ2 st2 => .nx Γ2 st2 | r => r) = _
    rw [h2]; exact h3
/-- every turn gives an item -/
theorem lcL_ok {g : GM} {me : EM} {Γ : DEnv} {E : D → Prop} : ∀ {ds : List D} (I : Nat → Store → Prop), (∀ (j : Nat) (d : D), ds[j]? = some d → ∀ st, I j st → ∃ Γ1, g d Γ = some Γ1 ∧ ∃ x st2, me Γ1 st = .ok x st2 ∧ E x ∧ I (j + 1) st2) →
    ∀ st acc, I 0 st → acc.length + ds.length ≤ 16777216 → ∃ xs st', lcL g eYes me ds Γ st acc = .ok (.lst (acc ++ xs)) st' ∧ I ds.length st' ∧ (∀ x ∈ xs, E x) ∧ xs.length = ds.length
  | [], I, _, st, acc, i, _ => ⟨[], st, by simp [lcL], i, by simp, rfl⟩
  | d :: ds, I, h, st, acc, i, hl => by
    obtain ⟨Γ1, h1, x, st2, h2, e, i2⟩ := h 0 d rfl st i
    obtain ⟨xs, st', h3, i3, e3, l3⟩ := lcL_ok (ds := ds) (fun j => I (j + 1)) (fun j d hd => h (j + 1) d hd) st2 (acc ++ [x]) i2 (by simp at hl ⊢; omega)
    have hlt : acc.length < 16777216 := by simp at hl; omega
    refine ⟨x :: xs, st', ?_, i3, ?_, by simp [l3]⟩
    · unfold lcL
      rw [h1]
      show (match me Γ1 st with | .ok x s2 => (if acc.length < 16777216 then lcL g eYes me ds Γ s2 (acc ++ [x]) else .no) | _ => .no) = _
      rw [h2]
      show (if acc.length < 16777216 then lcL g eYes me ds Γ st2 (acc ++ [x]) else .no) = _
      rw [if_pos hlt, h3]; simp
    · intro y hy
      rcases List.mem_cons.mp hy with rfl | hy
      · exact e
      · exact e3 y hy
/-- a map -/
theorem lcL_map {g : GM} {me : EM} {Γ : DEnv} {f : D → D} {st : Store} : ∀ {ds : List D}, (∀ d ∈ ds, ∃ Γ1, g d Γ = some Γ1 ∧ me Γ1 st = .ok (f d) st) →
    ∀ acc, acc.length + ds.length ≤ 16777216 → lcL g eYes me ds Γ st acc = .ok (.lst (acc ++ ds.map f)) st
  | [], _, acc, _ => by simp [lcL]
  | d :: ds, h, acc, hl => by
    obtain ⟨Γ1, h1, h2⟩ := h d List.mem_cons_self
    have hlt : acc.length < 16777216 := by simp at hl; omega
    unfold lcL
    rw [h1]
    show (match me Γ1 st with | .ok x s2 => (if acc.length < 16777216 then lcL g eYes me ds Γ s2 (acc ++ [x]) else .no) | _ => .no) = _
    rw [h2]
    show (if acc.length < 16777216 then lcL g eYes me ds Γ st (acc ++ [f d]) else .no) = _
    rw [if_pos hlt, lcL_map (ds := ds) (fun y hy => h y (List.mem_cons_of_mem _ hy)) (acc ++ [f d]) (by simp at hl ⊢; omega)]
    simp
theorem rng_length (lo c : Int) (n : Nat) : (rng lo c n).length = n := rng_len lo c n
theorem eRng1_n {ma : EM} {Γ : DEnv} {st s : Store} {n : Nat} (h : ma Γ st = .ok (.tup [.int n]) s) (hn : n < 4294967296) : eRng1 ma Γ st = .ok (.tup (rng 0 1 n)) s := by
  unfold eRng1
  rw [h, ok_bind]
  dsimp only
  rw [if_pos (by omega), Int.toNat_natCast]
theorem eRng1_i {ma : EM} {Γ : DEnv} {st s : Store} {n : Int} (h : ma Γ st = .ok (.tup [.int n]) s) (hn : -4294967296 < n ∧ n < 4294967296) : eRng1 ma Γ st = .ok (.tup (rng 0 1 n.toNat)) s := by
  unfold eRng1
  rw [h, ok_bind]
  dsimp only
  rw [if_pos (by omega)]
theorem eLc_of {vs : List Nat} {mi mt me : EM} {g : GM} {Γ : DEnv} {st s : Store} {ds : List D} (h : mi Γ st = .ok (.tup ds) s) : eLc vs mi g mt me Γ st = lcL g mt me ds (wipeE Γ vs) s [] := by
  unfold eLc
  rw [h]; rfl
theorem sFor_of {mi : EM} {g : GM} {b : SM} {Γ : DEnv} {st s : Store} {ds : List D} (h : mi Γ st = .ok (.tup ds) s) : sFor mi g b Γ st = forL g b ds Γ s := by
  unfold sFor
  rw [h]; rfl
theorem rng_at {lo c : Int} {n j : Nat} {d : D} (h : (rng lo c n)[j]? = some d) : j < n ∧ d = .int (lo + (j : Int) * c) := by
  have hl := getElem?_lt h
  rw [rng_len] at hl
  rw [rng_get hl] at h; cases h; exact ⟨hl, rfl⟩

/-! ### plain: texts -/
theorem bls_map (f : D → Bool) : ∀ l : List D, blsD (l.map fun d => D.bl (f d)) = some (l.map f)
  | [] => rfl
  | d :: l => by simp [blsD, bls_map f l]
theorem strs_of : ∀ {xs : List D}, (∀ x ∈ xs, ∃ y, x = .str y) → ∃ ys, strsOf xs = some ys ∧ xs = ys.map .str
  | [], _ => ⟨[], rfl, rfl⟩
  | x :: xs, h => by
    obtain ⟨y, rfl⟩ := h x List.mem_cons_self
    obtain ⟨ys, h1, h2⟩ := strs_of fun z hz => h z (List.mem_cons_of_mem _ hz)
    exact ⟨y :: ys, by simp [strsOf, h1], by simp [h2]⟩
theorem joinL_nil : ∀ ps : List (List Nat), TL.joinL [] ps = ps.flatten
  | [] => rfl
  | [p] => by simp [TL.joinL]
  | p :: q :: r => by
    show p ++ ([] ++ TL.joinL [] (q :: r)) = _
    rw [joinL_nil (q :: r)]; simp
theorem join0 (ys : List Str) : (Txt.join ("" : Str) ys).cps.toList = (ys.map fun y => y.cps.toList).flatten := by
  rw [TL.join_eq]
  have := TL.tl_join ("" : Str) ys
  show TL.tl _ = _
  rw [this]
  exact joinL_nil _
theorem len_toList (x : Str) : x.length = x.cps.toList.length := TL.len_tl x
theorem Cs.append {x y : Str} (h : Cs x) (h' : Cs y) : Cs (x ++ y) := fun c hc => by
  have e : (x ++ y).cps.toList = x.cps.toList ++ y.cps.toList := TL.tl_append x y
  rw [e, List.mem_append] at hc
  exact hc.elim (h c) (h' c)
theorem Cs.cut {x : Str} (h : Cs x) (lo hi : Option Int) : Cs (cutS x lo hi) := fun c hc => by
  unfold cutS at hc
  simp only at hc
  exact h c (List.mem_of_mem_drop (List.mem_of_mem_take hc))
theorem cut_len (x : Str) (lo hi : Option Int) : (cutS x lo hi).length ≤ x.length := by
  rw [len_toList, len_toList]
  unfold cutS
  simp only [List.length_take, List.length_drop]
  omega
theorem Cs.rep {x : Str} (h : Cs x) (n : Int) : Cs (repS x n) := fun c hc => by
  rw [repS_toList] at hc
  obtain ⟨l, hl, hc⟩ := List.mem_flatten.mp hc
  have := List.eq_of_mem_replicate hl
  subst this
  exact h c hc
theorem rep_len (x : Str) (n : Int) : (repS x n).length = n.toNat * x.length := by
  rw [len_toList, repS_toList, len_toList, List.length_flatten]; simp
theorem Cs.sgn {c : Nat} (h : c < 4294967296) : Cs (sgn c) := fun d hd => by
  have : d = c := by simpa [DL.sgn] using hd
  omega
end DL
namespace DL
open PySem PySem.Spec PyProof.Rows L2
/-! ### the end of a law's row -/
theorem law_callG {P : Program} {w : World} {K : PySem.W.Frag} {mg mb mm : Str → Option Value} {k : Nat} {fa a : Addr} {fd : FuncData} {x : Str} {sp : Sp} {s₁ : Shared} {vs : List Value} {ns : List Int}
    (KX : K.In s₁.heap) (hns : s₁.heap.Ns mainGlobals mg) (hsm : s₁.heap.Ns sysModules mm) (hb : s₁.heap.Ns builtinsNs mb) (hbb : ∀ x : Str, x ≠ "__name__" → mb x = bootBuiltins x) (hlim : s₁.heap.NoLimit) (hg : s₁.gens = #[])
    (ha : s₁.heap.get? a = some { cls := .type "list", data := .seq vs.toArray }) (hi : IntsAre vs ns) (hl : ns.length ≤ sizeLine) (hr : Room k callerA)
    (F : ∀ base : Heap, K.In base → base.Ns mainGlobals mg → FnG P w K mg base k fa fd [x] sp) (hbind : ∀ (s : Shared) (u : Value), BindsTo s fd ⟨[u], []⟩ [(x, u)])
    (hsp : ∀ H : Hp, Only H → SqL K H a (ns.map V.int) → sp [.ref a] H (fun v _ => v = .bl true) fun _ _ _ => False) :
    codeAny (model P w) callerA (.call (.ref fa) ⟨[.ref a], []⟩) (fun r s' => r = .ok (.ret (.bool true)) ∧ OldK s₁.heap s'.heap ∧ s'.os = s₁.os ∧ AllBare s'.gens) s₁ := by
  have rv := vals_ints hi
  have lenV := hi.length
  have core : ∀ H : Hp, Only H → SqL K H a (ns.map V.int) → HOk P w H s₁.heap → (∀ b, H b ≠ none → b = a) → (H a ≠ none → K.lookup a = none) →
      codeAny (model P w) callerA (.call (.ref fa) ⟨[.ref a], []⟩) (fun r s' => r = .ok (.ret (.bool true)) ∧ OldK s₁.heap s'.heap ∧ s'.os = s₁.os ∧ AllBare s'.gens) s₁ := by
    intro H hO hS hok hA hK
    have base_of : ∀ {b : Addr} {o : Obj}, s₁.heap.get? b = some o → H b = none → (hidT s₁.heap H).get? b = some o := fun e n => hidT_get e n
    have noA : ∀ {b : Addr} {o : Obj} {es : Array DictEntry} {ep : Nat}, s₁.heap.get? b = some o → o.data = .dict es ep → H b = none := fun {b o es ep} e d => by
      cases q : H b with
      | none => rfl
      | some u =>
        have e' : b = a := hA b (by rw [q]; simp)
        subst e'
        rw [ha] at e; cases e
        have d' : Data.seq vs.toArray _ = Data.dict es ep := d
        cases d'
    have nsK : ∀ {b : Addr} {m : Str → Option Value}, s₁.heap.Ns b m → (hidT s₁.heap H).Ns b m := fun {b m} ⟨o, es, ep, e, d, r⟩ => ⟨o, es, ep, base_of e (noA e d), d, r⟩
    have hKb : K.In (hidT s₁.heap H) := fun b o e => base_of (KX b o e) (by
      cases q : H b with
      | none => rfl
      | some u =>
        have e' : b = a := hA b (by rw [q]; simp)
        subst e'
        rw [hK (by rw [q]; simp)] at e; cases e)
    have hM : Mod K mg (hidT s₁.heap H) := ⟨hKb, nsK hns, ⟨mb, nsK hb, hbb⟩, let ⟨mc, h1, h2⟩ := hlim; ⟨mc, nsK h1, h2⟩⟩
    have e0 : Env0 P w K mg (hidT s₁.heap H) callerA [] s₁ H := ⟨rfl, hM, fun b o e => of_hidT e, Nat.le_of_eq (hidT_size _ _), trivial, fun b hb => absurd (show b ∈ ([] : List Addr) from hb) (by simp), hok, .of_eq hg⟩
    have tp : Tp callerA (hidT s₁.heap H) := ⟨rfl, let ⟨o, _, _, e, _⟩ := nsK hsm; ⟨o, e⟩⟩
    refine codeAny_mono ((F _ hKb (nsK hns)).go (args := ⟨[.ref a], []⟩) (us := [.ref a]) (vs := [.ref a]) ⟨hr, tp⟩ e0 (hbind s₁ (.ref a)) (.cons rfl .nil) (hsp H hO hS)) fun r s' h => ?_
    cases r with
    | error e => obtain ⟨_, _, _, _, _, _, _, _, _, _, _, _, _, _, _, _, z⟩ := h
    | ok fl =>
      cases fl with
      | next => exact False.elim h
      | brk => exact False.elim h
      | cont => exact False.elim h
      | ret u =>
        obtain ⟨v, H', os, bare, un, hok', r', q⟩ := h
        have q' : v = .bl true := q
        subst q'
        obtain rfl : u = Value.bool true := r'
        refine ⟨rfl, OldK.of_keep fun b o e => ?_, os, bare⟩
        cases q : H b with
        | none => exact un.keep b o e q (by intro z; exact absurd (show b ∈ ([] : List Addr) from z) (by simp)) (by simp)
        | some u =>
          rcases hO b with z | ⟨ob, xs, z⟩
          · rw [q] at z; cases z
          · have z2 := un.frzs b ob _ z
            obtain ⟨e1, _⟩ := hok b _ z
            obtain ⟨e2, _⟩ := hok' b _ z2
            rw [e] at e1; cases e1
            exact e2
  cases hk : K.lookup a with
  | some o =>
    have e := KX a o hk
    rw [ha] at e
    cases e
    refine core (fun _ => none) (fun _ => .inl rfl) (.inr ⟨_, vs.toArray, _, hk, rfl, rfl, rfl, by rw [List.size_toArray, lenV]; exact hl, by simpa using rv⟩) (fun b u z => by have z' : (none : Option HO) = some u := z; cases z') (fun b z => absurd rfl z) fun z => absurd rfl z
  | none =>
    refine core (fun b => if b = a then some (.frz { cls := .type "list", data := .seq vs.toArray } (.lst (ns.map V.int))) else none) (fun b => ?_) (.inl (.inr ⟨{ cls := .type "list", data := .seq vs.toArray }, if_pos rfl⟩)) (fun b u z => ?_) (fun b z => ?_) fun _ => hk
    · by_cases hb : b = a
      · exact .inr ⟨_, _, if_pos hb⟩
      · exact .inl (if_neg hb)
    · by_cases hb : b = a
      · have z' := (if_pos hb).symm.trans z
        cases z'
        subst hb
        exact ⟨ha, by rw [List.length_map]; exact hl, vs, _, rv, ha⟩
      · have z' := (if_neg hb).symm.trans z
        cases z'
    · by_cases hb : b = a
      · exact hb
      · exact absurd (if_neg hb) z
/-- what is asked of a law -/
def spLaw (K : PySem.W.Frag) : Sp := fun vs H Q _ => ∃ (a : Addr) (ns : List Int), vs = [.ref a] ∧ Only H ∧ SqL K H a (ns.map V.int) ∧ ns.length ≤ 63 ∧ ∀ H', Q (.bl true) H'
theorem walk {l : PySem.W.OpenLaw} {k : Nat} {q : Program} {loose : List Str} {XP : (Str → Option Value) → Heap → Prop} {YP : World → Heap → Prop} {d : DefRec} {K : Params → PySem.W.Frag} {x : Str}
    (hn : l.most = some 63) (hdf : d.params.defaults = []) (hq : importsNone q = true) (hr : Room k callerA)
    (hY : ∀ (w : World) (h : Heap), YP w h → (K w.params).In h)
    (F : ∀ (w : World) (mg : Str → Option Value) (fa : Addr) (h : Heap), (K w.params).In h → h.Ns mainGlobals mg → mg d.name = some (.ref fa) →
      ∃ fd : FuncData, (∀ (s : Shared) (u : Value), BindsTo s fd ⟨[u], []⟩ [(x, u)]) ∧
        ∀ base : Heap, (K w.params).In base → base.Ns mainGlobals mg → FnG l.prog w (K w.params) mg base k fa fd [x] (spLaw (K w.params))) :
    PySem.W.WalkO q loose XP YP l.row.toRowW d [] (fun f vs => PySem.call f vs) := by
  refine Att.attach_call hn hdf fun w s₀ s₁ mg mb fa o pm cd doc a vs ns G Y ho hd hcd hmg hobj hints hlen hg => ?_
  have KX := hY w _ Y
  obtain ⟨fd, hb, hF⟩ := F w mg fa _ KX G.T.g hmg
  obtain ⟨mm, hsm, _⟩ := (G.T.seer hq).mods
  exact law_callG KX G.T.g hsm G.T.b G.T.builtins G.T.nolimit hg hobj hints (Nat.le_trans hlen (by decide)) hr hF hb fun H hO hS => ⟨a, ns, rfl, hO, hS, hlen, fun _ => rfl⟩
/-- from the plain law -/
theorem law_end {P : Program} {wd : World} {K : PySem.W.Frag} {mg : Str → Option Value} {base : Heap} {k : Nat} {fd : FuncData} {f : Addr} {F : DF} {p : Str} (h : FnG P wd K mg base k f fd [p] (spD K F)) (pl : ∀ ns : List Int, ns.length ≤ 63 → ∃ st', F [.scr ns] [] = .ok (.bl true) st') :
    FnG P wd K mg base k f fd [p] (spLaw K) := h.imp fun vs H Q E q => by
  obtain ⟨a, ns, rfl, hO, hS, hl, q⟩ := q
  obtain ⟨st', e⟩ := pl ns hl
  refine ⟨⟨H, fun _ => 0, [], H⟩, [.scr ns], rfl, ⟨fun _ _ h => h, fun l d h => by simp at h, fun l m h => by simp at h⟩, .cons (.scr hS) .nil, ?_⟩
  rw [e]
  intro v w' _ _ _ r
  cases r
  exact q _
end DL
/-! sets of plain keys of one kind that can be walked: set(list), sorted(set) -/
namespace DL
open PySem L2 PySem.Spec PyProof.Rows
section
variable {P : Program} {w : World} {K : Type} [DecidableEq K] {knd : KeyKind P w K}
/-- two entries stand for different keys -/
def Apt (knd : KeyKind P w K) (e f : Int × Value) : Prop := ∀ k, ¬ (knd.is k e.2 = true ∧ knd.is k f.2 = true)
theorem apt_symm {e f : Int × Value} (h : Apt knd e f) : Apt knd f e := fun k z => h k ⟨z.2, z.1⟩
/-- a set that can be walked -/
structure StG (knd : KeyKind P w K) (es : Array (Int × Value)) (t : SetTable) (S : K → Bool) : Prop where
  el : ElemsOf knd es.toList
  ap : es.toList.Pairwise (Apt knd)
  me : ∀ k, S k = true ↔ ∃ e ∈ es.toList, knd.is k e.2 = true
  lt : es.size < scanBound
  ft : t.fits es.size = true
  ri : Ris t.place.toList
  le : w.params.followText "set-order" = true ∨ t.led = true
def SetG (knd : KeyKind P w K) (h : Heap) (a : Addr) (S : K → Bool) (n : Nat) : Prop :=
  ∃ o es ep t, h.get? a = some o ∧ o.ExactSet ∧ o.data = .set es ep t ∧ es.size = n ∧ StG knd es t S
theorem SetG.at {h h' : Heap} {a : Addr} {S : K → Bool} {n : Nat} (R : SetG knd h a S n) (k : ∀ o, h.get? a = some o → h'.get? a = some o) : SetG knd h' a S n :=
  let ⟨o, es, ep, t, ho, r⟩ := R; ⟨o, es, ep, t, k o ho, r⟩
theorem SetG.cg {h : Heap} {a : Addr} {S S' : K → Bool} {n m : Nat} (R : SetG knd h a S n) (e : ∀ k, S k = S' k) (q : n = m) : SetG knd h a S' m := by
  have : S = S' := funext e
  subst this; subst q; exact R
variable {A : Around} {E : Value → Shared → Prop} {s : Shared} {a : Addr} {S : K → Bool} {n : Nat}
/-- laid again under the same entries, in another order perhaps -/
theorem stG_perm {es es' : Array (Int × Value)} {t t' : SetTable} (g : StG knd es t S) (p : es'.toList.Perm es.toList) (hf : t'.fits es'.size = true) (hr : Ris t'.place.toList) (hl : t'.led = t.led) : StG knd es' t' S where
  el := g.el.perm p
  ap := (p.pairwise_iff fun h => apt_symm h).mpr g.ap
  me := fun k => (g.me k).trans ⟨fun ⟨e, he, q⟩ => ⟨e, p.mem_iff.mpr he, q⟩, fun ⟨e, he, q⟩ => ⟨e, p.mem_iff.mp he, q⟩⟩
  lt := by rw [← Array.length_toList, p.length_eq, Array.length_toList]; exact g.lt
  ft := hf
  ri := hr
  le := g.le.imp id fun z => by rw [hl]; exact z
theorem addG_tail {g : Bool → Sem Unit} (hg : ∀ (b : Bool) (s₁ : Shared) (Q' : Unit → Shared → Prop), Q' () s₁ → wpAny (model P w) A (g b) Q' E s₁)
    {o : Obj} {es : Array (Int × Value)} {ep : Nat} {t : SetTable} (ho : s.heap.get? a = some o) (hex : o.ExactSet) (hd : o.data = .set es ep t)
    {es1 : Array (Int × Value)} {t2 : SetTable} (g1 : StG knd es1 t2 S) {was : Bool} {R : Option Bool → Shared → Prop}
    (hR : ∀ h', Heap.SameBut a s.heap h' → SetG knd h' a S es1.size → R (some true) { s with heap := h' }) :
    wpAny (model P w) A (do
        storeSet a es1 t2
        if (!was && t2.tooFull) = true then do
            g (relayAll t2 es1 (SetTable.grown es1.size)).2.2
            storeSet a (relayAll t2 es1 (SetTable.grown es1.size)).1 (relayAll t2 es1 (SetTable.grown es1.size)).2.1
            pure (some true)
          else pure (some true)) R E s := by
  refine wpAny_bind (wpAny_storeSet_of ho hd ?_ (fits_of_scanBound g1.lt))
  have b1 := store_at (es' := es1) (t' := t2) ho hd
  have c1 := Heap.SameBut.update s.heap a (Obj.putSet es1 t2)
  by_cases hc : (!was && t2.tooFull) = true
  · rw [if_pos hc]
    have p := relayAll_perm t2 es1 (SetTable.grown es1.size)
    have g2 := stG_perm g1 p (relayAll_fits t2 es1 _) (relayAll_ris t2 es1 _) (relayAll_led t2 es1 _)
    have z : (relayAll t2 es1 (SetTable.grown es1.size)).1.size = es1.size := by rw [← Array.length_toList, p.length_eq, Array.length_toList]
    generalize relayAll t2 es1 (SetTable.grown es1.size) = Z at p g2 z ⊢
    refine wpAny_bind (hg _ _ _ ?_)
    refine wpAny_bind (wpAny_storeSet_of b1 rfl ?_ (fits_of_scanBound g2.lt))
    exact wpAny_pure (hR _ (c1.trans (Heap.SameBut.update _ a _)) ⟨_, _, _, _, store_at (es' := Z.1) (t' := Z.2.1) b1 rfl, hex, rfl, z, g2⟩)
  · rw [if_neg hc]
    exact wpAny_pure (hR _ c1 ⟨_, _, _, _, b1, hex, rfl, rfl, g1⟩)
theorem addG {k : K} {x : Value} {Q : Bool → Shared → Prop} (hk : knd.is k x = true) (hs : x.scannable = true) (R : SetG knd s.heap a S n) (room : n + 1 < scanBound)
    (hQ : ∀ h', Heap.SameBut a s.heap h' → SetG knd h' a (fun j => S j || decide (j = k)) (if S k = true then n else n + 1) → Q (!S k) { s with heap := h' }) :
    wpAny (model P w) A (setAddHashed a x (knd.hash k)) Q E s := by
  obtain ⟨o, es, ep, t, ho, hex, hd, hn, g⟩ := R
  unfold setAddHashed setAddHashedIn
  refine wpAny_holding (wpAny_bind (wpAny_setState_of ho hd g.ft ?_))
  dsimp only
  rw [byScan_of hs g.lt g.el]
  simp only [↓reduceIte]
  unfold setAddByScan
  refine wpAny_bind (wpAny_bind (wpAny_rule (wpAny_bind (wpAny_setScan_of hk ho hd g.ft g.el ?_))))
  cases fi : List.findIdx? (fun e => knd.is k e.2) es.toList with
  | some j =>
    obtain ⟨hj, pj, _⟩ := List.findIdx?_eq_some_iff_getElem.mp fi
    have y : S k = true := (g.me k).mpr ⟨_, List.getElem_mem hj, pj⟩
    have q := hQ s.heap (Heap.SameBut.refl a s.heap) (SetG.cg ⟨o, es, ep, t, ho, hex, hd, hn, g⟩ (fun i => by by_cases e : i = k <;> simp [e, y]) (by rw [if_pos y]))
    rw [y] at q
    exact wpAny_pure (wpAny_pure q)
  | none =>
    have nf := List.findIdx?_eq_none_iff.mp fi
    have y : S k = false := by
      cases q : S k with
      | false => rfl
      | true => obtain ⟨e, he, z⟩ := (g.me k).mp q; rw [nf e he] at z; cases z
    have p := layNew_perm t es (knd.hash k) x
    have hf := layNew_fits t es (knd.hash k) x
    have hr := layNew_ris t es (knd.hash k) x g.ri
    have hl := layNew_led t es (knd.hash k) x
    generalize layNew t es (knd.hash k) x = Z at p hf hr hl ⊢
    obtain ⟨es1, t1, was, gave⟩ := Z
    dsimp only at p hf hr hl ⊢
    rw [Array.toList_push] at p
    have z : es1.size = n + 1 := by rw [← Array.length_toList, p.length_eq, List.length_append, Array.length_toList, hn]; rfl
    have g1 : ∀ t2 : SetTable, t2.fits es1.size = true → Ris t2.place.toList → t2.led = t.led → StG knd es1 t2 (fun j => S j || decide (j = k)) := fun t2 a1 a2 a3 => {
      el := (g.el.push hk hs).perm p
      ap := (p.pairwise_iff fun h => apt_symm h).mpr (List.pairwise_append.mpr ⟨g.ap, List.pairwise_singleton _ _, fun e he f hf' i q => by
        rw [List.mem_singleton] at hf'; subst hf'
        have := knd.inj x i k q.2 hk
        subst this
        rw [nf e he] at q; cases q.1⟩)
      me := mem_push_iff hk g.me p
      lt := by rw [z]; exact room
      ft := a1
      ri := a2
      le := g.le.imp id fun c => by rw [a3]; exact c }
    have gw : ∀ (b : Bool) {s₁ : Shared} {Q' : Unit → Shared → Prop}, Q' () s₁ → wpAny (model P w) A (match b with | true => rule "set.scan.the-table-gave-way" | false => pure ()) Q' E s₁ :=
      fun b s₁ Q' q => by cases b <;> first | exact wpAny_pure q | exact wpAny_rule q
    have fin : ∀ h', Heap.SameBut a s.heap h' → SetG knd h' a (fun j => S j || decide (j = k)) es1.size → Q true { s with heap := h' } := fun h' c r => by
      have q := hQ h' c
      rw [y] at q
      rw [z] at r
      exact q r
    refine wpAny_bind (gw _ ?_)
    split
    · refine wpAny_bind ?_
      rw [hashByValue_scannable 8 hs]
      refine wpAny_pure ?_
      refine addG_tail (fun b s₁ Q' q => by cases b <;> first | exact wpAny_pure q | exact wpAny_rule q) ho hex hd (g1 _ ?_ ?_ ?_) fun h' c r => wpAny_pure (fin h' c r)
      · first | (split <;> first | exact hf | exact SetTable.fits_plain_off hf) | exact hf
      · first | (split <;> exact hr) | exact hr
      · first | (split <;> exact hl) | exact hl
    · refine wpAny_bind (wpAny_pure ?_)
      simp only [↓reduceIte]
      exact addG_tail (fun b s₁ Q' q => by cases b <;> first | exact wpAny_pure q | exact wpAny_rule q) ho hex hd (g1 _ hf hr hl) fun h' c r => wpAny_pure (fin h' c r)
end
end DL
/-! set(list), set(tuple), sorted(set of texts) -/
namespace DL
open PySem L2 PySem.Spec PyProof.Rows
/-- each once, in the order of the first -/
def ddpS {K : Type} [DecidableEq K] (acc : List K) (k : K) : List K := if k ∈ acc then acc else acc ++ [k]
def ddp {K : Type} [DecidableEq K] (l : List K) : List K := l.foldl ddpS []
section
variable {K : Type} [DecidableEq K]
theorem ddp_snoc (l : List K) (k : K) : ddp (l ++ [k]) = ddpS (ddp l) k := by unfold ddp; rw [List.foldl_append]; rfl
theorem ddp_mem (l : List K) (k : K) : k ∈ ddp l ↔ k ∈ l := by
  suffices h : ∀ (l acc : List K), k ∈ l.foldl ddpS acc ↔ k ∈ acc ∨ k ∈ l by have := h l []; unfold ddp; simpa using this
  intro l
  induction l with
  | nil => intro acc; simp
  | cons x r ih =>
    intro acc
    rw [List.foldl_cons, ih, List.mem_cons]
    unfold ddpS
    by_cases e : x ∈ acc
    · rw [if_pos e]
      constructor
      · rintro (h | h)
        · exact .inl h
        · exact .inr (.inr h)
      · rintro (h | rfl | h)
        · exact .inl h
        · exact .inl e
        · exact .inr h
    · rw [if_neg e, List.mem_append, List.mem_singleton, or_assoc]
theorem ddp_nd (l : List K) : (ddp l).Nodup := by
  suffices h : ∀ (l acc : List K), acc.Nodup → (l.foldl ddpS acc).Nodup by exact h l [] List.nodup_nil
  intro l
  induction l with
  | nil => intro acc h; exact h
  | cons x r ih =>
    intro acc h
    rw [List.foldl_cons]
    refine ih _ ?_
    unfold ddpS
    by_cases e : x ∈ acc
    · rw [if_pos e]; exact h
    · rw [if_neg e, List.nodup_append]
      exact ⟨h, List.nodup_cons.mpr ⟨by simp, List.nodup_nil⟩, fun a ha b hb q => e (by rw [List.mem_singleton.mp hb] at q; rw [← q]; exact ha)⟩
theorem ddp_le (l : List K) : (ddp l).length ≤ l.length := by
  suffices h : ∀ (l acc : List K), (l.foldl ddpS acc).length ≤ acc.length + l.length by have := h l []; unfold ddp; simpa using this
  intro l
  induction l with
  | nil => intro acc; simp
  | cons x r ih =>
    intro acc
    rw [List.foldl_cons]
    refine Nat.le_trans (ih _) ?_
    unfold ddpS
    split <;> simp <;> omega
end
section
variable {prog : Program} {w : World} {K : Type} [DecidableEq K] {knd : KeyKind prog w K}
section
variable {A : Around} {R : Result → Shared → Prop} {I : Addr} {fp wr : List Addr} {G : Array GenState → Array GenState → Prop} {n : Nat} {Pv : Nat → Value → Prop} {St : Nat → Shared → Prop}
theorem loopG (W : WalksS prog w A.in1 I fp wr G n Pv St) (S : Addr) (hSf : S ∉ fp) (ks : List K) (hn : ks.length = n) (hval : ∀ i v, Pv i v → ∃ k, ks[i]? = some k ∧ knd.is k v = true ∧ v.scannable = true) (hb : n + 1 < scanBound) :
    ∀ (m i : Nat) (s : Shared), n - i = m → i ≤ n → St i s → SetG knd s.heap S (fun k => decide (k ∈ ks.take i)) (ddp (ks.take i)).length →
      (∀ s', Moved (S :: wr) G s s' → SetG knd s'.heap S (fun k => decide (k ∈ ks)) (ddp ks).length → R (.ok (.ret .none)) s') →
      codeAny (model prog w) A (.builtin "set.update.loop" ⟨[.ref S, .ref I], []⟩) R s := by
  have hSw : S ∉ wr := fun h => hSf (W.sub _ h)
  have up : ∀ b ∈ wr, b ∈ S :: wr := fun b hb => List.mem_cons_of_mem _ hb
  intro m
  induction m with
  | zero =>
    intro i s hm hi st hS hR
    have e : i = n := by omega
    subst e
    rw [← hn, List.take_length] at hS
    refine codeAny_builtin F.entry_set_update_loop ?_
    rw [Around.under_plainId F.plain_set_update_loop _]
    show wpAny _ A.in1 (pyNext (.ref I) >>= _) _ _ s
    refine wpAny_bind (W.done s _ _ st fun s' mv => ?_)
    exact wpAny_pure (hR s' (mv.mono up) (hS.at fun o ho => mv.heap S o hSw ho))
  | succ m ih =>
    intro i s hm hi st hS hR
    have lt : i < n := by omega
    refine codeAny_builtin F.entry_set_update_loop ?_
    rw [Around.under_plainId F.plain_set_update_loop _]
    show wpAny _ A.in1 (pyNext (.ref I) >>= _) _ _ s
    refine wpAny_bind (W.item i s _ _ lt st fun v s' hP st' mv => ?_)
    obtain ⟨k, hk, is, sc⟩ := hval i v hP
    have tk : ks.take (i + 1) = ks.take i ++ [k] := by rw [List.take_add_one, hk]; rfl
    have hS' : SetG knd s'.heap S (fun k => decide (k ∈ ks.take i)) (ddp (ks.take i)).length := hS.at fun o ho => mv.heap S o hSw ho
    show wpAny _ A.in1 (holding [v] (setAdd S v) >>= _) _ _ s'
    refine wpAny_bind (wpAny_holding ?_)
    unfold setAdd
    refine wpAny_holding (wpAny_bind (knd.pyHash is ?_))
    have room : (ddp (ks.take i)).length + 1 < scanBound := by have := ddp_le (ks.take i); rw [List.length_take] at this; omega
    refine addG (s := { s' with toks := s'.toks + 1 }) is sc hS' room fun h' sb hS2 => ?_
    have hS3 : SetG knd h' S (fun k => decide (k ∈ ks.take (i + 1))) (ddp (ks.take (i + 1))).length := hS2.cg (fun j => by rw [tk]; simp) (by
      rw [tk, ddp_snoc]
      unfold ddpS
      have := ddp_mem (ks.take i) k
      by_cases e : k ∈ ks.take i
      · rw [if_pos (decide_eq_true e), if_pos (this.mpr e)]
      · rw [if_neg (by simpa using e), if_neg (fun z => e (this.mp z))]; simp)
    refine wpAny_pure ⟨plainId_quiet F.plain_set_update_loop _, ih (i + 1) _ (by omega) lt (W.frame _ s' _ _ st' (Nat.le_succ _) fun b hb o e => ?_) hS3 fun s'' mv2 hS4 => ?_⟩
    · rw [sb.2 b (fun z : b = S => hSf (by rw [← z]; exact hb))]; exact e
    · refine hR s'' (Moved.trans W.gtrans ((mv.mono up).then_heap (Nat.le_succ _) fun b o hb e => ?_) mv2) hS4
      rw [sb.2 b (fun z : b = S => hb (by rw [z]; exact List.mem_cons_self))]; exact e
end
section
variable {A : Around} {E : Value → Shared → Prop} {s : Shared}
/-- set(x) makes its object so that it can be walked -/
theorem set_new1 (a : Value) {Q₁ : Value → Shared → Prop} (h : ∀ led : Bool, (w.params.followText "set-order" = true ∨ led = true) → Q₁ (.ref s.heap.objs.size) { s with heap := s.heap.push { cls := .type "set", dict := none, data := .set #[] 0 (.fresh 0 0 led) } }) :
    codeAny (model prog w) A (.call (.builtin "set.__new__") ⟨[.type "set", a], []⟩) (wants Q₁ E) s := by
  refine codeAny_of_tree ?_
  show wpAny _ A.in1 (do checkBuiltinCall "set.__new__" ⟨[.type "set", a], []⟩; again (.builtin "set.__new__" ⟨[.type "set", a], []⟩)) _ _ s
  refine wpAny_bind (wpAny_of_eq (F.newCall_set_1 a) (wpAny_pure ⟨plainId_quiet F.plain_set_new _, codeAny_builtin F.entry_set_new ?_⟩))
  rw [Around.under_plainId F.plain_set_new _]
  unfold Builtin.«set.__new__» Builtin.Frozenset.newClass
  have hsub := sub_set_self
  obtain ⟨hp, g, d, tk, os⟩ := s
  dsimp only
  wp_walk
  refine wpAny_askSetting (wpAny_pure ?_)
  dsimp only
  simp only [newObj]
  refine wpAny_bind (wpAny_alloc (wpAny_pure (wpAny_pure (h _ ?_))))
  show w.params.followText "set-order" = true ∨ (!w.params.followText "set-order") = true
  cases w.params.followText "set-order"
  · exact .inr rfl
  · exact .inl rfl
theorem setG_fresh {h : Heap} {led : Bool} (hl : w.params.followText "set-order" = true ∨ led = true) {ks : List K} (o : Obj) : SetG knd ((h.push { cls := .type "set", dict := none, data := .set #[] 0 (.fresh 0 0 led) }).push o) h.objs.size (fun k => decide (k ∈ ks.take 0)) (ddp (ks.take 0)).length :=
  ⟨_, #[], 0, _, Heap.get?_push_of_some _ (Heap.get?_push_size _ rfl), ⟨rfl, rfl, rfl⟩, rfl, rfl, ⟨fun e he => by simp at he, by simp, fun k => by simp, by decide, by rfl, List.Pairwise.nil, hl⟩⟩
theorem init_set_ListG {l : Addr} {items : Array Value} {ks : List K} {led : Bool} {B : Around} {E' : Value → Shared → Prop} (hled : w.params.followText "set-order" = true ∨ led = true)
    (hh : B.handled = none) (hl : s.heap.IsList l items) (hn : ks.length = items.size) (hi : ∀ (i : Nat) (v : Value), items[i]? = some v → ∃ k : K, ks[i]? = some k ∧ knd.is k v = true ∧ v.scannable = true) (hb : items.size + 1 < scanBound) :
    wpAny (model prog w) B (Builtin.«set.__init__» ⟨[.ref s.heap.objs.size, .ref l], []⟩) (fun f s₂ => (∃ r, f = .done (.ret r) ∧ r = .none) ∧ ∃ h' tk, s₂ = { s with heap := h', toks := tk } ∧ SetG knd h' s.heap.objs.size (fun k => decide (k ∈ ks)) (ddp ks).length ∧
          (∀ b o, b < s.heap.objs.size → s.heap.get? b = some o → h'.get? b = some o)) E' { s with heap := s.heap.push { cls := .type "set", dict := none, data := .set #[] 0 (.fresh 0 0 led) } } := by
  have hS : (s.heap.push { cls := .type "set", dict := none, data := .set #[] 0 (.fresh 0 0 led) }).get? s.heap.objs.size = some { cls := .type "set", dict := none, data := .set #[] 0 (.fresh 0 0 led) } := Heap.get?_push_size _ rfl
  obtain ⟨ol, hol, hcl, nl, hdl⟩ := hl
  obtain ⟨ocls, odict, odata, oslots⟩ := ol
  simp only at hcl hdl
  subst hcl; subst hdl
  have hol' : (s.heap.push { cls := .type "set", dict := none, data := .set #[] 0 (.fresh 0 0 led) }).get? l = some { cls := .type "list", dict := odict, data := .seq items nl, slots := oslots } := Heap.get?_push_of_some _ hol
  have hsls := F.sub_list_set
  have hslf := F.sub_list_frozenset
  have hne : (Value.type "list" == Value.type "dict") = false := by decide
  have hl1 : (s.heap.push { cls := .type "set", dict := none, data := .set #[] 0 (.fresh 0 0 led) }).IsList l items := ⟨_, hol', rfl, nl, rfl⟩
  unfold Builtin.«set.__init__» noKeywords Builtin.Frozenset.updateFrom
  generalize hPI : pyIter = PI
  wp_walk
  subst hPI
  refine wpAny_pyIter_list hl1 ?_
  refine wpAny_bind (wpAny_runValue ?_)
  have lS : l < s.heap.objs.size := Heap.lt_size hol
  have h3 : B.in1.handled = none := by simp [hh]
  have neI : l ≠ (s.heap.push { cls := .type "set", dict := none, data := .set #[] 0 (.fresh 0 0 led) }).objs.size := by
    rw [Heap.size_push]; exact Nat.ne_of_lt (Nat.lt_succ_of_lt lS)
  have nS : s.heap.objs.size ∉ [(s.heap.push { cls := .type "set", dict := none, data := .set #[] 0 (.fresh 0 0 led) }).objs.size, l] := by
    rw [Heap.size_push]; simp only [List.mem_cons, List.mem_singleton, List.not_mem_nil, or_false, not_or]
    exact ⟨Nat.ne_of_lt (Nat.lt_succ_self _), Nat.ne_of_gt lS⟩
  refine loopG ((Walks.list h3 _ l neI items).toS) s.heap.objs.size nS ks hn hi hb (items.size - 0) 0 _ (by omega) (Nat.zero_le _) ⟨⟨_, Heap.get?_push_size _ rfl, rfl, rfl⟩, (hl1.push _)⟩ (setG_fresh hled _) fun s' hm hS' => ?_
  obtain ⟨h', g', d', tk', os'⟩ := s'
  have eg : g' = s.gens := hm.gens
  have ed : d' = s.drawn := hm.drawn
  have eo : os' = s.os := hm.os
  subst eg; subst ed; subst eo
  show wpAny _ _ _ _ _ _
  refine wpAny_pure ?_
  show wpAny _ _ (ret Value.none) _ _ _
  refine wpAny_pure ⟨⟨_, rfl, rfl⟩, h', tk', rfl, hS', fun b o hb e => ?_⟩
  have n1 : b ≠ s.heap.objs.size := Nat.ne_of_lt hb
  have n2 : b ≠ (s.heap.push { cls := .type "set", dict := none, data := .set #[] 0 (.fresh 0 0 led) }).objs.size := by
    rw [Heap.size_push]; exact Nat.ne_of_lt (Nat.lt_succ_of_lt hb)
  exact hm.heap b o (by simp only [List.mem_cons, List.mem_singleton, List.not_mem_nil, or_false, not_or]; exact ⟨n1, n2⟩) (Heap.get?_push_of_some _ (Heap.get?_push_of_some _ e))
theorem init_set_TupleG {l : Addr} {items : Array Value} {ks : List K} {led : Bool} {B : Around} {E' : Value → Shared → Prop} (hled : w.params.followText "set-order" = true ∨ led = true)
    (hh : B.handled = none) (hl : s.heap.IsTuple l items) (hn : ks.length = items.size) (hi : ∀ (i : Nat) (v : Value), items[i]? = some v → ∃ k : K, ks[i]? = some k ∧ knd.is k v = true ∧ v.scannable = true) (hb : items.size + 1 < scanBound) :
    wpAny (model prog w) B (Builtin.«set.__init__» ⟨[.ref s.heap.objs.size, .ref l], []⟩) (fun f s₂ => (∃ r, f = .done (.ret r) ∧ r = .none) ∧ ∃ h' tk, s₂ = { s with heap := h', toks := tk } ∧ SetG knd h' s.heap.objs.size (fun k => decide (k ∈ ks)) (ddp ks).length ∧
          (∀ b o, b < s.heap.objs.size → s.heap.get? b = some o → h'.get? b = some o)) E' { s with heap := s.heap.push { cls := .type "set", dict := none, data := .set #[] 0 (.fresh 0 0 led) } } := by
  have hS : (s.heap.push { cls := .type "set", dict := none, data := .set #[] 0 (.fresh 0 0 led) }).get? s.heap.objs.size = some { cls := .type "set", dict := none, data := .set #[] 0 (.fresh 0 0 led) } := Heap.get?_push_size _ rfl
  obtain ⟨ol, hol, hcl, nl, hdl⟩ := hl
  obtain ⟨ocls, odict, odata, oslots⟩ := ol
  simp only at hcl hdl
  subst hcl; subst hdl
  have hol' : (s.heap.push { cls := .type "set", dict := none, data := .set #[] 0 (.fresh 0 0 led) }).get? l = some { cls := .type "tuple", dict := odict, data := .seq items nl, slots := oslots } := Heap.get?_push_of_some _ hol
  have hsls := F.sub_tuple_set
  have hslf := F.sub_tuple_frozenset
  have hne : (Value.type "tuple" == Value.type "dict") = false := by decide
  have hl1 : (s.heap.push { cls := .type "set", dict := none, data := .set #[] 0 (.fresh 0 0 led) }).IsTuple l items := ⟨_, hol', rfl, nl, rfl⟩
  unfold Builtin.«set.__init__» noKeywords Builtin.Frozenset.updateFrom
  generalize hPI : pyIter = PI
  wp_walk
  subst hPI
  refine wpAny_pyIter_tuple hl1 ?_
  refine wpAny_bind (wpAny_runValue ?_)
  have lS : l < s.heap.objs.size := Heap.lt_size hol
  have h3 : B.in1.handled = none := by simp [hh]
  have neI : l ≠ (s.heap.push { cls := .type "set", dict := none, data := .set #[] 0 (.fresh 0 0 led) }).objs.size := by
    rw [Heap.size_push]; exact Nat.ne_of_lt (Nat.lt_succ_of_lt lS)
  have nS : s.heap.objs.size ∉ [(s.heap.push { cls := .type "set", dict := none, data := .set #[] 0 (.fresh 0 0 led) }).objs.size, l] := by
    rw [Heap.size_push]; simp only [List.mem_cons, List.mem_singleton, List.not_mem_nil, or_false, not_or]
    exact ⟨Nat.ne_of_lt (Nat.lt_succ_self _), Nat.ne_of_gt lS⟩
  refine loopG ((Walks.tuple h3 _ l neI items).toS) s.heap.objs.size nS ks hn hi hb (items.size - 0) 0 _ (by omega) (Nat.zero_le _) ⟨⟨_, Heap.get?_push_size _ rfl, rfl, rfl⟩, (hl1.push _)⟩ (setG_fresh hled _) fun s' hm hS' => ?_
  obtain ⟨h', g', d', tk', os'⟩ := s'
  have eg : g' = s.gens := hm.gens
  have ed : d' = s.drawn := hm.drawn
  have eo : os' = s.os := hm.os
  subst eg; subst ed; subst eo
  show wpAny _ _ _ _ _ _
  refine wpAny_pure ?_
  show wpAny _ _ (ret Value.none) _ _ _
  refine wpAny_pure ⟨⟨_, rfl, rfl⟩, h', tk', rfl, hS', fun b o hb e => ?_⟩
  have n1 : b ≠ s.heap.objs.size := Nat.ne_of_lt hb
  have n2 : b ≠ (s.heap.push { cls := .type "set", dict := none, data := .set #[] 0 (.fresh 0 0 led) }).objs.size := by
    rw [Heap.size_push]; exact Nat.ne_of_lt (Nat.lt_succ_of_lt hb)
  exact hm.heap b o (by simp only [List.mem_cons, List.mem_singleton, List.not_mem_nil, or_false, not_or]; exact ⟨n1, n2⟩) (Heap.get?_push_of_some _ (Heap.get?_push_of_some _ e))
theorem call_set1 {v : Value} {S : K → Bool} {n : Nat} {Q : Value → Shared → Prop}
    (hi : ∀ led : Bool, (w.params.followText "set-order" = true ∨ led = true) → ∀ (B : Around) (E' : Value → Shared → Prop), B.handled = A.handled → wpAny (model prog w) B (Builtin.«set.__init__» ⟨[.ref s.heap.objs.size, v], []⟩) (fun f s₂ => (∃ r, f = .done (.ret r) ∧ r = .none) ∧ ∃ h' tk, s₂ = { s with heap := h', toks := tk } ∧ SetG knd h' s.heap.objs.size S n ∧
          (∀ b o, b < s.heap.objs.size → s.heap.get? b = some o → h'.get? b = some o)) E' { s with heap := s.heap.push { cls := .type "set", dict := none, data := .set #[] 0 (.fresh 0 0 led) } })
    (h : ∀ (h' : Heap) (tk : Nat), SetG knd h' s.heap.objs.size S n → (∀ b o, b < s.heap.objs.size → s.heap.get? b = some o → h'.get? b = some o) → Q (.ref s.heap.objs.size) { s with heap := h', toks := tk }) :
    wpAny (model prog w) A (call (.type "set") [v]) Q E s := by
  obtain ⟨c, tl, hmro⟩ := F.called_set.mro
  have hmade := F.called_set.made
  have hsub := F.called_set.sub
  refine wpAny_call (codeAny_of_tree ?_)
  show wpAny _ _ (callAny (.type "set") _) _ _ _
  refine wpAny_pure ⟨Code.quiet_builtin _ (by decide +kernel), codeAny_builtin F.entry_type_call ?_⟩
  rw [Around.under_plain (weight_type_call_type "set" [v] []) rfl]
  have h1 := F.called_set.notType
  have h2 := F.called_set.canCreate
  have hct := F.typeCall_set_1 v
  repeat (any_goals (first | assumption | wp_step))
  refine codeAny_mono (set_new1 v (E := E) (Q₁ := fun obj s₁ => ∃ led : Bool, (w.params.followText "set-order" = true ∨ led = true) ∧ obj = .ref s.heap.objs.size ∧ s₁ = { s with heap := s.heap.push { cls := .type "set", dict := none, data := .set #[] 0 (.fresh 0 0 led) } }) fun led q => ⟨led, q, rfl, rfl⟩) fun r s₁ hr => ?_
  cases r with
  | error e => exact hr
  | ok fl =>
    cases fl with
    | ret obj =>
      obtain ⟨led, hled, rfl, rfl⟩ := hr
      have hS : (s.heap.push { cls := .type "set", dict := none, data := .set #[] 0 (.fresh 0 0 led) }).get? s.heap.objs.size = some { cls := .type "set", dict := none, data := .set #[] 0 (.fresh 0 0 led) } := Heap.get?_push_size _ rfl
      have hT : Shared.TypeIs { s with heap := s.heap.push { cls := .type "set", dict := none, data := .set #[] 0 (.fresh 0 0 led) } } (.ref s.heap.objs.size) "set" := ⟨_, hS, rfl⟩
      have hli := F.called_set.init.lookup
      have hbi := F.called_set.init.bind (.ref s.heap.objs.size)
      repeat (any_goals (first | assumption | wp_step))
      refine codeAny_mono (codeAny_call_builtin (R := wants (fun r s₂ => r = .none ∧ ∃ h' tk, s₂ = { s with heap := h', toks := tk } ∧ SetG knd h' s.heap.objs.size S n ∧
          (∀ b o, b < s.heap.objs.size → s.heap.get? b = some o → h'.get? b = some o)) E) F.called_set.init.plain F.entry_set_init (check_set_init_1 hT ?_)) fun r₂ s₂ hr₂ => ?_
      · refine wpAny_mono (hi led hled _ _ rfl) (fun f s₂ ⟨⟨r, e1, e2⟩, q⟩ => ?_) fun e s' z => z
        subst e1; subst e2; exact ⟨rfl, q⟩
      · cases r₂ with
        | error e => exact hr₂
        | ok fl₂ =>
          cases fl₂ with
          | ret r =>
            obtain ⟨rfl, h', tk, rfl, hS', hk'⟩ := hr₂
            repeat (any_goals (first | assumption | wp_step))
            exact h _ _ hS' hk'
          | _ => exact hr₂.elim
    | _ => exact hr.elim
end
end
end DL
/-! len(set(e)), sorted(set(e)) as expressions -/
namespace DL
open PySem L2 PySem.Spec PyProof.Rows
/-- a plain value among keys -/
def lfV : V → Option Leaf
  | .non => some .none
  | .int i => some (.num i)
  | .bl b => some (.num (if b = true then 1 else 0))
  | .str x => some (.text x)
  | _ => none
def lfVs : List V → Option (List Leaf)
  | [] => some []
  | x :: xs => match lfV x, lfVs xs with | some k, some ks => some (k :: ks) | _, _ => none
theorem lfV_is {P : Program} {w : World} {x : V} {k : Leaf} {u : Value} (h : lfV x = some k) (r : RelV x u) : (leafKind P w).is k u = true ∧ u.scannable = true := by
  cases x with
  | non => cases h; cases r; exact ⟨rfl, rfl⟩
  | int i => cases h; obtain ⟨t, rfl⟩ := r; exact ⟨decide_eq_true rfl, rfl⟩
  | bl b => cases h; cases r; exact ⟨decide_eq_true rfl, rfl⟩
  | str x => cases h; obtain ⟨t, rfl⟩ := r; exact ⟨by show Value.isStrOf x (.str x t) = true; simp [Value.isStrOf], rfl⟩
  | _ => cases h
theorem lfVs_len : ∀ {xs : List V} {ks : List Leaf}, lfVs xs = some ks → ks.length = xs.length
  | [], _, h => by cases h; rfl
  | x :: xs, _, h => by
    unfold lfVs at h
    split at h
    · rename_i k r e1 e2
      cases h
      simp [lfVs_len e2]
    · cases h
theorem lfVs_at {P : Program} {w : World} : ∀ {xs : List V} {ks : List Leaf} {us : List Value}, lfVs xs = some ks → Vals xs us → ∀ (i : Nat) (v : Value), us[i]? = some v → ∃ k, ks[i]? = some k ∧ (leafKind P w).is k v = true ∧ v.scannable = true
  | [], _, _, h, r, i, v, e => by cases r; simp at e
  | x :: xs, _, _, h, r, i, v, e => by
    unfold lfVs at h
    split at h
    · rename_i k ks e1 e2
      cases h
      cases r with
      | cons r1 r2 =>
        cases i with
        | zero => simp at e; subst e; exact ⟨k, rfl, lfV_is e1 r1⟩
        | succ i => exact lfVs_at e2 r2 i v (by simpa using e)
    · cases h
section
variable {X : Cx}
def tLenSetX (K : PySem.W.Frag) (ta : TE) : TE := fun σ H Q => ta σ H fun x H1 => ∃ l xs ks, x = .ref l ∧ (SqL K H1 l xs ∨ SqT K H1 l xs) ∧ lfVs xs = some ks ∧ xs.length + 1 < 4096 ∧ Q (.int (ddp ks).length) H1
theorem len_setG {K : Type} [DecidableEq K] {P : Program} {w : World} {knd : PySem.KeyKind P w K} {A : Around} {E : Value → Shared → Prop} {s : Shared} {a : Addr} {S : K → Bool} {n : Nat} {Q : Value → Shared → Prop} (R : SetG knd s.heap a S n) (h : Q (.int n (s.toks + 1)) { s with toks := s.toks + 1 + 1 }) :
    wpAny (model P w) A (call (.builtin "len") [.ref a]) Q E s := by
  obtain ⟨o, es, ep, t, ho, hex, hd, hn, g⟩ := R
  have hz := g.lt
  refine call_len_set ho hex hd g.ft (by unfold scanBound at hz; omega) ?_
  rw [hn]; exact h
theorem pe_lenSetX {a : Expr} {ta : TE} {p p2 q pos : Pos} (hc : X.calm = true) (hg : Gl X "len") (hm : X.mg "len" = none) (hg2 : Gl X "set") (hm2 : X.mg "set" = none) (ha : PE X a ta)
    (na : starEach [a] X.env = (false, eval a X.env) :: starEach [] X.env := by rfl) : PE X (.Call (.Name "len" p) [.Call (.Name "set" p2) [a] [] q] [] pos) (tLenSetX X.K ta) := by
  refine ⟨fun pins s σ H Q I h => ?_⟩
  refine Call_ (ld_blt I hg hm boot_len ?_)
  refine PyProof.Rows.callWith_builtin1 (PyProof.Rows.args_cons ?_ rfl) rfl rfl
  refine Call_ (ld_blt I hg2 hm2 PyProof.Rows.boot_set ?_)
  refine PyProof.Rows.callWith_type1 (PyProof.Rows.args_cons (thn (ha.run pins s σ H _ I h) fun v s1 ⟨x, H1, I1, r1, q1⟩ => PyProof.Rows.args_nil ?_) na) na rfl
  obtain ⟨l, xs, ks, rfl, hq, hk, hz, q1⟩ := q1
  cases r1
  have fin : ∀ (h' : Heap) (tk : Nat), SetG (leafKind X.prog X.w) h' s1.heap.objs.size (fun k => decide (k ∈ ks)) (ddp ks).length → (∀ b o, b < s1.heap.objs.size → s1.heap.get? b = some o → h'.get? b = some o) →
      wpAny (model X.prog X.w) X.A (spliced (backTo pos (starEach [] X.env))) (fun vs s₂ => wpAny (model X.prog X.w) X.A (call (.builtin "len") (Value.ref s1.heap.objs.size :: vs)) (EP X pins σ Q) X.xe s₂) X.xe { s1 with heap := h', toks := tk } := fun h' tk hS hk' => by
    refine PyProof.Rows.args_nil ?_
    have I2 : Inv X pins σ H1 { s1 with heap := h', toks := tk } := I1.kept fun b o e => hk' b o (Heap.lt_size e) e
    exact len_setG hS ⟨.int (ddp ks).length, H1, I2.tok _, ⟨_, rfl⟩, q1⟩
  have hl := lfVs_len hk
  rcases hq with hq | hq
  · obtain ⟨its, r, pl, _⟩ := I1.list hq
    have e : its.length = xs.length := r.length.symm
    exact call_set1 (fun led hled B E' hB => init_set_ListG (knd := leafKind X.prog X.w) (ks := ks) hled (hB.trans (I1.ok.hd hc)) pl.isList (by simp [hl, e]) (fun i v hv => lfVs_at hk r i v (by simpa using hv)) (by simp [e]; unfold scanBound; omega)) fin
  · obtain ⟨its, r, pl, _⟩ := I1.tuple hq
    have e : its.length = xs.length := r.length.symm
    exact call_set1 (fun led hled B E' hB => init_set_TupleG (knd := leafKind X.prog X.w) (ks := ks) hled (hB.trans (I1.ok.hd hc)) pl (by simp [hl, e]) (fun i v hv => lfVs_at hk r i v (by simpa using hv)) (by simp [e]; unfold scanBound; omega)) fin

/-! ### sorted(set(e)), texts -/
def leT (a b : Str) : Bool := decide (a.cps.toList ≤ b.cps.toList)
theorem strs_each : ∀ {vs : List Value}, (∀ v ∈ vs, ∃ k t, v = Value.str k t) → ∃ ks : List Str, PySem.W.EachIs (fun v k => ∃ t, v = Value.str k t) vs ks
  | [], _ => ⟨[], .nil⟩
  | v :: vs, h => by
    obtain ⟨k, hk⟩ := h v List.mem_cons_self
    obtain ⟨ks, hks⟩ := strs_each fun u hu => h u (List.mem_cons_of_mem _ hu)
    exact ⟨k :: ks, .cons hk hks⟩
theorem each_vals : ∀ {vs : List Value} {ks : List Str}, PySem.W.EachIs (fun v k => ∃ t, v = Value.str k t) vs ks → Vals (ks.map V.str) vs
  | _, _, .nil => .nil
  | _, _, .cons h t => .cons h (each_vals t)
theorem each_mem : ∀ {vs : List Value} {ks : List Str}, PySem.W.EachIs (fun v k => ∃ t, v = Value.str k t) vs ks → ∀ k, k ∈ ks ↔ ∃ v ∈ vs, Value.isStrOf k v = true
  | _, _, .nil, k => by simp
  | _, _, .cons (a := v) (b := b) h t, k => by
    rw [List.mem_cons, each_mem t]
    obtain ⟨tk, rfl⟩ := h
    constructor
    · rintro (rfl | ⟨v, hv, q⟩)
      · exact ⟨_, List.mem_cons_self, by simp [Value.isStrOf]⟩
      · exact ⟨v, List.mem_cons_of_mem _ hv, q⟩
    · rintro ⟨v, hv, q⟩
      rcases List.mem_cons.mp hv with rfl | hv
      · exact .inl (Value.isStrOf_inj _ _ _ q (by simp [Value.isStrOf]))
      · exact .inr ⟨v, hv, q⟩
theorem each_nd : ∀ {vs : List Value} {ks : List Str}, PySem.W.EachIs (fun v k => ∃ t, v = Value.str k t) vs ks → vs.Pairwise (fun u v => ∀ k, ¬ (Value.isStrOf k u = true ∧ Value.isStrOf k v = true)) → ks.Nodup
  | _, _, .nil, _ => List.nodup_nil
  | _, _, .cons (a := v) (b := b) h t, p => by
    obtain ⟨p1, p2⟩ := List.pairwise_cons.mp p
    refine List.nodup_cons.mpr ⟨fun hm => ?_, each_nd t p2⟩
    obtain ⟨u, hu, q⟩ := (each_mem t b).mp hm
    obtain ⟨tk, rfl⟩ := h
    exact p1 u hu b ⟨by simp [Value.isStrOf], q⟩
/-- list(sorted(set of texts)): the model's own steps -/
theorem sorted_setT {P : Program} {w : World} {A : Around} {E : Value → Shared → Prop} {s : Shared} {a : Addr} {S : Str → Bool} {n : Nat} {Q : Value → Shared → Prop} (R : SetG (strKind P w) s.heap a S n) (hh : A.handled = none) (hu : A.units + 10 < cLine)
    (hQ : ∀ s' p (out : List Value) (c : Nat) (ks : List Str), (∀ b o, s.heap.get? b = some o → s'.heap.get? b = some o) → s'.gens = s.gens → s'.os = s.os → s.heap.objs.size ≤ p →
      s'.heap.get? p = some (seqObj "list" out.toArray c) → Vals (ks.map V.str) out → ks.Pairwise (fun x y => leT x y = true) → ks.Nodup → (∀ k, k ∈ ks ↔ S k = true) → ks.length ≤ 4096 → Q (.ref p) s') :
    wpAny (model P w) A (call (.builtin "sorted") [.ref a]) Q E s := by
  obtain ⟨o, es, ep, t, ho, hex, hd, hn, g⟩ := R
  refine Calls.call_function_entry kind_sorted plain_sorted entry_sorted (args_sorted1 _) ?_
  unfold Builtin.«sorted»
  refine wpAny_bind (m := checkCount "sorted" 1 1 _) (wpAny_pure ?_)
  refine wpAny_bind (collect_set (A := A.in1) hh ⟨o, ho, hex.1, hd⟩ g.ft g.lt g.ri g.le fun s1 vs k1 hz g1 o1 pm => ?_)
  have hvl : vs.length = es.size := by rw [pm.length_eq, List.length_map, Array.length_toList]
  have hb : es.size < 4096 := g.lt
  have hst : ∀ v ∈ vs, ∃ k t, v = Value.str k t := fun v hv => by
    obtain ⟨e, he, q⟩ := List.mem_map.mp (pm.mem_iff.mp hv)
    obtain ⟨⟨k, h1, _⟩, _⟩ := g.el e he
    obtain ⟨t, h2⟩ := Value.isStrOf_shape (show Value.isStrOf k e.2 = true from h1)
    exact ⟨k, t, by rw [← q]; exact h2⟩
  obtain ⟨ks, hks⟩ := strs_each hst
  have kl : ks.length = vs.length := hks.length.symm
  have nd : ks.Nodup := by
    refine each_nd hks ?_
    refine (pm.pairwise_iff (R := fun u v => ∀ k, ¬ (Value.isStrOf k u = true ∧ Value.isStrOf k v = true)) fun h k z => h k ⟨z.2, z.1⟩).mpr ?_
    exact List.pairwise_map.mpr (g.ap.imp fun h k z => h k z)
  have hm : ∀ k, k ∈ ks ↔ S k = true := fun k => by
    rw [each_mem hks, g.me k]
    constructor
    · rintro ⟨v, hv, q⟩
      obtain ⟨e, he, rfl⟩ := List.mem_map.mp (pm.mem_iff.mp hv)
      exact ⟨e, he, q⟩
    · rintro ⟨e, he, q⟩
      exact ⟨e.2, pm.mem_iff.mpr (List.mem_map.mpr ⟨e, he, rfl⟩), q⟩
  refine wpAny_bind (wpAny_newList ?_ (by rw [hvl, sizeLine_eq]; omega))
  have hoL : (s1.heap.push (seqObj "list" vs.toArray 0)).get? s1.heap.objs.size = some (seqObj "list" vs.toArray 0) := Heap.get?_push_size _ rfl
  refine wpAny_bind (wpAny_holding (PySem.W.list_sort_data (s := { s1 with heap := s1.heap.push (seqObj "list" vs.toArray 0) }) (R := fun v k => ∃ t, v = Value.str k t) (enc := fun k : Str => PyData.str k) (bs := ks) hoL hks (hks.mono fun v k ⟨t, e⟩ => ⟨[], by rw [e]; exact .str _ _, by simp⟩)
    (PySem.W.AllAlike.of fun _ _ => rfl) (PySem.W.Sortable.others fun _ => ⟨by simp, by simp⟩) (by rw [kl, hvl, sizeLine_eq]; omega) (fun b _ => by show A.units + 1 + 1 + 0 < cLine; omega) fun out hl he => ?_))
  rw [PySem.W.dataLe_str] at he
  obtain ⟨c, hcc⟩ := sortedHeap_at (vs := vs) (out := out.toArray) hoL
  have pp : (ks.mergeSort (fun a b => decide (a.cps.toList ≤ b.cps.toList))).Perm ks := List.mergeSort_perm _ _
  refine wpAny_pure ⟨_, rfl, hQ _ s1.heap.objs.size out c _ (fun b u e => ?_) g1 o1 hz hcc (each_vals he) ?_ (pp.nodup_iff.mpr nd) (fun k => by rw [pp.mem_iff, hm]) (by rw [pp.length_eq, kl, hvl]; omega)⟩
  · have q := k1 b u e
    have hlt := Heap.lt_size q
    show (sortedHeap (s1.heap.push (seqObj "list" vs.toArray 0)) s1.heap.objs.size vs out.toArray).get? b = some u
    rw [sortedHeap_old (Nat.ne_of_lt hlt) (by rw [size_push']; exact Nat.lt_succ_of_lt hlt)]
    exact Heap.get?_push_of_some _ q
  · refine List.pairwise_mergeSort (le := fun a b => decide (a.cps.toList ≤ b.cps.toList)) (fun a b c h1 h2 => ?_) (fun a b => ?_) ks
    · exact decide_eq_true (Std.le_trans (of_decide_eq_true h1) (of_decide_eq_true h2))
    · rw [Bool.or_eq_true, decide_eq_true_eq, decide_eq_true_eq]; exact Std.le_total
end
end DL
namespace DL
open PySem L2
/-! ### objects -/
section
variable {X : Cx} {k : Nat} {f C g : Addr} {fd : FuncData} {ps : List Str} {sp : Sp} {W : WX} {pins : List (Addr × Obj)} {σ : L2.St} {H : Hp} {s : Shared} {Q : VK} {us : List Value} {vs : List V}
theorem run_g (F : FnG X.prog X.w X.K X.mg X.base k f fd ps sp) (hr : Room k X.A ∧ Tp X.A X.base) (hb : Binds X.K fd ps []) (tk : Takes X W) (I : Inv X pins σ H s) (r : Vals vs us) (h : sp vs H Q (WE W σ)) : wpAny (model X.prog X.w) X.A (call (.ref f) us) (EP X pins σ Q) X.xe s := by
  have hl : us.length = ps.length := by rw [← r.length]; exact F.len _ _ _ _ h
  have bd := hb s us I.kIn (by rw [List.append_nil]; exact hl)
  rw [List.append_nil] at bd
  exact wpAny_call (call_g (E := WE W) F hr ⟨us, []⟩ bd (passAt tk σ) I r h (fun _ _ z => z) fun _ _ z => z)
theorem run_makeG (M : Mk X.K C f) (F : FnG X.prog X.w X.K X.mg X.base k f fd ps sp) (hr : Room (k + 1) X.A ∧ Tp X.A X.base) (hb : Binds X.K fd ps []) (tk : Takes X W) (I : Inv X pins σ H s) (r : Vals vs us)
    (h : ∀ x dx, H x = none → H dx = none → dx ≠ x → sp (.ref x :: vs) (upd (upd H dx (.own x)) x (.ins C dx [])) (fun v H2 => v = .non ∧ Q (.ref x) H2) (WE W σ)) :
    wpAny (model X.prog X.w) X.A (call (.ref C) us) (EP X pins σ Q) X.xe s := by
  have hq := h (s.heap.objs.size + 1) s.heap.objs.size (I.hok.fresh (Nat.le_succ _)) (I.hok.fresh (Nat.le_refl _)) (Nat.ne_of_lt (Nat.lt_succ_self _))
  have I2 := Inv.made (C := C) I
  have r2 : Vals (V.ref (s.heap.objs.size + 1) :: vs) (Value.ref (s.heap.objs.size + 1) :: us) := .cons rfl r
  have hl : (Value.ref (s.heap.objs.size + 1) :: us).length = ps.length := by
    have e := r2.length
    rw [F.len _ _ _ _ hq] at e
    exact e.symm
  have bd := hb _ (Value.ref (s.heap.objs.size + 1) :: us) I2.kIn (by rw [List.append_nil]; exact hl)
  rw [List.append_nil] at bd
  refine wpAny_call (make_map (f := f) I.kIn M.makes M.init (beq_iff_eq.mp M.fn) (codeAny_mono (F.go (outer := X.stack) (args := ⟨Value.ref (s.heap.objs.size + 1) :: us, []⟩) ⟨hr.1.make C us [], hr.2⟩
    (I2.env0.make C us []) bd r2 hq) fun r s' hq' => ?_))
  cases r with
  | error e => exact passAt tk σ pins _ _ e s' I2 hq'
  | ok fl =>
    cases fl with
    | ret u =>
      obtain ⟨v, H', I3, rv, ev, q3⟩ := I2.after hq'
      subst ev
      exact ⟨rv, ⟨V.ref (s.heap.objs.size + 1), H', I3, rfl, q3⟩⟩
    | next => exact False.elim hq'
    | brk => exact False.elim hq'
    | cont => exact False.elim hq'
theorem getprop_g {p a dx : Addr} {fs : List (Str × V)} {n : Str} {b : Bool} {E' : Value → Shared → Prop} (I : Inv X pins σ H s) (ea : H a = some (.ins C dx fs)) (c : Cls X.K C) (hp : PropOf X.K C n p g)
    (F : FnG X.prog X.w X.K X.mg X.base k g fd ps sp) (hr : Room (k + 1) X.A ∧ Tp X.A X.base) (hb : Binds X.K fd ps []) (h : sp [.ref a] H Q fun _ _ _ => False) :
    wpAny (model X.prog X.w) X.A (getAttr (.ref a) n b) (EP X pins σ Q) E' s := by
  obtain ⟨mA, O, _, _, _, _⟩ := ins_get I.hok ea
  obtain ⟨od, J, _⟩ := O.look
  obtain ⟨rest, hrec⟩ := hp.rec_
  have I1 := I.tok (s.toks + 1)
  have hl : [Value.ref a].length = ps.length := by
    rw [← F.len _ _ _ _ h]; rfl
  have bd := hb { s with toks := s.toks + 1 } [Value.ref a] I1.kIn (by rw [List.append_nil]; exact hl)
  rw [List.append_nil] at bd
  have hc : (PySem.W.clsIn X.K C).isSome = true := by
    obtain ⟨cd, hc, _⟩ := PySem.W.any_some c.hd
    rw [hc]
    rfl
  refine PySem.W.get_bind I.kIn J (PySem.W.plainGet_of (c.get n)).1 (PySem.W.findObj_data hc hp.at_ hp.get hp.tak) (PySem.W.plainGet_of (c.get n)).2 (wpAny_call (PySem.W.prop_get (s := { s with toks := s.toks + 1 }) I.kIn hrec ?_))
  refine codeAny_mono (F.go (A := X.A.in1) (outer := X.stack) (args := ⟨[.ref a], []⟩) (us := [.ref a]) (vs := [.ref a]) ⟨hr.1.in1, hr.2⟩ I1.env0.in1 bd (.cons rfl .nil) h) fun r s' hq => ?_
  cases r with
  | error er => obtain ⟨_, _, _, _, _, _, _, _, _, _, _, _, _, _, _, _, z⟩ := hq
  | ok fl =>
    cases fl with
    | ret u =>
      obtain ⟨v, H', I3, rv, q3⟩ := I1.after hq
      show wpAny _ _ (handedOut u) _ _ _
      rw [PySem.W.handedOut_of (handed_of rv)]
      exact wpAny_pure ⟨v, H', I3, rv, q3⟩
    | next => exact False.elim hq
    | brk => exact False.elim hq
    | cont => exact False.elim hq
end
/-! #### what is known of a class, of its methods -/
structure MethOK (P : Program) (wd : World) (K : PySem.W.Frag) (mg : Str → Option Value) (base : Heap) (k : Nat) (C : String) (m : Str) (F : DF) : Prop where
  c : Cls K (cA K C)
  ex : ∃ (g : Addr) (fd : FuncData) (ps : List Str), FnG P wd K mg base k g fd ps (spD K F) ∧ Meth K (cA K C) m g ∧ Binds K fd ps []
structure PropOK (P : Program) (wd : World) (K : PySem.W.Frag) (mg : Str → Option Value) (base : Heap) (k : Nat) (C : String) (m : Str) (F : DF) : Prop where
  c : Cls K (cA K C)
  ex : ∃ (g p : Addr) (fd : FuncData) (ps : List Str), FnG P wd K mg base k g fd ps (spD K F) ∧ PropOf K (cA K C) m p g ∧ Binds K fd ps []
structure MakeOK (P : Program) (wd : World) (K : PySem.W.Frag) (mg : Str → Option Value) (base : Heap) (k : Nat) (C : String) (F : DF) : Prop where
  at_ : mg (Str.ofString C) = some (.ref (cA K C))
  ex : ∃ (g : Addr) (fd : FuncData) (ps : List Str), FnG P wd K mg base k g fd ps (spD K F) ∧ Mk K (cA K C) g ∧ Binds K fd ps []
structure FldOK (K : PySem.W.Frag) (C : String) (f : Str) : Prop where
  c : Cls K (cA K C)
  n : NoAttr K (cA K C) f
theorem cA_of {K : PySem.W.Frag} {n : String} {C : Addr} (h : PySem.W.nsIn K mainGlobals (Str.ofString n) = some (some (.ref C))) : cA K n = C := by unfold cA; rw [h]
/-- all of a table -/
def AllT (tab : List (String × DF)) (R : String → DF → Prop) : Prop := ∀ p ∈ tab, R p.1 p.2
section
variable {P : Program} {wd : World} {K : PySem.W.Frag} {mg : Str → Option Value} {base : Heap} {k : Nat} {N : List Str} {sc : SC} {W : WX}
/-! #### fields -/
theorem RepP.look {w : Wd} {vs : List (Str × V)} {xs : List (Str × D)} (r : RepP K w vs xs) (f : Str) {d : D} (h : xs.lookup f = some d) : ∃ v, vs.lookup f = some v ∧ Rep K w v d := by
  induction xs generalizing vs with
  | nil => cases h
  | cons p ps ih =>
    obtain ⟨k1, x1⟩ := p
    obtain ⟨v', r', rfl, h1, t⟩ := r.inv
    by_cases z : f == k1
    · simp only [List.lookup, z] at h ⊢
      cases h; exact ⟨v', rfl, h1⟩
    · simp only [List.lookup, z] at h ⊢
      exact ih t h
theorem RepP.look0 {w : Wd} {vs : List (Str × V)} {xs : List (Str × D)} (r : RepP K w vs xs) (f : Str) (h : xs.lookup f = none) : vs.lookup f = none := by
  induction xs generalizing vs with
  | nil => rw [r.inv0]; rfl
  | cons p ps ih =>
    obtain ⟨k1, x1⟩ := p
    obtain ⟨v', r', rfl, h1, t⟩ := r.inv
    by_cases z : f == k1
    · simp only [List.lookup, z] at h; cases h
    · simp only [List.lookup, z] at h ⊢
      exact ih t h
def putFD (f : Str) (v : D) : List (Str × D) → List (Str × D)
  | [] => [(f, v)]
  | (g, x) :: r => if g = f then (g, v) :: r else (g, x) :: putFD f v r
theorem repP_putF {w : Wd} {f : Str} {v : V} {x : D} (h : Rep K w v x) : ∀ {vs : List (Str × V)} {xs : List (Str × D)}, RepP K w vs xs → RepP K w (putF f v vs) (putFD f x xs)
  | vs, [], r => by rw [r.inv0]; exact .cons h .nil
  | vs, (k, y) :: xs, r => by
    obtain ⟨v', r', rfl, h1, t⟩ := r.inv
    unfold putF putFD
    by_cases z : k = f
    · rw [if_pos z, if_pos z]; exact .cons h t
    · rw [if_neg z, if_neg z]; exact .cons h1 (repP_putF h t)
def eFld (cs : List String) (f : Str) (mo : EM) : EM := fun Γ st => (mo Γ st).bind fun o s => match deref s o with
  | .ins C fs => if C ∈ cs then (match fs.lookup f with | some d => .ok d s | none => .no) else .no
  | _ => .no
theorem pr_fld {o : Expr} {f : Str} {mo : EM} {cs : List String} {pos : Pos} (T : ∀ C ∈ cs, FldOK K C f) (ho : PB P wd K mg base k N sc W o mo) (hb : ∀ env, attributeBase o f env (eval o env) = eval o env := by intro _; rfl) : PR P wd K mg base k N sc W (.Attribute o f pos) (eFld cs f mo) := by
  obtain ⟨t, p, r⟩ := ho
  refine ⟨tFld K t f, fun X g => by have := pe_fld (f := f) (pos := pos) (p X g) (hb X.env); rw [g.kk] at this; exact this, ?_⟩
  intro H0 w Γ σ ok f0 Q q
  refine RB.use (P := fun w r => PostE K w r Q (at_ W σ)) r ok f0 (fun _ _ e k p => p.shift e k) (fun _ _ p => p) (fun p => p) q fun d v w1 e1 k1 f1 r1 p1 => ?_
  have vw := r1.vw k1 f1
  revert vw p1
  cases deref w1.st d with
  | ins C fs =>
    intro p1 vw
    obtain ⟨a, dx, vs, rfl, hH, rp⟩ := vw
    dsimp only at p1
    obtain ⟨hc, p1⟩ := PostE.ite p1
    cases hl : fs.lookup f with
    | none => rw [hl] at p1; exact p1.elim
    | some x =>
      rw [hl] at p1
      obtain ⟨v', hv, rv⟩ := rp.look f hl
      exact ⟨a, _, dx, vs, v', rfl, hH, (T C hc).c, (T C hc).n, hv, p1.now k1 rv⟩
  | _ => intro p1 _; exact p1.elim
/-- o.f = e: o of the store -/
def sFldR (cs : List String) (f : Str) (mo me : EM) : SM := fun Γ st => (me Γ st).bs Γ fun x s1 => (mo Γ s1).bs Γ fun o s2 => match o with
  | .ref l => match s2[l]? with
    | some (.ins C fs) => if C ∈ cs ∧ fs.length < 1000 then .nx Γ (s2.set l (.ins C (putFD f x fs))) else .no
    | _ => .no
  | _ => .no
theorem ps_fldR {o e : Expr} {f : Str} {mo me : EM} {cs : List String} {pos pos' : Pos} (T : ∀ C ∈ cs, FldOK K C f) (ho : PR P wd K mg base k N sc W o mo) (he : PR P wd K mg base k N sc W e me)
    (hs : ∀ env, swapsWith e (some (.Attribute o f pos')) pos.line env = pure false) : PSt P wd K mg base k N sc W (.Assign [.Attribute o f pos'] e pos) (sFldR cs f mo me) := by
  obtain ⟨to, po, ro⟩ := ho
  obtain ⟨te, pe, re⟩ := he
  refine ⟨sFld K to te f, fun X g => by have := ps_fld (f := f) (pos := pos) (pos' := pos') (po X g) (pe X g) (hs X.env); rw [g.kk] at this; exact this, ?_⟩
  intro w0 w Γ σ e0 ok f0 Dn q
  refine re.useS e0 ok f0 q fun x v w1 e1 k1 f1 r1 x1 p1 => ?_
  refine ro.useS e1 k1 f1 p1 fun o u w2 e2 k2 f2 r2 x2 p2 => ?_
  have r1' := r1.ext x2
  cases r2 with
  | @ref l hl =>
    dsimp only at p2
    split at p2
    · rename_i C fs hx
      obtain ⟨ob, h1, h2, h3⟩ := k2.live hx (by simp)
      obtain ⟨dx, vs, rfl, rp⟩ := h3
      by_cases hc : C ∈ cs ∧ fs.length < 1000
      · rw [if_pos hc] at p2
        obtain ⟨ev, kv⟩ := put_ok (o := .ins (cA K C) dx (putF f v vs)) (d := .ins C (putFD f x fs)) k2 hl h2 ⟨dx, _, rfl, repP_putF r1' rp⟩
        exact ⟨w2.ρ l, _, dx, vs, rfl, h1, (T C hc.1).c, (T C hc.1).n, by rw [rp.len]; exact hc.2, p2 (w2.put l _ _) σ (e2.trans k2 ev) ev.ext kv rfl (f2.evo ev)⟩
      · rw [if_neg hc] at p2; exact p2.elim
    · exact p2.elim
  | _ => exact p2.elim

/-! #### methods -/
def tMethG (K : PySem.W.Frag) (tab : List (String × DF)) (m : Str) (W : WX) (ta : TE) (t : TA) : TE := fun σ H Q => ∃ p ∈ tab, ta σ H fun x H1 => ∃ a dx fs, x = .ref a ∧ H1 a = some (.ins (cA K p.1) dx fs) ∧ fs.lookup m = none ∧ t σ H1 fun vs H2 => spD K p.2 (x :: vs) H2 Q (WE W σ)
def eMeth (tab : List (String × DF)) (m : Str) (mo ms : EM) : EM := fun Γ st => if tab = [] then .no else (mo Γ st).bind fun o s1 => match deref s1 o with
  | .ins C fs => if (fs.lookup m).isNone = true then (match tab.lookup C with
      | some F => (ms Γ s1).bind fun d s2 => match d with | .tup ds => F (o :: ds) s2 | _ => .no
      | none => .no) else .no
  | _ => .no
theorem lookup_mem {α β : Type} [BEq α] [LawfulBEq α] {l : List (α × β)} {a : α} {b : β} (h : l.lookup a = some b) : (a, b) ∈ l := by
  induction l with
  | nil => cases h
  | cons p ps ih =>
    obtain ⟨x, y⟩ := p
    by_cases z : a == x
    · simp only [List.lookup, z] at h
      cases h
      rw [eq_of_beq z]; exact List.mem_cons_self
    · simp only [List.lookup, z] at h
      exact List.mem_cons_of_mem _ (ih h)
theorem rt_meth {tab : List (String × DF)} {m : Str} {ta : TE} {t : TA} {mo ms : EM} (ra : RT K W ta mo) (r : RTA K W t ms) : RT K W (tMethG K tab m W ta t) (eMeth tab m mo ms) := by
  intro H0 w Γ σ ok f0 Q q
  unfold eMeth at q
  by_cases hT : tab = []
  · rw [if_pos hT] at q; exact q.elim
  rw [if_neg hT] at q
  cases e : mo Γ w.st with
  | no => rw [e] at q; exact q.elim
  | err x st =>
    cases tab with
    | nil => exact absurd rfl hT
    | cons p ps =>
      refine ⟨p, List.mem_cons_self, ra H0 w Γ σ ok f0 _ ?_⟩
      rw [e] at q ⊢; exact q
  | ok o s1 =>
    rw [e, ok_bind] at q
    cases hd : deref s1 o with
    | ins C fs =>
      rw [hd] at q
      dsimp only at q
      by_cases hm : (fs.lookup m).isNone = true
      · rw [if_pos hm] at q
        cases hF : tab.lookup C with
        | none => rw [hF] at q; exact q.elim
        | some F =>
          rw [hF] at q
          dsimp only at q
          refine ⟨(C, F), lookup_mem hF, ra H0 w Γ σ ok f0 _ ?_⟩
          rw [e]
          intro v w1 e1 k1 s1' rv
          have vw := rv.vw k1
          rw [s1', hd] at vw
          obtain ⟨a, dx, vs, rfl, hH, rp⟩ := vw
          refine ⟨a, dx, vs, rfl, hH, rp.look0 m (Option.isNone_iff_eq_none.mp hm), ?_⟩
          have q1 : PostE K w1 ((ms Γ w1.st).bind fun d s2 => match d with | .tup ds => F (o :: ds) s2 | _ => .no) Q (at_ W σ) := by rw [s1']; exact PostE.shift e1 k1 q
          refine RTA.use (P := fun w r => PostE K w r Q (at_ W σ)) r k1 (f0.evo e1) (fun _ _ e k p => p.shift e k) (fun _ _ p => p) (fun p => p) (fun d st hb => by cases d <;> first | rfl | exact absurd rfl (hb _)) q1 fun ds vs' w2 e2 k2 f2 r2 p2 => ?_
          exact ⟨w2, o :: ds, rfl, k2, .cons (rv.evo e2) r2, p2⟩
      · rw [if_neg hm] at q; exact q.elim
    | _ => rw [hd] at q; exact q.elim
theorem pr_meth {j : Nat} {m : Str} {tab : List (String × DF)} {o e : Expr} {es : List Expr} {mo ms : EM} {pl : PySem.Env → Sem Bool} {apos pos : Pos} (T : ∀ p ∈ tab, MethOK P wd K mg base j p.1 m p.2) (ho : PR P wd K mg base k N sc W o mo) (ha : PAr P wd K mg base k N sc W (e :: es) ms) (hk : j ≤ k := by omega)
    (hst : ∀ env, starEach (e :: es) env = (false, eval e env) :: starEach es env := by intro _; rfl) (hpl : ∀ env, (backTo pos (starEach es env)).any (·.1) = false := by intro _; rfl)
    (ht : ∀ env, eval (.Call (.Attribute o m apos) (e :: es) [] pos) env = (do
      let ov ← eval o env
      standAt apos.atName
      let (f, first) ← holding [ov] (getMethod ov m (pl env))
      callWith pos f first (backTo pos (starEach (e :: es) env)) (backToKw pos (keywordEach [] env))) := by intro _; rfl) :
    PR P wd K mg base k N sc W (.Call (.Attribute o m apos) (e :: es) [] pos) (eMeth tab m mo ms) := by
  obtain ⟨ta, pa, ra⟩ := ho
  obtain ⟨t, pt, r⟩ := ha
  refine ⟨tMethG K tab m W ta t, fun X g => ⟨fun pins s σ H Q I h => ?_⟩, rt_meth ra r⟩
  have pX := pa X g
  have aX := pt X g
  obtain ⟨rfl, rfl, rfl, rfl, rfl, rfl, hsc, hc, hr, hgd, tk, _, _⟩ := g
  obtain ⟨p, hp, h⟩ := h
  obtain ⟨c, gf, fd, ps, F, hm, hb⟩ := T p hp
  refine PySem.W.methodCall_KW (pl := pl X.env) (thn (pX.run pins s σ H _ I h) fun u s1 ⟨x, H1, I1, rx, a, dx, fs, ex, ea, l, q⟩ => ?_) (ht X.env)
  subst ex
  obtain rfl : u = Value.ref a := rx
  refine getmeth_ok I1 ea c hm l ?_
  refine PySem.W.callWith_K (first := [.ref a]) (h₀ := X.base) I.ok.mod.kin hm.kp (thn (aX.run pos pins s1 σ H1 _ I1 q) fun us s2 ⟨vs, H2, I2, r, q2⟩ => ⟨I2.kIn, ?_⟩) (hst X.env) (hpl X.env)
  exact run_g (us := .ref a :: us) (vs := .ref a :: vs) F ⟨hr.mono hk, hgd⟩ hb tk I2 (.cons rfl r) q2
theorem pr_meth0 {j : Nat} {m : Str} {tab : List (String × DF)} {o : Expr} {mo : EM} {pl : PySem.Env → Sem Bool} {apos pos : Pos} (T : ∀ p ∈ tab, MethOK P wd K mg base j p.1 m p.2) (ho : PR P wd K mg base k N sc W o mo) (hk : j ≤ k := by omega)
    (ht : ∀ env, eval (.Call (.Attribute o m apos) [] [] pos) env = (do
      let ov ← eval o env
      standAt apos.atName
      let (f, first) ← holding [ov] (getMethod ov m (pl env))
      callWith pos f first (backTo pos (starEach [] env)) (backToKw pos (keywordEach [] env))) := by intro _; rfl) :
    PR P wd K mg base k N sc W (.Call (.Attribute o m apos) [] [] pos) (eMeth tab m mo eNil) := by
  obtain ⟨ta, pa, ra⟩ := ho
  obtain ⟨t, pt, r⟩ := (pa_nil' : PAr P wd K mg base k N sc W [] eNil)
  refine ⟨tMethG K tab m W ta tNil, fun X g => ⟨fun pins s σ H Q I h => ?_⟩, rt_meth ra fun H0 w Γ σ ok f Q p => p [] w (Evo.refl w) ok rfl .nil⟩
  have pX := pa X g
  obtain ⟨rfl, rfl, rfl, rfl, rfl, rfl, hsc, hc, hr, hgd, tk, _, _⟩ := g
  obtain ⟨p, hp, h⟩ := h
  obtain ⟨c, gf, fd, ps, F, hm, hb⟩ := T p hp
  refine PySem.W.methodCall_KW (pl := pl X.env) (thn (pX.run pins s σ H _ I h) fun u s1 ⟨x, H1, I1, rx, a, dx, fs, ex, ea, l, q⟩ => ?_) (ht X.env)
  subst ex
  obtain rfl : u = Value.ref a := rx
  refine getmeth_ok I1 ea c hm l ?_
  exact PySem.W.callWith_K0 (first := [.ref a]) I1.kIn hm.kp (run_g (us := [.ref a]) (vs := [.ref a]) F ⟨hr.mono hk, hgd⟩ hb tk I1 (.cons rfl .nil) q)
/-! #### properties -/
def tPropG (K : PySem.W.Frag) (tab : List (String × DF)) (ta : TE) : TE := fun σ H Q => ∃ p ∈ tab, ta σ H fun x H1 => ∃ a dx fs, x = .ref a ∧ H1 a = some (.ins (cA K p.1) dx fs) ∧ spD K p.2 [.ref a] H1 Q fun _ _ _ => False
def eProp (tab : List (String × DF)) (mo : EM) : EM := fun Γ st => if tab = [] then .no else (mo Γ st).bind fun o s1 => match deref s1 o with
  | .ins C _ => (match tab.lookup C with
      | some F => (match F [o] s1 with | .ok d s2 => .ok d s2 | _ => .no)
      | none => .no)
  | _ => .no
theorem rt_prop {tab : List (String × DF)} {ta : TE} {mo : EM} (ra : RT K W ta mo) : RT K W (tPropG K tab ta) (eProp tab mo) := by
  intro H0 w Γ σ ok f0 Q q
  unfold eProp at q
  by_cases hT : tab = []
  · rw [if_pos hT] at q; exact q.elim
  rw [if_neg hT] at q
  cases e : mo Γ w.st with
  | no => rw [e] at q; exact q.elim
  | err x st =>
    cases tab with
    | nil => exact absurd rfl hT
    | cons p ps =>
      refine ⟨p, List.mem_cons_self, ra H0 w Γ σ ok f0 _ ?_⟩
      rw [e] at q ⊢; exact q
  | ok o s1 =>
    rw [e, ok_bind] at q
    cases hd : deref s1 o with
    | ins C fs =>
      rw [hd] at q
      dsimp only at q
      cases hF : tab.lookup C with
      | none => rw [hF] at q; exact q.elim
      | some F =>
        rw [hF] at q
        dsimp only at q
        refine ⟨(C, F), lookup_mem hF, ra H0 w Γ σ ok f0 _ ?_⟩
        rw [e]
        intro v w1 e1 k1 s1' rv
        have vw := rv.vw k1
        rw [s1', hd] at vw
        obtain ⟨a, dx, vs, rfl, hH, rp⟩ := vw
        refine ⟨a, dx, vs, rfl, hH, w1, [o], rfl, k1, .cons rv .nil, ?_⟩
        show PostE K w1 (F [o] w1.st) Q _
        rw [s1']
        cases hr : F [o] s1 with
        | ok d s2 => rw [hr] at q; exact PostE.shift (r := .ok d s2) e1 k1 q
        | err x s2 => rw [hr] at q; exact q.elim
        | no => rw [hr] at q; exact q.elim
    | _ => rw [hd] at q; exact q.elim
theorem pr_prop {j : Nat} {m : Str} {tab : List (String × DF)} {o : Expr} {mo : EM} {pos : Pos} (T : ∀ p ∈ tab, PropOK P wd K mg base j p.1 m p.2) (ho : PR P wd K mg base k N sc W o mo) (hk : j + 1 ≤ k := by omega)
    (hb : ∀ env, attributeBase o m env (eval o env) = eval o env := by intro _; rfl) : PR P wd K mg base k N sc W (.Attribute o m pos) (eProp tab mo) := by
  obtain ⟨ta, pa, ra⟩ := ho
  refine ⟨tPropG K tab ta, fun X g => ⟨fun pins s σ H Q I h => ?_⟩, rt_prop ra⟩
  have pX := pa X g
  obtain ⟨rfl, rfl, rfl, rfl, rfl, rfl, hsc, hc, hr, hgd, tk, _, _⟩ := g
  obtain ⟨p, hp, h⟩ := h
  obtain ⟨c, gf, pf, fd, ps, F, hm, hbd⟩ := T p hp
  refine attr_of (hb X.env) (thn (pX.run pins s σ H _ I h) fun u s1 ⟨x, H1, I1, rx, a, dx, fs, ex, ea, q⟩ => ?_)
  subst ex
  obtain rfl : u = Value.ref a := rx
  exact getprop_g I1 ea c hm F ⟨hr.mono hk, hgd⟩ hbd q
/-! #### new objects -/
def tMakeG (K : PySem.W.Frag) (C : String) (F : DF) (W : WX) (t : TA) : TE := fun σ H Q => t σ H fun vs H1 => ∀ x dx, H1 x = none → H1 dx = none → dx ≠ x →
  spD K F (.ref x :: vs) (upd (upd H1 dx (.own x)) x (.ins (cA K C) dx [])) (fun v H2 => v = .non ∧ Q (.ref x) H2) (WE W σ)
/-- an object of the store is sealed: from then on it is read only -/
theorem sealO {w1 w' : Wd} {l : Nat} {C : String} {fs : List (Str × D)} (e : Evo w1 w') (k : Ok K w') (hx : w1.H (w'.ρ l) = none) (h : w'.st[l]? = some (.ins C fs)) : ∃ w2 : Wd, w2.H = w'.H ∧ w2.st = w'.st.set l .tomb ∧ Evo w1 w2 ∧ Ok K w2 ∧ Rep K w2 (.ref (w'.ρ l)) (.ins C fs) := by
  obtain ⟨o, h1, h2, h3⟩ := k.live h (by simp)
  have h3' := h3
  obtain ⟨dx, vs, rfl, rp⟩ := h3'
  have hl := getElem?_lt h
  have x : Ext w' { w' with M := upd w'.M (w'.ρ l) (.ins (cA K C) dx vs), st := w'.st.set l .tomb } := ⟨fun b u q => by show upd w'.M _ _ b = _; rw [upd_ne (ne_of_none q h2)]; exact q, fun _ _ => rfl, by show _ ≤ (w'.st.set l D.tomb).length; simp⟩
  refine ⟨{ w' with M := upd w'.M (w'.ρ l) (.ins (cA K C) dx vs), st := w'.st.set l .tomb }, rfl, rfl, ⟨(e.ext.trans x).mono, e.rho, (e.ext.trans x).le, fun b u q n => ?_, fun m a b => ?_, e.keep⟩, ⟨fun b u q => ?_, fun m d q => ?_, fun a b ha hb => ?_⟩, ?_⟩
  · by_cases z : b = w'.ρ l
    · rw [z]; exact hx
    · have q' : upd w'.M (w'.ρ l) _ b = some u := q
      rw [upd_ne z] at q'; exact e.newM b u q' n
  · have b' : m < (w'.st.set l D.tomb).length := b
    simp at b'
    exact e.newR m a b'
  · have q' : upd w'.M (w'.ρ l) _ b = some u := q
    by_cases z : b = w'.ρ l
    · rw [z, upd_same] at q'; cases q'; rw [z]; exact h1
    · rw [upd_ne z] at q'; exact k.ex b u q'
  · have q' : (w'.st.set l D.tomb)[m]? = some d := q
    by_cases z : l = m
    · subst z
      rw [List.getElem?_set_self hl] at q'; cases q'
      exact ⟨_, h1, .inl rfl⟩
    · rw [List.getElem?_set_ne z] at q'
      obtain ⟨u, g1, g2⟩ := k.sto m d q'
      refine ⟨u, g1, g2.imp id fun ⟨g2, g3⟩ => ⟨?_, g3.ext x⟩⟩
      show upd w'.M _ _ (w'.ρ m) = _
      rw [upd_ne (fun y => z (k.inj l m hl (getElem?_lt q') y.symm))]; exact g2
  · have ha' : a < (w'.st.set l D.tomb).length := ha
    have hb' : b < (w'.st.set l D.tomb).length := hb
    simp at ha' hb'
    exact k.inj a b ha' hb'
  · have rp' := rp.ext x
    exact .ins (by show upd _ _ _ _ = _; exact upd_same) rp'.1 rp'.2
def eMakeR (C : String) (F : DF) (ms : EM) : EM := fun Γ st => (ms Γ st).bind fun d s => match d with
  | .tup ds => (match F (.ref s.length :: ds) (s ++ [.ins C []]) with
    | .ok .non s2 => .ok (.ref s.length) s2
    | .err x s2 => .err x s2
    | _ => .no)
  | _ => .no
def eMake (C : String) (F : DF) (ms : EM) : EM := fun Γ st => (ms Γ st).bind fun d s => match d with
  | .tup ds => (match F (.ref s.length :: ds) (s ++ [.ins C []]) with
    | .ok .non s2 => (match s2[s.length]? with | some (.ins C' fs) => .ok (.ins C' fs) (s2.set s.length .tomb) | _ => .no)
    | .err x s2 => .err x s2
    | _ => .no)
  | _ => .no
theorem make_start {w1 : Wd} (k1 : Ok K w1) {C : String} {x dx : Addr} (hx : w1.H x = none) (hd : w1.H dx = none) (ne : dx ≠ x) : ∃ w2 : Wd, w2.H = upd (upd w1.H dx (.own x)) x (.ins (cA K C) dx []) ∧ w2.st = w1.st ++ [.ins C []] ∧ Evo w1 w2 ∧ Ok K w2 ∧ w2.ρ w1.st.length = x := by
  have e1 := evo_al k1 (.own x) hd
  have o1 := ok_al k1 (.own x) (k1.none hd) (k1.noR hd)
  have hx1 : (w1.al dx (.own x)).H x = none := by show upd _ _ _ _ = _; rw [upd_ne (Ne.symm ne)]; exact hx
  have e2 := evo_al o1 (.ins (cA K C) dx []) hx1
  have o2 := ok_al o1 (.ins (cA K C) dx []) (o1.none hx1) (o1.noR hx1)
  obtain ⟨e3, _, o3⟩ := push_ok (w0 := w1) (a := x) (d := .ins C []) (e1.trans o1 e2) o2 hx (show upd _ _ _ _ = _ from upd_same) (o1.none hx1) (o1.noR hx1) ⟨dx, [], rfl, .nil⟩
  exact ⟨_, rfl, rfl, e3, o3, by show (if w1.st.length = w1.st.length then x else _) = _; rw [if_pos rfl]⟩
theorem rt_makeR {C : String} {F : DF} {t : TA} {ms : EM} (r : RTA K W t ms) : RT K W (tMakeG K C F W t) (eMakeR C F ms) := by
  intro H0 w Γ σ ok f0 Q q
  refine RTA.use (P := fun w r => PostE K w r Q (at_ W σ)) r ok f0 (fun _ _ e k p => p.shift e k) (fun _ _ p => p) (fun p => p) (fun d st hb => by cases d <;> first | rfl | exact absurd rfl (hb _)) q fun ds vs w1 e1 k1 f1 r1 p1 => ?_
  intro x dx hx hd ne
  obtain ⟨w2, h1, h2, e2, k2, hr⟩ := make_start (C := C) k1 hx hd ne
  have hl : w1.st.length < w2.st.length := by rw [h2]; simp
  have rr : Rep K w2 (.ref x) (.ref w1.st.length) := by rw [← hr]; exact .ref hl
  refine ⟨w2, .ref w1.st.length :: ds, h1, k2, .cons rr (r1.evo e2), ?_⟩
  rw [h2]
  have p1' : PostE K w1 (match F (.ref w1.st.length :: ds) (w1.st ++ [.ins C []]) with | .ok .non s2 => .ok (.ref w1.st.length) s2 | .err x s2 => .err x s2 | _ => .no) Q (at_ W σ) := p1
  cases e : F (.ref w1.st.length :: ds) (w1.st ++ [.ins C []]) with
  | no => rw [e] at p1'; exact p1'.elim
  | err y s2 => rw [e] at p1'; exact fun c dd w3 e3 k3 s3 rx => p1' c dd w3 (e2.trans k2 e3) k3 s3 rx
  | ok d s2 =>
    rw [e] at p1'
    cases d with
    | non =>
      intro v w3 e3 k3 s3 rv
      cases rv
      exact ⟨rfl, p1' (.ref x) w3 (e2.trans k2 e3) k3 s3 (rr.evo e3)⟩
    | _ => exact p1'.elim
theorem rt_make {C : String} {F : DF} {t : TA} {ms : EM} (r : RTA K W t ms) : RT K W (tMakeG K C F W t) (eMake C F ms) := by
  intro H0 w Γ σ ok f0 Q q
  refine RTA.use (P := fun w r => PostE K w r Q (at_ W σ)) r ok f0 (fun _ _ e k p => p.shift e k) (fun _ _ p => p) (fun p => p) (fun d st hb => by cases d <;> first | rfl | exact absurd rfl (hb _)) q fun ds vs w1 e1 k1 f1 r1 p1 => ?_
  intro x dx hx hd ne
  obtain ⟨w2, h1, h2, e2, k2, hr⟩ := make_start (C := C) k1 hx hd ne
  have hl : w1.st.length < w2.st.length := by rw [h2]; simp
  have rr : Rep K w2 (.ref x) (.ref w1.st.length) := by rw [← hr]; exact .ref hl
  refine ⟨w2, .ref w1.st.length :: ds, h1, k2, .cons rr (r1.evo e2), ?_⟩
  rw [h2]
  have p1' : PostE K w1 (match F (.ref w1.st.length :: ds) (w1.st ++ [.ins C []]) with | .ok .non s2 => (match s2[w1.st.length]? with | some (.ins C' fs) => .ok (.ins C' fs) (s2.set w1.st.length .tomb) | _ => .no) | .err x s2 => .err x s2 | _ => .no) Q (at_ W σ) := p1
  cases e : F (.ref w1.st.length :: ds) (w1.st ++ [.ins C []]) with
  | no => rw [e] at p1'; exact p1'.elim
  | err y s2 => rw [e] at p1'; exact fun c dd w3 e3 k3 s3 rx => p1' c dd w3 (e2.trans k2 e3) k3 s3 rx
  | ok d s2 =>
    rw [e] at p1'
    cases d with
    | non =>
      intro v w3 e3 k3 s3 rv
      cases rv
      refine ⟨rfl, ?_⟩
      dsimp only at p1'
      split at p1'
      · rename_i C' fs hs
        rw [← s3] at hs p1'
        have hρ : w3.ρ w1.st.length = x := (e3.rho _ hl).trans hr
        obtain ⟨w4, g1, g2, g3, g4, g5⟩ := sealO (e2.trans k2 e3) k3 (by rw [hρ]; exact hx) hs
        rw [hρ] at g5
        rw [← g1]
        exact p1' (.ref x) w4 g3 g4 g2 g5
      · exact p1'.elim
    | _ => exact p1'.elim
theorem pe_makeG {X : Cx} {j : Nat} {C : String} {F : DF} {e : Expr} {es : List Expr} {t : TA} {p pos : Pos} (g : G P wd K mg base k N sc W X) (M : MakeOK P wd K mg base j C F) (pa : PA X (e :: es) t) (hk : j + 1 ≤ k) (hg : sc.s.names.lookup (Str.ofString C) = some .globalImplicit)
    (hdb : (Str.ofString C == ("__debug__" : Str)) = false) (he : ∀ env, starEach (e :: es) env = (false, eval e env) :: starEach es env) (hpl : ∀ env, (backTo pos (starEach es env)).any (·.1) = false) :
    PE X (.Call (.Name (Str.ofString C) p) (e :: es) [] pos) (tMakeG K C F W t) := by
  obtain ⟨rfl, rfl, rfl, rfl, rfl, rfl, hsc, hc, hr, hgd, tk, _, _⟩ := g
  obtain ⟨hm, gf, fd, ps, F1, M1, hb⟩ := M
  refine ⟨fun pins s σ H Q I h => ?_⟩
  refine wpAny_Call_Name_kw (ld_glob I (by unfold Gl PySem.Env.kindOf; rw [hsc]; exact hg) hm ?_ hdb)
  refine PySem.W.callWith_K (h₀ := X.base) I.ok.mod.kin M1.kp (thn (pa.run pos pins s σ H _ I h) fun us s1 ⟨vs, H1, I1, r, q⟩ => ⟨I1.kIn, ?_⟩) (he X.env) (hpl X.env)
  exact run_makeG M1 F1 ⟨hr.mono hk, hgd⟩ hb tk I1 r q
theorem pr_make {j : Nat} (C : String) {F : DF} {e : Expr} {es : List Expr} {ms : EM} {p pos : Pos} (M : MakeOK P wd K mg base j C F) (ha : PAr P wd K mg base k N sc W (e :: es) ms) (hk : j + 1 ≤ k := by omega) (hg : sc.s.names.lookup (Str.ofString C) = some .globalImplicit := by rfl)
    (hdb : (Str.ofString C == ("__debug__" : Str)) = false := by decide) (he : ∀ env, starEach (e :: es) env = (false, eval e env) :: starEach es env := by intro _; rfl) (hpl : ∀ env, (backTo pos (starEach es env)).any (·.1) = false := by intro _; rfl) :
    PR P wd K mg base k N sc W (.Call (.Name (Str.ofString C) p) (e :: es) [] pos) (eMake C F ms) := by
  obtain ⟨t, pt, r⟩ := ha
  exact ⟨_, fun X g => pe_makeG g M (pt X g) hk hg hdb he hpl, rt_make r⟩
theorem pr_makeR {j : Nat} (C : String) {F : DF} {e : Expr} {es : List Expr} {ms : EM} {p pos : Pos} (M : MakeOK P wd K mg base j C F) (ha : PAr P wd K mg base k N sc W (e :: es) ms) (hk : j + 1 ≤ k := by omega) (hg : sc.s.names.lookup (Str.ofString C) = some .globalImplicit := by rfl)
    (hdb : (Str.ofString C == ("__debug__" : Str)) = false := by decide) (he : ∀ env, starEach (e :: es) env = (false, eval e env) :: starEach es env := by intro _; rfl) (hpl : ∀ env, (backTo pos (starEach es env)).any (·.1) = false := by intro _; rfl) :
    PR P wd K mg base k N sc W (.Call (.Name (Str.ofString C) p) (e :: es) [] pos) (eMakeR C F ms) := by
  obtain ⟨t, pt, r⟩ := ha
  exact ⟨_, fun X g => pe_makeG g M (pt X g) hk hg hdb he hpl, rt_makeR r⟩
end
end DL
namespace DL
open PySem L2
section
variable {P : Program} {wd : World} {K : PySem.W.Frag} {mg : Str → Option Value} {base : Heap} {k : Nat} {N : List Str} {sc : SC} {W : WX}
/-! ### what is never reached -/
def eNo : EM := fun _ _ => .no
def sNo : SM := fun _ _ => .no
theorem pr_no {e : Expr} : PR P wd K mg base k N sc W e eNo := ⟨fun _ _ _ => False, fun X g => ⟨fun _ _ _ _ _ _ h => h.elim⟩, fun H0 w Γ σ ok f Q p => p⟩
theorem pt_no {e : Expr} : PTt P wd K mg base k N sc W e eNo := ⟨fun _ _ _ => False, fun X g => ⟨fun _ _ _ _ _ _ h => h.elim⟩, fun H0 w Γ σ ok f Q p => p⟩
theorem ps_no {s : Stmt} : PSt P wd K mg base k N sc W s sNo := ⟨fun _ _ _ => False, fun X g => ⟨fun _ _ _ _ _ _ h => h.elim⟩, fun w0 w Γ σ e ok f D p => p⟩
/-! ### a < b < c -/
def eChain (f g : D → D → Store → ER) (ma mb mc : EM) : EM := fun Γ st => (ma Γ st).bind fun x s1 => (mb Γ s1).bind fun y s2 => (f (deref s2 x) (deref s2 y) s2).bind fun z s3 => match z with
  | .bl true => (mc Γ s3).bind fun u s4 => g (deref s4 y) (deref s4 u) s4
  | .bl false => .ok (.bl false) s3
  | _ => .no
theorem rt_chain {r r' : R2} {f g : D → D → Store → ER} {ta tb tc : TE} {ma mb mc : EM} (h : OpD K r f) (h' : OpD K r' g) (ra : RB K W ta ma) (rb : RB K W tb mb) (rc : RB K W tc mc) : RT K W (tChain r r' ta tb tc) (eChain f g ma mb mc) := by
  intro H0 w Γ σ ok f0 Q p
  refine ra.use ok f0 (P := fun w r => PostE K w r Q (at_ W σ)) (fun _ _ e k p => p.shift e k) (fun _ _ p => p) (fun p => p) p fun dx x w1 e1 k1 f1 vx p1 => ?_
  refine rb.use k1 f1 (P := fun w r => PostE K w r Q (at_ W σ)) (fun _ _ e k p => p.shift e k) (fun _ _ p => p) (fun p => p) p1 fun dy y w2 e2 k2 f2 vy p2 => ?_
  refine h w2 x y _ _ _ (at_ W σ) k2 ((vx.evo e2).vw k2 f2) (vy.vw k2 f2) ?_
  have p2' : PostE K w2 ((f (deref w2.st dx) (deref w2.st dy) w2.st).bind _) Q (at_ W σ) := p2
  cases e : f (deref w2.st dx) (deref w2.st dy) w2.st with
  | no => rw [e] at p2'; exact p2'
  | err z s3 => rw [e] at p2'; exact p2'
  | ok z s3 =>
    rw [e, ok_bind] at p2'
    intro v w3 e3 k3 s3' rv
    subst s3'
    cases rv with
    | @bl b =>
      refine ⟨b, rfl, ?_⟩
      have p3 := PostE.shift e3 k3 p2'
      cases b with
      | true =>
        refine iteT ?_
        refine rc.use k3 (f2.evo e3) (P := fun w r => PostE K w r Q (at_ W σ)) (fun _ _ e k p => p.shift e k) (fun _ _ p => p) (fun p => p) p3 fun du u w4 e4 k4 f4 vu p4 => ?_
        exact h' w4 y u _ _ Q _ k4 (((vy.evo e3).evo e4).vw k4 f4) (vu.vw k4 f4) p4
      | false => exact iteF (p3.now k3 .bl)
    | _ => exact p2'.elim
theorem pr_chain {op op' : CmpOp} {r r' : R2} {f g : D → D → Store → ER} {a b c : Expr} {ma mb mc : EM} {pos : Pos} (ho : ∀ X, G P wd K mg base k N sc W X → OpR X (compareOp op) r) (h : OpD K r f) (ho' : ∀ X, G P wd K mg base k N sc W X → OpR X (compareOp op') r') (h' : OpD K r' g)
    (ha : PB P wd K mg base k N sc W a ma) (hb : PB P wd K mg base k N sc W b mb) (hc : PB P wd K mg base k N sc W c mc) (hm : lastMarks [op, op'] [b, c] = false := by with_unfolding_all rfl) : PR P wd K mg base k N sc W (.Compare a [op, op'] [b, c] pos) (eChain f g ma mb mc) := by
  obtain ⟨ta, pa, ra⟩ := ha
  obtain ⟨tb, pb, rb⟩ := hb
  obtain ⟨tc, pc, rc⟩ := hc
  exact ⟨_, fun X g => pe_chain (ho X g) (ho' X g) (pa X g) (pb X g) (pc X g) hm, rt_chain h h' ra rb rc⟩
theorem pt_chain' {op op' : CmpOp} {r r' : R2} {f g : D → D → Store → ER} {a b c : Expr} {ma mb mc : EM} {pos : Pos} (ho : ∀ X, G P wd K mg base k N sc W X → OpR X (compareOp op) r) (h : OpD K r f) (ho' : ∀ X, G P wd K mg base k N sc W X → OpR X (compareOp op') r') (h' : OpD K r' g)
    (ha : PB P wd K mg base k N sc W a ma) (hb : PB P wd K mg base k N sc W b mb) (hc : PB P wd K mg base k N sc W c mc) (hm : lastMarks [op, op'] [b, c] = false := by with_unfolding_all rfl) : PTt P wd K mg base k N sc W (.Compare a [op, op'] [b, c] pos) (eChain f g ma mb mc) := by
  obtain ⟨ta, pa, ra⟩ := ha
  obtain ⟨tb, pb, rb⟩ := hb
  obtain ⟨tc, pc, rc⟩ := hc
  exact ⟨_, fun X g => pt_chain (ho X g) (ho' X g) (pa X g) (pb X g) (pc X g) hm, rtt_test (rt_chain h h' ra rb rc)⟩
theorem X_lt (X : Cx) (_ : G P wd K mg base k N sc W X) : OpR X (compareOp .Lt) (rOr (rI0 fun i j => .bl (decide (i < j))) (fun x y H Q => ∃ i j, x = .str i ∧ y = .str j ∧ Q (.bl (decide (i.cps.toList < j.cps.toList))) H)) := OpR.or' op_lt op_lt_str
theorem X_le (X : Cx) (_ : G P wd K mg base k N sc W X) : OpR X (compareOp .LtE) (rOr (rI0 fun i j => .bl (decide (i ≤ j))) (fun x y H Q => ∃ i j, x = .str i ∧ y = .str j ∧ Q (.bl (!decide (j.cps.toList < i.cps.toList))) H)) := OpR.or' op_le op_le_str

/-! ### dict comprehensions -/
def dcL (mg : GM) (mt mk me : EM) : List D → DEnv → Store → List (Key × D) → ER
  | [], _, st, acc => .ok (.dct acc) st
  | d :: ds, Γ, st, acc => match mg d Γ with
    | none => .no
    | some Γ1 => match mt Γ1 st with
      | .ok (.bl true) s1 => match mk Γ1 s1 with
        | .ok ky s2 => match keyD ky with
          | some kk => match me Γ1 s2 with
            | .ok x s3 => if acc.length < 16777216 then dcL mg mt mk me ds Γ s3 (putD acc kk x) else .no
            | _ => .no
          | none => .no
        | _ => .no
      | .ok (.bl false) s1 => dcL mg mt mk me ds Γ s1 acc
      | _ => .no
def eDc (vs : List Nat) (mi : EM) (mg : GM) (mt mk me : EM) : EM := fun Γ st => (mi Γ st).bind fun d s => match d with | .tup ds => dcL mg mt mk me ds (wipeE Γ vs) s [] | _ => .no
theorem rtn_dc {wi : TI} {g : TG} {tt : TT} {tk te : TE} {mi mt mk me : EM} {mg' : GM} {is vs : List Nat} (hi : RTI K W wi mi) (hg : RTG K g mg' is) (his : ∀ i ∈ is, i ∈ vs) (ht : RTT K WF tt mt) (hkk : RT K WF tk mk) (he : RT K WF te me) : RTN K W (tDc wi g tt tk te vs) (eDc vs mi mg' mt mk me) := by
  intro H0 w Γ σ ok f Q p
  refine hi H0 w Γ σ ok f _ ?_
  have p' : PostN K w ((mi Γ w.st).bind _) Q (at_ W σ) := p
  cases h : mi Γ w.st with
  | no => rw [h] at p'; exact p'
  | err x st => rw [h] at p'; exact p'
  | ok d st =>
    rw [h] at p'
    cases d with
    | tup ds =>
      intro J w' ev k' s it
      subst s
      have p1 : PostN K w' (dcL mg' mt mk me ds (wipeE Γ vs) w'.st []) Q (at_ W σ) := PostN.shift ev k' p'
      have f' := f.evo ev
      intro D hD
      have a0 := evo_al k' (.dK []) hD
      have o0 := ok_al k' (.dK []) (k'.none hD) (k'.noR hD)
      refine ⟨fun i m H => ∃ (w1 : Wd) (acc : List (Key × V)) (acd : List (Key × DL.D)), H = w1.H ∧ Evo w' w1 ∧ Ok K w1 ∧ w1.H D = some (.dK acc) ∧ w1.M D = none ∧ (∀ l, l < w1.st.length → w1.ρ l ≠ D) ∧ RepP K w1 acc acd ∧ m = ds.length - i ∧ i ≤ ds.length ∧ PostN K w' (dcL mg' mt mk me (ds.drop i) (wipeE Γ vs) w1.st acd) Q (at_ W σ),
        ⟨ds.length, w'.al D (.dK []), [], [], rfl, a0, o0, upd_same, k'.none hD, k'.noR hD, .nil, rfl, Nat.zero_le _, p1⟩, ?_⟩
      rintro i m H ⟨w1, acc, acd, rfl, e1, k1, hd1, hm1, hr1, ra, rfl, hle, q⟩
      obtain ⟨go, stop⟩ := it i w1 e1.ext k1
      cases hd : ds[i]? with
      | none =>
        refine .inl ⟨stop hd, ?_⟩
        rw [List.drop_eq_nil_of_le (List.getElem?_eq_none_iff.mp hd)] at q
        exact q D _ w1 e1 k1 rfl hD hd1 hm1 hr1 ⟨acc, rfl, ra⟩
      | some d =>
        obtain ⟨g1, g2⟩ := go d hd
        have hl := getElem?_lt hd
        refine .inr ⟨g1, fun H => ∃ (w1 : Wd) (acc : List (Key × V)) (acd : List (Key × DL.D)), H = w1.H ∧ Evo w' w1 ∧ Ok K w1 ∧ w1.H D = some (.dK acc) ∧ w1.M D = none ∧ (∀ l, l < w1.st.length → w1.ρ l ≠ D) ∧ RepP K w1 acc acd ∧ PostN K w' (dcL mg' mt mk me (ds.drop (i + 1)) (wipeE Γ vs) w1.st acd) Q (at_ W σ), ?_, fun x H2 y => ?_⟩
        · rintro H' ⟨w3, acc3, acd3, rfl, b1, b2, b3, b4, b5, b6, b7⟩
          exact ⟨ds.length - (i + 1), by omega, w3, acc3, acd3, rfl, b1, b2, b3, b4, b5, b6, rfl, hl, b7⟩
        · obtain ⟨w2, rfl, s2, e2, k2, r2⟩ := g2 x H2 y
          rw [List.drop_eq_getElem_cons hl] at q
          have hd' : ds[i] = d := by rw [List.getElem?_eq_getElem hl] at hd; exact Option.some.inj hd
          rw [hd'] at q
          unfold dcL at q
          have fw : Fr K H0 w2 (wipeE Γ vs) (wipe σ vs) := ((fr_wipe f' vs).evo e1).evo e2
          have stand : ∀ {w3 w4 : Wd}, Evo w3 w4 → w3.H D = some (.dK acc) → w3.M D = none → (∀ l, l < w3.st.length → w3.ρ l ≠ D) → w4.H D = some (.dK acc) ∧ w4.M D = none ∧ ∀ l, l < w4.st.length → w4.ρ l ≠ D := fun {w3 w4} e h1 h2 h3 => by
            refine ⟨e.keep D _ h1 h2 h3, ?_, fun l hl z => ?_⟩
            · cases z : w4.M D with
              | none => rfl
              | some u => have y := e.newM D u z h2; rw [h1] at y; cases y
            · by_cases z2 : l < w3.st.length
              · exact h3 l z2 ((e.rho l z2).symm.trans z)
              · have y := e.newR l (Nat.le_of_not_lt z2) hl
                rw [z, h1] at y; cases y
          cases h1 : mg' d (wipeE Γ vs) with
          | none => rw [h1] at q; exact q.elim
          | some Γ2 =>
            rw [h1] at q
            dsimp only at q
            refine hg H0 w2 _ Γ2 _ x d k2 fw r2 h1 _ fun σ2 f2 wp => ⟨(wp vs his).trans (wipe_wipe vs), ?_⟩
            refine ht H0 w2 Γ2 σ2 k2 f2 _ ?_
            rw [s2]
            obtain ⟨c1, c2, c3⟩ := stand e2 hd1 hm1 hr1
            cases h2 : mt Γ2 w1.st with
            | no => rw [h2] at q; exact q.elim
            | err x st => rw [h2] at q; exact q.elim
            | ok b s1 =>
              rw [h2] at q
              cases b with
              | bl b =>
                intro w3 e3 k3 s3
                obtain ⟨d1, d2, d3⟩ := stand e3 c1 c2 c3
                have e13 : Evo w' w3 := (e1.trans k1 e2).trans k2 e3
                cases b with
                | false =>
                  refine iteF ⟨w3, acc, acd, rfl, e13, k3, d1, d2, d3, (ra.evo e2).evo e3, ?_⟩
                  rw [s3]; exact q
                | true =>
                  refine iteT ?_
                  refine hkk H0 w3 Γ2 σ2 k3 (f2.evo e3) _ ?_
                  rw [s3]
                  dsimp only at q
                  cases h3 : mk Γ2 s1 with
                  | no => rw [h3] at q; exact q.elim
                  | err x st => rw [h3] at q; exact q.elim
                  | ok ky s4 =>
                    rw [h3] at q
                    dsimp only at q
                    cases hky : keyD ky with
                    | none => rw [hky] at q; exact q.elim
                    | some kk =>
                      rw [hky] at q
                      dsimp only at q
                      intro vk w4 e4 k4 s4' rvk
                      obtain ⟨y1, y2, y3⟩ := stand e4 d1 d2 d3
                      have hvk := keyD_rep rvk hky
                      refine he H0 w4 Γ2 σ2 k4 ((f2.evo e3).evo e4) _ ?_
                      rw [s4']
                      cases h4 : me Γ2 s4 with
                      | no => rw [h4] at q; exact q.elim
                      | err x st => rw [h4] at q; exact q.elim
                      | ok x' s5 =>
                        rw [h4] at q
                        dsimp only at q
                        intro v w5 e5 k5 s5' rv
                        obtain ⟨z1, z2, z3⟩ := stand e5 y1 y2 y3
                        by_cases hlen : acd.length < 16777216
                        · rw [if_pos hlen] at q
                          have ra5 := (((ra.evo e2).evo e3).evo e4).evo e5
                          refine ⟨acc, kk, hvk, z1, by rw [ra.len, sizeLine_eq]; exact hlen, w5.al D (.dK (putK acc kk v)), putK acc kk v, putD acd kk x', rfl, ?_, ok_al k5 _ z2 z3, upd_same, z2, z3, RepP.ext (w := w5) (w' := w5.al D _) ⟨fun _ _ h => h, fun _ _ => rfl, Nat.le_refl _⟩ (repP_put ra5 kk rv), ?_⟩
                          · have e15 := (e13.trans k3 e4).trans k4 e5
                            exact ⟨e15.mono, e15.rho, e15.le, e15.newM, e15.newR, fun b u hb hmb hrb => by
                              show upd w5.H D _ b = _
                              rw [upd_ne (ne_of_none hb hD)]; exact e15.keep b u hb hmb hrb⟩
                          · show PostN K w' (dcL mg' mt mk me _ _ w5.st _) Q _
                            rw [s5']; exact q
                        · rw [if_neg hlen] at q; exact q.elim
              | _ => exact q.elim
    | _ => exact p'.elim
theorem dcL_dct {mg' : GM} {mt mk me : EM} {d : DL.D} {s : Store} : ∀ (ds : List DL.D) (Γ : DEnv) (st : Store) (acc : List (Key × DL.D)), dcL mg' mt mk me ds Γ st acc = .ok d s → ∃ xs, d = .dct xs
  | [], Γ, st, acc, h => by cases h; exact ⟨_, rfl⟩
  | x :: ds, Γ, st, acc, h => by
    unfold dcL at h
    split at h
    · cases h
    · split at h
      · split at h
        · split at h
          · split at h
            · split at h
              · exact dcL_dct ds _ _ _ h
              · cases h
            · cases h
          · cases h
        · cases h
      · exact dcL_dct ds _ _ _ h
      · cases h
theorem isNew_dc {vs : List Nat} {mi mt mk me : EM} {mg' : GM} : IsNew (eDc vs mi mg' mt mk me) := fun Γ st d s h => by
  have h' : (mi Γ st).bind _ = .ok d s := h
  cases e : mi Γ st with
  | no => rw [e] at h'; cases h'
  | err x st => rw [e] at h'; cases h'
  | ok x s1 =>
    rw [e] at h'
    cases x with
    | tup ds => obtain ⟨xs, rfl⟩ := dcL_dct ds _ _ _ h'; trivial
    | _ => cases h'
theorem pn_dc {kx vx tg iter : Expr} {ifs : List Expr} {scope : Scope} {own : List (Str × Nat)} {pos : Pos} {mi mt mk me : EM} {mg' : GM} {is : List Nat} (nd : N.Nodup) (ok : BlkOk N sc.s scope own) (hi : PIt P wd K mg base k N sc W tg iter mi) (hg : PGt P wd K mg base k N (blkS scope sc) WF tg mg' is)
    (ht : PTj P wd K mg base k N (blkS scope sc) WF ifs mt) (hkk : PR P wd K mg base k N (blkS scope sc) WF kx mk) (he : PR P wd K mg base k N (blkS scope sc) WF vx me) (his : ∀ i ∈ is, i ∈ own.map (·.2) := by decide) (hs : ∀ env x, foldedSetIterable iter env x = pure x := by intro _ _; rfl) :
    PN P wd K mg base k N sc W (.DictComp kx vx [⟨tg, iter, ifs, 0⟩] scope pos) (eDc (own.map (·.2)) mi mg' mt mk me) := by
  obtain ⟨ti, pi, ri⟩ := hi
  obtain ⟨tg', pg, rg⟩ := hg
  obtain ⟨tt, pt, rt⟩ := ht
  obtain ⟨tk, pk, rk⟩ := hkk
  obtain ⟨te, pe, re⟩ := he
  exact ⟨_, fun X g => pe_dc g.calm (by rw [g.nn]; exact nd) (pi X g) (by rw [g.nn, g.scp]; exact ok) (fun s H C cl fp => pg _ (g_blk g)) (fun s H C cl fp => pt _ (g_blk g)) (fun s H C cl fp => pk _ (g_blk g)) (fun s H C cl fp => pe _ (g_blk g)) (hs X.env), rtn_dc ri rg his rt rk re⟩
theorem pr_dc {kx vx tg iter : Expr} {ifs : List Expr} {scope : Scope} {own : List (Str × Nat)} {pos : Pos} {mi mt mk me : EM} {mg' : GM} {is : List Nat} (nd : N.Nodup) (ok : BlkOk N sc.s scope own) (hi : PIt P wd K mg base k N sc W tg iter mi) (hg : PGt P wd K mg base k N (blkS scope sc) WF tg mg' is)
    (ht : PTj P wd K mg base k N (blkS scope sc) WF ifs mt) (hkk : PR P wd K mg base k N (blkS scope sc) WF kx mk) (he : PR P wd K mg base k N (blkS scope sc) WF vx me) (his : ∀ i ∈ is, i ∈ own.map (·.2) := by decide) (hs : ∀ env x, foldedSetIterable iter env x = pure x := by intro _ _; rfl) :
    PR P wd K mg base k N sc W (.DictComp kx vx [⟨tg, iter, ifs, 0⟩] scope pos) (eDc (own.map (·.2)) mi mg' mt mk me) := (pn_dc nd ok hi hg ht hkk he his hs).fz isNew_dc
end
end DL
namespace DL
open PySem L2
/-! ### sorted texts -/
def leS (a b : Str) : Bool := !PySem.Spec.ltCps b.cps.toList a.cps.toList
def srtS (xs : List Str) : List Str := xs.mergeSort leS
theorem leS_iff {a b : Str} : leS a b = true ↔ ¬ b.cps.toList < a.cps.toList := by
  unfold leS
  rw [PyProof.Rows.ltCps_eq]
  simp
theorem leS_trans (a b c : Str) (h : leS a b = true) (h' : leS b c = true) : leS a c = true := by
  rw [leS_iff, List.not_lt] at *
  exact List.le_trans h h'
theorem leS_total (a b : Str) : (leS a b || leS b a) = true := by
  by_cases h : leS a b = true
  · rw [h]; rfl
  · have h' : b.cps.toList < a.cps.toList := by
      rw [leS_iff] at h
      exact Classical.not_not.mp h
    have : leS b a = true := by
      rw [leS_iff]
      exact fun z => List.lt_irrefl _ (List.lt_trans h' z)
    rw [this, Bool.or_true]
theorem leS_anti (a b : Str) (h : leS a b = true) (h' : leS b a = true) : a = b := by
  rw [leS_iff, List.not_lt] at h h'
  have := List.le_antisymm h h'
  obtain ⟨⟨x⟩⟩ := a
  obtain ⟨⟨y⟩⟩ := b
  simp at this
  subst this; rfl
theorem srtS_perm (xs : List Str) : (srtS xs).Perm xs := List.mergeSort_perm xs leS
theorem srtS_sorted (xs : List Str) : (srtS xs).Pairwise (fun a b => leS a b = true) := List.pairwise_mergeSort leS_trans leS_total xs
theorem rising_pw : ∀ (l : List Str) (p : Str), PyProof.Rows.risingS p l = true → (p :: l).Pairwise (fun a b => leS a b = true)
  | [], p, _ => by simp
  | x :: r, p, h => by
    unfold PyProof.Rows.risingS at h
    simp only [Bool.and_eq_true] at h
    have ih := rising_pw r x h.2
    have hp : leS p x = true := h.1
    refine List.pairwise_cons.mpr ⟨fun y hy => ?_, ih⟩
    rcases List.mem_cons.mp hy with rfl | hy
    · exact hp
    · exact leS_trans _ _ _ hp ((List.pairwise_cons.mp ih).1 y hy)
theorem sorted_pw {l : List Str} (h : PyProof.Rows.sortedS l = true) : l.Pairwise (fun a b => leS a b = true) := by
  cases l with
  | nil => exact .nil
  | cons x r => exact rising_pw r x h
theorem sorted_is {xs ys : List Str} (p : ys.Perm xs) (h : PyProof.Rows.sortedS ys = true) : ys = srtS xs :=
  List.Perm.eq_of_pairwise (fun a b _ _ x y => leS_anti a b x y) (sorted_pw h) (srtS_sorted xs) (p.trans (srtS_perm xs).symm)
section
variable {P : Program} {wd : World} {K : PySem.W.Frag} {mg : Str → Option Value} {base : Heap} {k : Nat} {N : List Str} {sc : SC} {W : WX}
def keyTs : List (Key × D) → Option (List Str)
  | [] => some []
  | (.inr x, _) :: r => (keyTs r).map (x :: ·)
  | _ => none
theorem keyTs_of : ∀ {kvs : List (Key × D)} {ks : List Str}, keyTs kvs = some ks → kvs.map (·.1) = ks.map Sum.inr
  | [], ks, h => by cases h; rfl
  | (.inr x, d) :: r, ks, h => by
    unfold keyTs at h
    cases e : keyTs r with
    | none => rw [e] at h; cases h
    | some js => rw [e] at h; cases h; simp [keyTs_of e]
  | (.inl _, _) :: _, ks, h => by cases h
def bSorted : List D → Store → ER
  | [.lst xs], st => match strsOf xs with
    | some ys => if ys.length < 64 then .ok (.lst ((srtS ys).map .str)) st else .no
    | none => .no
  | [.dct kvs], st => match keyTs kvs with
    | some ys => if ys.length < 64 then .ok (.lst ((srtS ys).map .str)) st else .no
    | none => .no
  | _, _ => .no
theorem repL_strs {w : Wd} (ys : List Str) : RepL K w (ys.map V.str) (ys.map D.str) := RepL.of_map (fun _ => .str) ys
theorem cd_sorted : CallD K (fun xs H Q => rSortedS K xs H Q ∨ ∃ (a : Addr) (kvs : List (Key × V)) (ks : List Str), xs = [.ref a] ∧ Rd H a (.dK kvs) ∧ kvs.map (·.1) = ks.map Sum.inr ∧ ks.length < 64 ∧ ∀ ys p, ys.Perm ks → PyProof.Rows.sortedS ys = true → H p = none → Q (.ref p) (upd H p (.lst (ys.map V.str)))) bSorted := fun w vs ds Q E k v p => by
  unfold bSorted at p
  split at p
  · obtain ⟨x, rfl, a, us, rfl, m, r⟩ := v.one
    split at p
    · rename_i ys hy
      obtain ⟨hl, p⟩ := PostE.ite p
      have e := strsOf_rep hy r
      subst e
      exact .inl ⟨a, ys, rfl, SqL.of m, hl, fun zs l hp hs hn => by
        have e := sorted_is hp hs
        subst e
        exact p.lst rfl k (repL_strs _) l hn⟩
    · exact p.elim
  · obtain ⟨x, rfl, a, us, rfl, m, r⟩ := v.one
    split at p
    · rename_i ys hy
      obtain ⟨hl, p⟩ := PostE.ite p
      exact .inr ⟨a, us, ys, rfl, m, r.1.trans (keyTs_of hy), hl, fun zs l hp hs hn => by
        have e := sorted_is hp hs
        subst e
        exact p.lst rfl k (repL_strs _) l hn⟩
    · exact p.elim
  · exact p.elim
theorem pr_sorted {e : Expr} {ms : EM} {p pos : Pos} (hm : mg "sorted" = none) (ha : PAb P wd K mg base k N sc W [e] ms) (hg : sc.s.names.lookup ("sorted" : Str) = some .globalImplicit := by rfl) (he : ∀ env, starEach [e] env = (false, eval e env) :: starEach [] env := by intro _; rfl) :
    PR P wd K mg base k N sc W (.Call (.Name "sorted" p) [e] [] pos) (eB bSorted ms) :=
  pr_B (id := "sorted") (fun X g => CallR.or (by have := cr_sortedS (X := X); rw [g.kk] at this; exact this) (call_sortedD g.calm)) cd_sorted hm (by decide +kernel) ha hg (by decide) (by decide) he (fun _ => rfl)
/-! ### list(dict), dict(dict) -/
def bListX : List D → Store → ER
  | [.lst xs], st => .ok (.lst xs) st
  | [.tup xs], st => .ok (.lst xs) st
  | [.scr ns], st => .ok (.lst (ns.map .int)) st
  | [.dct kvs], st => .ok (.lst (kvs.map fun p => kD p.1)) st
  | _, _ => .no
theorem repP_keys {w : Wd} {vs : List (Key × V)} {xs : List (Key × D)} (r : RepP K w vs xs) : RepL K w (vs.map fun kv => kV kv.1) (xs.map fun p => kD p.1) := by
  have e : (vs.map fun kv => kV kv.1) = (xs.map fun p => kV p.1) := by
    have h1 : (vs.map fun kv => kV kv.1) = (vs.map (·.1)).map kV := by rw [List.map_map]; rfl
    have h2 : (xs.map fun kv => kV kv.1) = (xs.map (·.1)).map kV := by rw [List.map_map]; rfl
    rw [h1, h2, r.1]
  rw [e]
  exact RepL.of_map (fun p => rep_kV p.1) xs
theorem cd_listX : CallD K (fun xs H Q => (∃ p ys, xs = [.ref p] ∧ (SqL K H p ys ∨ SqT K H p ys) ∧ ∀ l, H l = none → Q (.ref l) (upd H l (.lst ys))) ∨ ∃ (a : Addr) (kvs : List (Key × V)), xs = [.ref a] ∧ Rd H a (.dK kvs) ∧ ∀ p, H p = none → Q (.ref p) (upd H p (.lst (kvs.map fun kv => kV kv.1)))) bListX := fun w vs ds Q E k v p => by
  unfold bListX at p
  split at p
  · obtain ⟨x, rfl, a, us, rfl, h, r⟩ := v.one; exact .inl ⟨_, _, rfl, .inl (SqL.of h), fun l hl => p.lst rfl k r l hl⟩
  · obtain ⟨x, rfl, a, us, rfl, h, r⟩ := v.one; exact .inl ⟨_, _, rfl, .inr h, fun l hl => p.lst rfl k r l hl⟩
  · obtain ⟨x, rfl, a, rfl, h⟩ := v.one; exact .inl ⟨_, _, rfl, .inl h, fun l hl => p.lst rfl k (repL_ints _) l hl⟩
  · obtain ⟨x, rfl, a, us, rfl, h, r⟩ := v.one; exact .inr ⟨_, _, rfl, h, fun l hl => p.lst rfl k (repP_keys r) l hl⟩
  · exact p.elim
theorem pr_listx {e : Expr} {ms : EM} {p pos : Pos} (hm : mg "list" = none) (ha : PAb P wd K mg base k N sc W [e] ms) (hg : sc.s.names.lookup ("list" : Str) = some .globalImplicit := by rfl) (he : ∀ env, starEach [e] env = (false, eval e env) :: starEach [] env := by intro _; rfl) :
    PR P wd K mg base k N sc W (.Call (.Name "list" p) [e] [] pos) (eB bListX ms) :=
  pr_Ty (T := "list") (fun X g => CallR.or (by have := call_list_of (X := X); rw [g.kk] at this; exact this) (call_listD g.calm)) cd_listX hm (by decide +kernel) ha hg (by decide) (by decide) he (fun _ => rfl)
def bDictX : List D → Store → ER
  | [.lst xs], st => match pairsD xs with
    | some ps => .ok (.dct (mergeD [] ps)) st
    | none => .no
  | [.dct kvs], st => .ok (.dct kvs) st
  | _, _ => .no
theorem cn_dictX : CallN K (fun xs H Q => (∃ (a : Addr) (ps : List Addr) (kvs : List (Key × V)), xs = [.ref a] ∧ SqL K H a (ps.map V.ref) ∧ Paired (fun p kv => SqT K H p [kV kv.1, kv.2]) ps kvs ∧
    ∀ p, H p = none → Q (.ref p) (upd H p (.dK (mergeK [] kvs)))) ∨ ∃ (a : Addr) (kvs : List (Key × V)), xs = [.ref a] ∧ Rd H a (.dK kvs) ∧ ∀ p, H p = none → Q (.ref p) (upd H p (.dK kvs))) bDictX := fun w vs ds Q E k v p => by
  unfold bDictX at p
  split at p
  · rename_i xs
    obtain ⟨x, rfl, a, us, rfl, m, r⟩ := v.one
    cases h : pairsD xs with
    | none => rw [h] at p; exact p.elim
    | some ps =>
      rw [h] at p
      obtain ⟨as, kvs, rfl, h1, h2⟩ := pairs_rep k r h
      exact .inl ⟨a, as, kvs, rfl, SqL.of m, h1, fun l hl => PostN.al p k hl ⟨_, rfl, repP_merge h2 .nil⟩⟩
  · obtain ⟨x, rfl, a, us, rfl, m, r⟩ := v.one
    exact .inr ⟨a, us, rfl, m, fun l hl => PostN.al p k hl ⟨_, rfl, r⟩⟩
  · exact p.elim
theorem pn_dictx {e : Expr} {ms : EM} {p pos : Pos} (hm : mg "dict" = none) (ha : PAb P wd K mg base k N sc W [e] ms) (hg : sc.s.names.lookup ("dict" : Str) = some .globalImplicit := by rfl) (he : ∀ env, starEach [e] env = (false, eval e env) :: starEach [] env := by intro _; rfl) :
    PN P wd K mg base k N sc W (.Call (.Name "dict" p) [e] [] pos) (eB bDictX ms) :=
  pn_Ty (T := "dict") (fun X g => CallR.or (by have := call_dictP (X := X) g.calm; rw [g.kk] at this; exact this) call_dictD) cn_dictX hm (by decide +kernel) ha hg (by decide) (by decide) he (fun _ => rfl)
theorem pr_dictx {e : Expr} {ms : EM} {p pos : Pos} (hm : mg "dict" = none) (ha : PAb P wd K mg base k N sc W [e] ms) (hg : sc.s.names.lookup ("dict" : Str) = some .globalImplicit := by rfl) (he : ∀ env, starEach [e] env = (false, eval e env) :: starEach [] env := by intro _; rfl) :
    PR P wd K mg base k N sc W (.Call (.Name "dict" p) [e] [] pos) (eB bDictX ms) := (pn_dictx hm ha hg he).fz (eB_new fun ds st d s h => by
  unfold bDictX at h
  split at h
  · split at h
    · cases h; trivial
    · cases h
  · cases h; trivial
  · cases h)
/-! ### texts, reversed lists, ranges downwards -/
def oStarts : D → D → Store → ER
  | .str a, .str b, st => .ok (.bl (Txt.startswith a b)) st
  | _, _, _ => .no
theorem pr_startswith {o e : Expr} {mo me : EM} {apos pos : Pos} (ho : PR P wd K mg base k N sc W o mo) (he : PB P wd K mg base k N sc W e me) (hs : ∀ env, starEach [e] env = [(false, eval e env)] := by intro _; rfl) (hbase : ∀ env, attributeBase o "startswith" env (eval o env) = eval o env := by intro _; rfl) (hline : (apos.endLine == pos.line) = true := by rfl) :
    PR P wd K mg base k N sc W (.Call (.Attribute o "startswith" apos) [e] [] pos) (eM1 oStarts mo me) :=
  pr_m1 PySem.F.slot_str_startswith PySem.F.type_str_startswith (fun X g => mt_startswith) (fun w x y dx dy Q E k vx vy p => by
    cases dx <;> cases dy <;> try exact p.elim
    case str.str a b => obtain rfl := vx; obtain rfl := vy; exact ⟨a, b, rfl, rfl, p.now k .bl⟩) ho he hs hbase hline
def eRev (mo : EM) : EM := fun Γ st => (mo Γ st).bind fun d s => match deref s d with
  | .lst xs => .ok (.lst xs.reverse) s
  | _ => .no
theorem pr_rev {e : Expr} {mo : EM} {j : Nat} {p1 p2 p3 pos : Pos} (he : PB P wd K mg base k N sc W e mo) : PR P wd K mg base k N sc W (.Subscript e (.Slice none none (some (.UnaryOp .USub (.Constant (.int 1) j p1) p2)) p3) pos) (eRev mo) := by
  obtain ⟨t, p, r⟩ := he
  refine ⟨tRevL K t, fun X g => by have := pe_revL (k := j) (p1 := p1) (p2 := p2) (p3 := p3) (pos := pos) (p X g); rw [g.kk] at this; exact this, ?_⟩
  intro H0 w Γ σ ok f0 Q q
  refine RB.use (P := fun w r => PostE K w r Q (at_ W σ)) r ok f0 (fun _ _ e k p => p.shift e k) (fun _ _ p => p) (fun p => p) q fun d v w1 e1 k1 f1 r1 p1 => ?_
  have vw := r1.vw k1 f1
  revert vw p1
  cases deref w1.st d with
  | lst xs => intro p1 vw; obtain ⟨a, vs, rfl, hH, rl⟩ := vw; exact ⟨a, vs, rfl, SqL.of hH, fun l hl => p1.lst rfl k1 rl.rev l hl⟩
  | _ => intro p1 _; exact p1.elim
def eRngD (ms : EM) : EM := fun Γ st => (ms Γ st).bind fun d s => match d with
  | .tup [.int i, .int j, .int (-1)] => if -4611686018427387904 ≤ i ∧ i < 4611686018427387904 ∧ -4611686018427387904 ≤ j ∧ j < 4611686018427387904 then .ok (.tup (rng i (-1) (i - j).toNat)) s else .no
  | _ => .no
theorem pi_rngD {tg a b c : Expr} {ms : EM} {p pos : Pos} (hm : mg "range" = none) (ha : PAr P wd K mg base k N sc W [a, b, c] ms) (hg : sc.s.names.lookup ("range" : Str) = some .globalImplicit := by rfl)
    (hs : ∀ env, starEach [a, b, c] env = (false, eval a env) :: starEach [b, c] env := by intro _; rfl) (hpl : ∀ env, (backTo pos (starEach [b, c] env)).any (·.1) = false := by intro _; rfl) :
    PIt P wd K mg base k N sc W tg (.Call (.Name "range" p) [a, b, c] [] pos) (eRngD ms) := by
  obtain ⟨t, pt, r⟩ := ha
  refine ⟨_, fun X g => pi_range3 (by unfold Gl PySem.Env.kindOf; rw [g.scp]; exact hg) (by rw [g.mg]; exact hm) (pt X g) (hs X.env) (hpl X.env), ?_⟩
  intro H0 w Γ σ ok f R q
  refine RTA.use (P := fun w r => PostI K w r R (at_ W σ)) r ok f (fun _ _ e k p => p.shift e k) (fun _ _ p => p) (fun p => p) (fun d st hb => by cases d <;> first | rfl | exact absurd rfl (hb _)) q fun ds vs w1 e1 k1 f1 r1 p1 => ?_
  split at p1
  · rename_i i j heq
    cases heq
    obtain ⟨v, us, rfl, rv, ru⟩ := r1.inv
    obtain ⟨v2, us2, rfl, rv2, ru2⟩ := ru.inv
    obtain ⟨v3, us3, rfl, rv3, ru3⟩ := ru2.inv
    rw [ru3.inv0]
    cases rv; cases rv2; cases rv3
    by_cases h : -4611686018427387904 ≤ i ∧ i < 4611686018427387904 ∧ -4611686018427387904 ≤ j ∧ j < 4611686018427387904
    · rw [if_pos h] at p1
      exact ⟨i, j, -1, (i - j).toNat, rfl, RgC.neg h.1 h.2.1 h.2.2.1 h.2.2.2, p1 _ w1 (Evo.refl w1) k1 rfl itr_rngC⟩
    · rw [if_neg h] at p1; exact p1.elim
  · exact p1.elim
end
end DL
/-! sorted of texts, however many: a list, a dict's keys, set(list) -/
namespace DL
open PySem L2 PySem.Spec PyProof.Rows
theorem leT_leS {a b : Str} (h : leT a b = true) : leS a b = true := by rw [leS_iff, List.not_lt]; exact of_decide_eq_true h
theorem srt_of {ks xs : List Str} (p : ks.Perm xs) (h : ks.Pairwise (fun x y => leT x y = true)) : ks = srtS xs :=
  List.Perm.eq_of_pairwise (fun a b _ _ x y => leS_anti a b x y) (h.imp fun z => leT_leS z) (srtS_sorted xs) (p.trans (srtS_perm xs).symm)
theorem leT_sort (ks : List Str) : (ks.mergeSort (fun a b => decide (a.cps.toList ≤ b.cps.toList))).Perm ks ∧ (ks.mergeSort (fun a b => decide (a.cps.toList ≤ b.cps.toList))).Pairwise (fun x y => leT x y = true) := by
  refine ⟨List.mergeSort_perm _ _, ?_⟩
  refine List.pairwise_mergeSort (le := fun a b => decide (a.cps.toList ≤ b.cps.toList)) (fun a b c h1 h2 => ?_) (fun a b => ?_) ks
  · exact decide_eq_true (Std.le_trans (of_decide_eq_true h1) (of_decide_eq_true h2))
  · rw [Bool.or_eq_true, decide_eq_true_eq, decide_eq_true_eq]; exact Std.le_total
/-- all once, sorted -/
def sset (xs : List Str) : List Str := srtS (ddp xs)
theorem sset_of {ks xs : List Str} (nd : ks.Nodup) (m : ∀ k, k ∈ ks ↔ k ∈ xs) (h : ks.Pairwise (fun x y => leT x y = true)) : ks = sset xs :=
  srt_of ((List.perm_ext_iff_of_nodup nd (ddp_nd xs)).mpr fun k => (m k).trans (ddp_mem xs k).symm) h
theorem each_at : ∀ {vs : List Value} {ks : List Str}, vs.length = ks.length → (∀ (j : Nat) (v : Value) (k : Str), vs[j]? = some v → ks[j]? = some k → ∃ t, v = Value.str k t) → PySem.W.EachIs (fun v k => ∃ t, v = Value.str k t) vs ks
  | [], [], _, _ => .nil
  | v :: vs, k :: ks, hl, h => .cons (h 0 v k rfl rfl) (each_at (by simpa using hl) fun j u l a b => h (j + 1) u l (by simpa using a) (by simpa using b))
theorem vals_each : ∀ {xs : List Str} {us : List Value}, Vals (xs.map V.str) us → PySem.W.EachIs (fun v k => ∃ t, v = Value.str k t) us xs
  | [], _, r => by cases r; exact .nil
  | x :: xs, _, r => by
    cases r with
    | cons r1 r2 => exact .cons r1 (vals_each r2)
section
variable {X : Cx}
/-- a new list that is sorted at once, given out -/
theorem sort_new {pins : List (Addr × Obj)} {σ : L2.St} {H : Hp} {s : Shared} {h' : Heap} {tk : Nat} {Q : VK} {vs : List Value} {ks : List Str} {A : Around} {E : Value → Shared → Prop} (I : Inv X pins σ H { s with heap := h', toks := tk }) (hks : PySem.W.EachIs (fun v k => ∃ t, v = Value.str k t) vs ks) (hl : ks.length ≤ sizeLine) (hu : A.units + 10 < cLine)
    (q : ∀ p, H p = none → Q (.ref p) (upd H p (.lst ((srtS ks).map V.str)))) :
    wpAny (model X.prog X.w) A (call (.builtin "list.sort") [.ref h'.objs.size]) (fun v s2 => v = .none ∧ EP X pins σ Q (.ref h'.objs.size) s2) E { s with heap := h'.push (seqObj "list" vs.toArray 0), toks := tk } := by
  have hoL : (h'.push (seqObj "list" vs.toArray 0)).get? h'.objs.size = some (seqObj "list" vs.toArray 0) := Heap.get?_push_size _ rfl
  refine PySem.W.list_sort_data (s := { s with heap := h'.push (seqObj "list" vs.toArray 0), toks := tk }) (R := fun v k => ∃ t, v = Value.str k t) (enc := fun k : Str => PyData.str k) (bs := ks) hoL hks (hks.mono fun v k ⟨t, e⟩ => ⟨[], by rw [e]; exact .str _ _, by simp⟩)
    (PySem.W.AllAlike.of fun _ _ => rfl) (PySem.W.Sortable.others fun _ => ⟨by simp, by simp⟩) hl (fun b _ => by show A.units + 1 + 0 < cLine; omega) fun out hl2 he => ?_
  rw [PySem.W.dataLe_str] at he
  obtain ⟨c, hcc⟩ := sortedHeap_at (vs := vs) (out := out.toArray) hoL
  obtain ⟨p1, p2⟩ := leT_sort ks
  have e := srt_of p1 p2
  rw [e] at he
  have hlen : ((srtS ks).map V.str).length ≤ sizeLine := by rw [List.length_map, (srtS_perm ks).length_eq]; exact hl
  refine ⟨rfl, .ref h'.objs.size, upd H h'.objs.size (.lst ((srtS ks).map V.str)), I.laid (t' := tk) (fun b u e => ?_) (Nat.le_refl _) (show ObjOk X.prog X.w _ _ _ (.lst ((srtS ks).map V.str)) from ⟨hlen, out, c, each_vals he, hcc⟩), rfl, q _ (I.hok.fresh (Nat.le_refl _))⟩
  have hb : b < h'.objs.size := Heap.lt_size e
  show (sortedHeap (h'.push (seqObj "list" vs.toArray 0)) h'.objs.size vs out.toArray).get? b = some u
  rw [sortedHeap_old (Nat.ne_of_lt hb) (by rw [size_push']; exact Nat.lt_succ_of_lt hb)]
  exact Heap.get?_push_of_some _ e
/-- sorted(d) -/
theorem cr_sortedD (hcalm : X.calm = true) (hu : X.A.units + 20 < cLine) : CallR X (.builtin "sorted") (fun xs H Q => ∃ (a : Addr) (kvs : List (Key × V)) (ks : List Str), xs = [.ref a] ∧ Rd H a (.dK kvs) ∧ kvs.map (·.1) = ks.map Sum.inr ∧
    ∀ p, H p = none → Q (.ref p) (upd H p (.lst ((srtS ks).map V.str)))) := by
  intro pins s σ H xs us Q I r q
  obtain ⟨a, kvs, ks, rfl, hd, hks, q⟩ := q
  obtain ⟨u, rfl, rx⟩ := vals1 r
  cases rx
  obtain ⟨z, lo, vs, rel, dd⟩ := dk_rd I.hok hd
  obtain ⟨ep, hat⟩ := dd.dictAt
  have hkeys : vs.map (·.1) = ks.map Sum.inr := rel.keys.symm.trans hks
  have hl : vs.length = ks.length := by simpa using congrArg List.length hkeys
  have h16 : vs.length ≤ sizeLine := by rw [← rel.length]; exact z
  refine Calls.call_function_entry kind_sorted plain_sorted entry_sorted (args_sorted1 _) ?_
  unfold Builtin.«sorted»
  refine wpAny_bind (m := checkCount "sorted" 1 1 _) (wpAny_pure ?_)
  refine wpAny_bind (PySem.W.kdu_collect (A := X.A.in1) (PySem.W.kdl_dict (knd := mixKind X.prog X.w) (kvs := vs) (ep := ep) lo) (I.ok.hd hcalm) hat h16 fun h' tk acc hk hacc => ?_)
  have hal : acc.toList.length = ks.length := by rw [Array.length_toList, hacc.1, hl]
  have hS : PySem.W.EachIs (fun v k => ∃ t, v = Value.str k t) acc.toList ks := by
    refine each_at hal fun j v k e e4 => ?_
    obtain ⟨k', x, e1, e2⟩ := hacc.2 j v (by rw [← Array.getElem?_toList]; exact e)
    have e3 : (vs.map (·.1))[j]? = some k' := by rw [List.getElem?_map, e1]; rfl
    rw [hkeys, List.getElem?_map, e4] at e3
    cases e3
    exact Value.isStrOf_shape (x := k) (v := v) e2
  have I1 : Inv X pins σ H { s with heap := h', toks := tk } := I.kept hk
  refine wpAny_bind (wpAny_newList ?_ (by rw [hal, ← hl]; exact h16))
  refine wpAny_bind (wpAny_holding (wpAny_mono (sort_new (A := X.A.in1) I1 hS (by rw [← hl]; exact h16) (by show X.A.units + 1 + 10 < cLine; omega) q) (fun v s2 h2 => ?_) fun _ _ z => z))
  obtain ⟨rfl, h2⟩ := h2
  exact wpAny_pure ⟨_, rfl, h2⟩
/-- sorted(xs) -/
theorem cr_sortedL (hu : X.A.units + 20 < cLine) : CallR X (.builtin "sorted") (fun vs H Q => ∃ (a : Addr) (xs : List Str), vs = [V.ref a] ∧ SqL X.K H a (xs.map V.str) ∧ ∀ (p : Addr), H p = none → Q (.ref p) (upd H p (.lst ((srtS xs).map V.str)))) := by
  intro pins s σ H vs us Q I r h
  obtain ⟨a, xs, rfl, hq, q⟩ := h
  obtain ⟨u, rfl, rx⟩ := vals1 r
  cases rx
  obtain ⟨its, ri, pl, hz⟩ := I.list hq
  have hks := vals_each ri
  have hlen : its.length = xs.length := hks.length
  have hzz : xs.length ≤ sizeLine := by simpa using hz
  refine PySem.W.sorted_data (vs := its) (R := fun v k => ∃ t, v = Value.str k t) (enc := fun k : Str => PyData.str k) (bs := xs) pl.isList hks (hks.mono fun v k ⟨t, e⟩ => ⟨[], by rw [e]; exact .str _ _⟩)
    (PySem.W.AllAlike.of fun _ _ => rfl) (PySem.W.Sortable.others fun _ => ⟨by simp, by simp⟩) hzz (fun b _ => by show X.A.units + 2 + 0 < cLine; omega) fun out hl he => ?_
  rw [PySem.W.dataLe_str] at he
  obtain ⟨p1, p2⟩ := leT_sort xs
  rw [srt_of p1 p2] at he
  obtain ⟨c, hc⟩ := sortedAll_at s.heap its out.toArray
  have hlen2 : ((srtS xs).map V.str).length ≤ sizeLine := by rw [List.length_map, (srtS_perm xs).length_eq]; exact hzz
  exact ⟨.ref (s.heap.objs.size + 1), upd H (s.heap.objs.size + 1) (.lst ((srtS xs).map V.str)), I.laid (t' := s.toks) (fun b u e => sortedAll_old e) (Nat.le_succ _) (show ObjOk X.prog X.w _ _ _ (.lst ((srtS xs).map V.str)) from ⟨hlen2, out, c, each_vals he, hc⟩), rfl, q _ (I.hok.fresh (Nat.le_succ _))⟩
/-- sorted(set(e)) -/
def tSortSet (K : PySem.W.Frag) (ta : TE) : TE := fun σ H Q => ta σ H fun x H1 => ∃ l, ∃ xs : List Str, x = .ref l ∧ SqL K H1 l (xs.map V.str) ∧ xs.length + 1 < 4096 ∧ ∀ p, H1 p = none → Q (.ref p) (upd H1 p (.lst ((sset xs).map V.str)))
theorem vals_at : ∀ {xs : List Str} {us : List Value}, Vals (xs.map V.str) us → ∀ (i : Nat) (v : Value), us[i]? = some v → ∃ k, xs[i]? = some k ∧ Value.isStrOf k v = true ∧ v.scannable = true
  | [], _, r, i, v, e => by cases r; simp at e
  | x :: xs, _, r, i, v, e => by
    cases r with
    | cons r1 r2 =>
      cases i with
      | zero => simp at e; subst e; obtain ⟨t, rfl⟩ := r1; exact ⟨x, rfl, by simp [Value.isStrOf], rfl⟩
      | succ i => exact vals_at r2 i v (by simpa using e)
theorem pe_sortSet {a : Expr} {ta : TE} {p p2 q pos : Pos} (hc : X.calm = true) (hu : X.A.units + 20 < cLine) (hg : Gl X "sorted") (hm : X.mg "sorted" = none) (hg2 : Gl X "set") (hm2 : X.mg "set" = none) (ha : PE X a ta)
    (na : starEach [a] X.env = (false, eval a X.env) :: starEach [] X.env := by rfl) : PE X (.Call (.Name "sorted" p) [.Call (.Name "set" p2) [a] [] q] [] pos) (tSortSet X.K ta) := by
  refine ⟨fun pins s σ H Q I h => ?_⟩
  refine Call_ (ld_blt I hg hm (show bootBuiltins "sorted" = some (.builtin "sorted") by decide +kernel) ?_)
  refine PyProof.Rows.callWith_builtin1 (PyProof.Rows.args_cons ?_ rfl) rfl rfl
  refine Call_ (ld_blt I hg2 hm2 PyProof.Rows.boot_set ?_)
  refine PyProof.Rows.callWith_type1 (PyProof.Rows.args_cons (thn (ha.run pins s σ H _ I h) fun v s1 ⟨x, H1, I1, r1, q1⟩ => PyProof.Rows.args_nil ?_) na) na rfl
  obtain ⟨l, xs, rfl, hq, hz, q1⟩ := q1
  cases r1
  obtain ⟨its, r, pl, _⟩ := I1.list hq
  have e : its.length = xs.length := by rw [← r.length, List.length_map]
  refine call_set1 (knd := strKind X.prog X.w) (fun led hled B E' hB => init_set_ListG (knd := strKind X.prog X.w) (ks := xs) hled (hB.trans (I1.ok.hd hc)) pl.isList (by simp [e]) (fun i v hv => vals_at r i v (by simpa using hv)) (by simp [e]; unfold scanBound; omega)) fun h' tk hS hk' => ?_
  refine PyProof.Rows.args_nil ?_
  have I2 : Inv X pins σ H1 { s1 with heap := h', toks := tk } := I1.kept fun b o e => hk' b o (Heap.lt_size e) e
  refine sorted_setT hS (I1.ok.hd hc) (by omega) fun s' p out c ks k g o hp hg hv hpw nd hm hln => ?_
  have hn : H1 p = none := I2.hok.fresh hp
  have hlen : (ks.map V.str).length ≤ sizeLine := by rw [List.length_map, sizeLine_eq]; omega
  have es : ks = sset xs := sset_of nd (fun k => (hm k).trans (by simp)) hpw
  have J : Inv X pins σ (upd H1 p (.lst (ks.map V.str))) s' := by
    have J0 := I2.call (ch := []) (Un.laid k hp hn) (I2.hok.laid k hp (show ObjOk X.prog X.w _ _ _ (.lst (ks.map V.str)) from ⟨hlen, out, c, hv, hg⟩)) (g' := s'.gens) (d' := s'.drawn) (t' := s'.toks) (by rw [g]; exact I2.bare) (fun _ z => nomatch z)
    have e2 : s' = { s1 with heap := s'.heap, gens := s'.gens, drawn := s'.drawn, toks := s'.toks } := by
      have o' : s'.os = s1.os := o
      cases s'
      dsimp only at o' ⊢
      rw [o']
    rw [e2]
    exact J0
  refine ⟨.ref p, _, J, rfl, ?_⟩
  rw [es]
  exact q1 p hn
end
end DL
namespace DL
open PySem L2
/-! ### a class's defs, by their names -/
/-- the def that an object of the class finds under the name -/
def cM (K : PySem.W.Frag) (C : String) (m : Str) : Addr := match PySem.W.findIn K (.ref (cA K C)) m with
  | some (some (.ref f)) => f
  | _ => 0
/-- the def behind a property -/
def cG (K : PySem.W.Frag) (C : String) (m : Str) : Addr := match PySem.W.recIn K (cM K C m) "property" with
  | some (.ref g :: _) => g
  | _ => 0
structure FnA (P : Program) (wd : World) (K : PySem.W.Frag) (mg : Str → Option Value) (base : Heap) (k : Nat) (f : Addr) (F : DF) : Prop where
  ex : ∃ (fd : FuncData) (ps : List Str), FnG P wd K mg base k f fd ps (spD K F) ∧ Binds K fd ps []
def HM (K : PySem.W.Frag) (x qual : Str) (st : Stmt) (f : Addr) : Prop := ∃ fd : FuncData, Fun K x qual st f fd
section
variable {P : Program} {wd : World} {K : PySem.W.Frag} {mg : Str → Option Value} {base : Heap} {k : Nat} {N : List Str}
theorem fn_okM {x qual : Str} {st : Stmt} {ps : List Str} {m : SM} {f : Addr} (h : HM K x qual st f) (S : FnScope N ps (defScope st)) (hb : ∀ (kV doc pm : Value) (an : Option Addr) (cdv ct : Value) (us : List Value), us.length = ps.length → bindArgs (PySem.W.fnOf x qual (defArgs st) (defBody st) (defScope st) .none kV doc pm an cdv ct) ⟨us, []⟩ = pure (ps.zip us))
    (b : ∀ W : WX, PSl P wd K mg base k N ⟨defScope st, fun _ => true⟩ W (defBody st) m) : FnA P wd K mg base (k + 1) f (run N ps m) := by
  obtain ⟨fd, F⟩ := h
  exact ⟨fd, ps, def_ok F S b, F.binds hb⟩
theorem FnA.mono {j : Nat} {f : Addr} {F : DF} (h : FnA P wd K mg base j f F) (hj : j ≤ k) : FnA P wd K mg base k f F :=
  let ⟨fd, ps, a, b⟩ := h.ex; ⟨fd, ps, a.mono hj, b⟩
theorem FnA.bot {x qual : Str} {st : Stmt} {ps : List Str} {f : Addr} (h : HM K x qual st f) (hb : ∀ (kV doc pm : Value) (an : Option Addr) (cdv ct : Value) (us : List Value), us.length = ps.length → bindArgs (PySem.W.fnOf x qual (defArgs st) (defBody st) (defScope st) .none kV doc pm an cdv ct) ⟨us, []⟩ = pure (ps.zip us)) : FnA P wd K mg base k f Dbot := by
  obtain ⟨fd, F⟩ := h
  refine ⟨fd, ps, ⟨fun vs H Q E h => ?_, fun {A outer s H args us vs Q E} _ _ _ _ h => ?_⟩, F.binds hb⟩
  · obtain ⟨_, _, _, _, _, p⟩ := h; exact p.elim
  · obtain ⟨_, _, _, _, _, p⟩ := h; exact p.elim
theorem methOK {C : String} {m : Str} {f : Addr} {F : DF} {i : Nat} (c : Cls K (cA K C)) (h : Meth K (cA K C) m f) (a : FnA P wd K mg base i f F) (hi : i ≤ k := by omega) : MethOK P wd K mg base k C m F :=
  let ⟨fd, ps, a, b⟩ := a.ex; ⟨c, f, fd, ps, a.mono hi, h, b⟩
theorem propOK {C : String} {m : Str} {f p : Addr} {F : DF} {i : Nat} (c : Cls K (cA K C)) (h : PropOf K (cA K C) m p f) (a : FnA P wd K mg base i f F) (hi : i ≤ k := by omega) : PropOK P wd K mg base k C m F :=
  let ⟨fd, ps, a, b⟩ := a.ex; ⟨c, f, p, fd, ps, a.mono hi, h, b⟩
theorem makeOK {C : String} {f : Addr} {F : DF} {i : Nat} (at_ : mg (Str.ofString C) = some (.ref (cA K C))) (h : Mk K (cA K C) f) (a : FnA P wd K mg base i f F) (hi : i ≤ k := by omega) : MakeOK P wd K mg base k C F :=
  let ⟨fd, ps, a, b⟩ := a.ex; ⟨at_, f, fd, ps, a.mono hi, h, b⟩
theorem all_nil {R : String × DF → Prop} : ∀ p ∈ ([] : List (String × DF)), R p := fun _ h => by simp at h
theorem all_cons {R : String × DF → Prop} {C : String} {F : DF} {tab : List (String × DF)} (h : R (C, F)) (t : ∀ p ∈ tab, R p) : ∀ p ∈ (C, F) :: tab, R p := fun p hp => by
  rcases List.mem_cons.mp hp with rfl | hp
  · exact h
  · exact t p hp
theorem fld_nil {R : String → Prop} : ∀ C ∈ ([] : List String), R C := fun _ h => by simp at h
theorem fld_cons {R : String → Prop} {C : String} {cs : List String} (h : R C) (t : ∀ C ∈ cs, R C) : ∀ D ∈ C :: cs, R D := fun p hp => by
  rcases List.mem_cons.mp hp with rfl | hp
  · exact h
  · exact t p hp
variable {sc : SC} {W : WX}
/-- a class as a value -/
theorem pr_cls {C : String} {pos : Pos} (hm : mg (Str.ofString C) = some (.ref (cA K C))) (hg : sc.s.names.lookup (Str.ofString C) = some .globalImplicit := by rfl) (hd : (Str.ofString C == ("__debug__" : Str)) = false := by decide) : PR P wd K mg base k N sc W (.Name (Str.ofString C) pos) (eC (.cls C)) :=
  pr_glob (v := .ref (cA K C)) ⟨_, hm, rfl⟩ (fun _ => .cls) hg hd
theorem cM_of {C : String} {m : Str} {c f : Addr} (hc : cA K C = c) (h : PySem.W.findIn K (.ref c) m = some (some (.ref f))) : cM K C m = f := by unfold cM; rw [hc, h]
theorem cG_of {C : String} {m : Str} {c p g : Addr} {rest : List Value} (hc : cA K C = c) (h : PySem.W.findIn K (.ref c) m = some (some (.ref p))) (hr : PySem.W.recIn K p "property" = some (.ref g :: rest)) : cG K C m = g := by unfold cG; rw [cM_of hc h, hr]
end
end DL
namespace DL
open PySem L2
section
variable {Γ : DEnv} {st : Store} {ma mo me ms : EM} {d : D}
@[simp] theorem bListX_l {xs : List D} : bListX [.lst xs] st = .ok (.lst xs) st := rfl
@[simp] theorem bListX_t {xs : List D} : bListX [.tup xs] st = .ok (.lst xs) st := rfl
@[simp] theorem bListX_d {xs : List (Key × D)} : bListX [.dct xs] st = .ok (.lst (xs.map fun p => kD p.1)) st := rfl
@[simp] theorem bDictX_l {xs : List D} : bDictX [.lst xs] st = (match pairsD xs with | some ps => .ok (.dct (mergeD [] ps)) st | none => .no) := rfl
@[simp] theorem bDictX_d {xs : List (Key × D)} : bDictX [.dct xs] st = .ok (.dct xs) st := rfl
@[simp] theorem oStarts_ap {a b : Str} : oStarts (.str a) (.str b) st = .ok (.bl (Txt.startswith a b)) st := rfl
@[simp] theorem eRev_ap : eRev mo Γ st = (mo Γ st).bind fun d s => match deref s d with | .lst xs => .ok (.lst xs.reverse) s | _ => .no := rfl
@[simp] theorem eChain_ap {f g : D → D → Store → ER} {mb mc : EM} : eChain f g ma mb mc Γ st = (ma Γ st).bind fun x s1 => (mb Γ s1).bind fun y s2 => (f (deref s2 x) (deref s2 y) s2).bind fun z s3 => match z with
  | .bl true => (mc Γ s3).bind fun u s4 => g (deref s4 y) (deref s4 u) s4
  | .bl false => .ok (.bl false) s3
  | _ => .no := rfl
@[simp] theorem eFld_ap {cs : List String} {f : Str} : eFld cs f mo Γ st = (mo Γ st).bind fun o s => match deref s o with
  | .ins C fs => if C ∈ cs then (match fs.lookup f with | some d => .ok d s | none => .no) else .no
  | _ => .no := rfl
@[simp] theorem sFldR_ap {cs : List String} {f : Str} : sFldR cs f mo me Γ st = (me Γ st).bs Γ fun x s1 => (mo Γ s1).bs Γ fun o s2 => match o with
  | .ref l => match s2[l]? with
    | some (.ins C fs) => if C ∈ cs ∧ fs.length < 1000 then .nx Γ (s2.set l (.ins C (putFD f x fs))) else .no
    | _ => .no
  | _ => .no := rfl
@[simp] theorem eMeth_ap {p : String × DF} {tab : List (String × DF)} {m : Str} : eMeth (p :: tab) m mo ms Γ st = (mo Γ st).bind fun o s1 => match deref s1 o with
  | .ins C fs => if (fs.lookup m).isNone = true then (match (p :: tab).lookup C with
      | some F => (ms Γ s1).bind fun d s2 => match d with | .tup ds => F (o :: ds) s2 | _ => .no
      | none => .no) else .no
  | _ => .no := by
  unfold eMeth
  exact if_neg (by simp)
@[simp] theorem eProp_ap {p : String × DF} {tab : List (String × DF)} : eProp (p :: tab) mo Γ st = (mo Γ st).bind fun o s1 => match deref s1 o with
  | .ins C _ => (match (p :: tab).lookup C with
      | some F => (match F [o] s1 with | .ok d s2 => .ok d s2 | _ => .no)
      | none => .no)
  | _ => .no := by
  unfold eProp
  exact if_neg (by simp)
@[simp] theorem eMake_ap {C : String} {F : DF} : eMake C F ms Γ st = (ms Γ st).bind fun d s => match d with
  | .tup ds => (match F (.ref s.length :: ds) (s ++ [.ins C []]) with
    | .ok .non s2 => (match s2[s.length]? with | some (.ins C' fs) => .ok (.ins C' fs) (s2.set s.length .tomb) | _ => .no)
    | .err x s2 => .err x s2
    | _ => .no)
  | _ => .no := rfl
@[simp] theorem eMakeR_ap {C : String} {F : DF} : eMakeR C F ms Γ st = (ms Γ st).bind fun d s => match d with
  | .tup ds => (match F (.ref s.length :: ds) (s ++ [.ins C []]) with
    | .ok .non s2 => .ok (.ref s.length) s2
    | .err x s2 => .err x s2
    | _ => .no)
  | _ => .no := rfl
end
theorem eRngD_i {ma : EM} {Γ : DEnv} {st s : Store} {i j : Int} (h : ma Γ st = .ok (.tup [.int i, .int j, .int (-1)]) s) (hi : -4294967296 < i ∧ i < 4294967296) (hj : -4294967296 < j ∧ j < 4294967296) : eRngD ma Γ st = .ok (.tup (rng i (-1) (i - j).toNat)) s := by
  unfold eRngD
  rw [h, ok_bind]
  exact if_pos (by omega)
theorem eDc_of {vs : List Nat} {mi mt mk me : EM} {g : GM} {Γ : DEnv} {st s : Store} {ds : List D} (h : mi Γ st = .ok (.tup ds) s) : eDc vs mi g mt mk me Γ st = dcL g mt mk me ds (wipeE Γ vs) s [] := by
  unfold eDc
  rw [h]; rfl
theorem atI_of {α : Type} {l : List α} {k : Int} (h0 : 0 ≤ k) (h1 : k < l.length) : ∃ x, L2.atI l k = some x ∧ x ∈ l := by
  have h3 : k.toNat < l.length := by omega
  refine ⟨l[k.toNat], ?_, List.getElem_mem h3⟩
  unfold L2.atI ixN
  simp [h0, h1]
theorem gd_lit {n L : Nat} {x : Str} (h : Cs x) (hl : 10 * x.length + 2 ≤ L) : Gd n L (.str x) := (gd_str h hl).mono (Nat.zero_le _) (Nat.le_refl _)
theorem pyL_strs : ∀ ns : List Str, D.pyL (ns.map .str) = some (ns.map PyData.str)
  | [] => rfl
  | n :: ns => by simp [D.pyL, D.py, pyL_strs ns]
theorem strOk_of {x : Str} (h : ∀ c ∈ x.cps.toList, c < 1114112) : PyData.strOk x = true := by
  unfold PyData.strOk
  rw [← Array.all_toList, List.all_eq_true]
  exact fun c hc => decide_eq_true (h c hc)
theorem shaped_strs (ns : List Str) (hs : ∀ n ∈ ns, PyData.strOk n = true) : SeqAt.shaped (.list (ns.map PyData.str)) = true := by
  have h1 : ∀ ns : List Str, (∀ n ∈ ns, PyData.strOk n = true) → PyData.canLayAll0 (ns.map PyData.str) = true := fun ns => by
    induction ns with
    | nil => intro _; rfl
    | cons n ns ih => intro h; simp [PyData.canLayAll0, PyData.canLay0, ih fun y hy => h y (List.mem_cons_of_mem _ hy), h n List.mem_cons_self]
  have h1 := h1 ns hs
  have h2 : ∀ ns : List Str, PyData.depthAll (ns.map PyData.str) = 0 := fun ns => by induction ns with | nil => rfl | cons n ns ih => simp [PyData.depthAll, PyData.depth, ih]
  simp [SeqAt.shaped, PyData.canLay0, h1, PyData.depth, h2]
theorem dEq_strs_nil (ns : List Str) (hs : ∀ n ∈ ns, PyData.strOk n = true) : dEq (.lst (ns.map .str)) (.lst []) = some ns.isEmpty := by
  have h := shaped_strs ns hs
  have h0 : SeqAt.shaped (.list []) = true := by decide
  cases ns with
  | nil => simp [dEq, sclEq, pyEq, D.py, D.pyL, h0, PyData.eqv, PyData.eqvAll]
  | cons n ns =>
    rw [List.map_cons] at h
    simp [dEq, sclEq, pyEq, D.py, D.pyL, pyL_strs, h, h0, PyData.eqv, PyData.eqvAll]
theorem flDs_strs : ∀ ys : List Str, flDs (ys.map .str) = some (ys.map V.str)
  | [] => rfl
  | y :: ys => by simp [flDs, flD, flDs_strs ys]
theorem inD_strs (x : Str) (ys : List Str) : inD (.str x) (.lst (ys.map .str)) = some (decide (x ∈ ys)) := by
  unfold inD
  simp only [flD, flDs_strs]
  congr 1
  unfold inV
  rw [List.any_map]
  rw [Bool.eq_iff_iff]
  simp [eqV]
theorem cut_hi (x : Str) (z : Nat) : (cutS x none (some (z : Int))).length ≤ z := by
  rw [len_toList]
  unfold cutS
  rw [HT.sIx_nat]
  simp only [HT.sIx_none, List.length_take, List.length_drop]
  omega
theorem cut_take (x : Str) (z : Nat) : (cutS x none (some (z : Int))).cps.toList = x.cps.toList.take z := by
  unfold cutS
  rw [HT.sIx_nat, HT.sIx_none]
  have : x.length = x.cps.toList.length := len_toList x
  simp [this]
theorem str_ext {x y : Str} (h : x.cps.toList = y.cps.toList) : x = y := TL.ext_tl h
/-! ### dicts of texts to ints -/
def F (kvs : List (Str × Int)) : List (Key × D) := kvs.map fun p => (.inr p.1, .int p.2)
theorem F_put (acc : List (Str × Int)) (k : Str) (v : Int) (nd : (acc.map (·.1)).Nodup) : ∃ kvs, putD (F acc) (.inr k) (.int v) = F kvs ∧ (kvs.map (·.1)).Nodup ∧ (∀ q, q ∈ kvs.map (·.1) ↔ (q = k ∨ q ∈ acc.map (·.1))) ∧ kvs.length ≤ acc.length + 1 := by
  have e : ((F acc).any fun kv => decide (kv.1 = Sum.inr k)) = decide (k ∈ acc.map (·.1)) := by
    unfold F
    rw [List.any_map, Bool.eq_iff_iff]
    simp
  unfold putD
  rw [e]
  by_cases h : k ∈ acc.map (·.1)
  · rw [if_pos (decide_eq_true h)]
    refine ⟨acc.map fun p => if p.1 = k then (p.1, v) else p, ?_, ?_, ?_, by simp⟩
    · unfold F
      rw [List.map_map, List.map_map]
      refine List.map_congr_left fun p _ => ?_
      simp only [Function.comp]
      by_cases z : p.1 = k
      · simp [z]
      · have : ¬ ((Sum.inr p.1 : Key) = Sum.inr k) := fun q => z (Sum.inr.inj q)
        simp [z, this]
    · have : (acc.map fun p => if p.1 = k then (p.1, v) else p).map (·.1) = acc.map (·.1) := by
        rw [List.map_map]
        refine List.map_congr_left fun p _ => ?_
        simp only [Function.comp]; split <;> rfl
      rw [this]; exact nd
    · have : (acc.map fun p => if p.1 = k then (p.1, v) else p).map (·.1) = acc.map (·.1) := by
        rw [List.map_map]
        refine List.map_congr_left fun p _ => ?_
        simp only [Function.comp]; split <;> rfl
      intro q
      rw [this]
      exact ⟨.inr, fun z => z.elim (fun z => z ▸ h) id⟩
  · rw [if_neg (by simpa using h)]
    refine ⟨acc ++ [(k, v)], by simp [F], ?_, fun q => ?_, by simp⟩
    · rw [List.map_append]
      exact List.nodup_append.mpr ⟨nd, by simp, fun a ha b hb => by simp at hb; subst hb; exact fun z => h (z ▸ ha)⟩
    · rw [List.map_append, List.mem_append]
      simp [or_comm]
theorem F_merge : ∀ (ps acc : List (Str × Int)), (acc.map (·.1)).Nodup → ∃ kvs, mergeD (F acc) (F ps) = F kvs ∧ (kvs.map (·.1)).Nodup ∧ (∀ q, q ∈ kvs.map (·.1) ↔ (q ∈ ps.map (·.1) ∨ q ∈ acc.map (·.1))) ∧ kvs.length ≤ acc.length + ps.length
  | [], acc, nd => ⟨acc, rfl, nd, fun q => by simp, by simp⟩
  | (k, v) :: ps, acc, nd => by
    obtain ⟨a2, e, nd2, m2, l2⟩ := F_put acc k v nd
    obtain ⟨kvs, h1, h2, h3, h4⟩ := F_merge ps a2 nd2
    refine ⟨kvs, ?_, h2, fun q => ?_, by simp; omega⟩
    · show mergeD (putD (F acc) (.inr k) (.int v)) (F ps) = _
      rw [e]; exact h1
    · rw [h3 q, m2 q]
      simp only [List.map_cons, List.mem_cons]
      constructor
      · rintro (h | h | h)
        · exact .inl (.inr h)
        · exact .inl (.inl h)
        · exact .inr h
      · rintro ((h | h) | h)
        · exact .inr (.inl h)
        · exact .inl h
        · exact .inr (.inr h)
theorem F_val {kvs : List (Str × Int)} {k : Str} (h : k ∈ kvs.map (·.1)) : ∃ v, valD (F kvs) (.inr k) = some (.int v) := by
  induction kvs with
  | nil => simp at h
  | cons p ps ih =>
    obtain ⟨a, b⟩ := p
    by_cases z : a = k
    · exact ⟨b, by simp [F, valD, List.find?_cons, z]⟩
    · have h' : k ∈ ps.map (·.1) := by
        rw [List.map_cons] at h
        rcases List.mem_cons.mp h with h | h
        · exact absurd h.symm z
        · exact h
      obtain ⟨v, hv⟩ := ih h'
      refine ⟨v, ?_⟩
      have : ¬ ((Sum.inr a : Key) = Sum.inr k) := fun q => z (Sum.inr.inj q)
      simp only [F, valD, List.map_cons, List.find?_cons, this, decide_false] at hv ⊢
      exact hv
theorem F_keys (kvs : List (Str × Int)) : (F kvs).map (fun p => kD p.1) = (kvs.map (·.1)).map .str := by unfold F; rw [List.map_map, List.map_map]; rfl
theorem keyTs_F : ∀ kvs : List (Str × Int), keyTs (F kvs) = some (kvs.map (·.1))
  | [] => rfl
  | p :: ps => by
    show (keyTs (F ps)).map (p.1 :: ·) = _
    rw [keyTs_F ps]; rfl
theorem pairsD_F : ∀ ps : List (Str × Int), pairsD (ps.map fun p => .tup [.str p.1, .int p.2]) = some (F ps)
  | [] => rfl
  | p :: ps => by simp [pairsD, keyD, pairsD_F ps, F]
theorem hasK_keys {L : List (Key × D)} {ks : List Str} (h : L.map (·.1) = ks.map Sum.inr) (k : Str) : hasK L (.inr k) = decide (k ∈ ks) := by
  unfold hasK
  have e : (L.any fun kv => decide (kv.1 = Sum.inr k)) = (L.map (·.1)).any fun y => decide (y = Sum.inr k) := by rw [List.any_map]; rfl
  rw [e, h, List.any_map, Bool.eq_iff_iff]
  simp
/-! ### loops, more -/
theorem forL_first {g : GM} {mb : SM} {st : Store} {I : DEnv → Prop} : ∀ {ds : List D} (p : Nat → Bool) (f : Nat → D), (∀ (j : Nat) (d : D), ds[j]? = some d → ∀ Γ, I Γ → ∃ Γ1, g d Γ = some Γ1 ∧ (p j = true → mb Γ1 st = .ret (f j) st) ∧ (p j = false → ∃ Γ2, mb Γ1 st = .nx Γ2 st ∧ I Γ2)) →
    ∀ Γ, I Γ → (∃ j, j < ds.length ∧ p j = true ∧ (∀ i < j, p i = false) ∧ forL g mb ds Γ st = .ret (f j) st) ∨ ((∀ j < ds.length, p j = false) ∧ ∃ Γ', forL g mb ds Γ st = .nx Γ' st ∧ I Γ')
  | [], p, f, _, Γ, i => .inr ⟨fun j h => by simp at h, Γ, rfl, i⟩
  | d :: ds, p, f, h, Γ, i => by
    obtain ⟨Γ1, h1, h2, h3⟩ := h 0 d rfl Γ i
    cases hp : p 0 with
    | true =>
      refine .inl ⟨0, by simp, hp, fun i h => by omega, ?_⟩
      unfold forL
      rw [h1]
      show (match mb Γ1 st with | .nx Γ2 st2 => forL g mb ds Γ2 st2 | .ct Γ2 st2 => forL g mb ds Γ2 st2 | .bk Γ2 st2 => .nx Γ2 st2 | r => r) = _
      rw [h2 hp]
    | false =>
      obtain ⟨Γ2, e2, i2⟩ := h3 hp
      have e : forL g mb (d :: ds) Γ st = forL g mb ds Γ2 st := by
        rw [forL, h1]
        show (match mb Γ1 st with | .nx Γ2 st2 => forL g mb ds Γ2 st2 | .ct Γ2 st2 => forL g mb ds Γ2 st2 | .bk Γ2 st2 => .nx Γ2 st2 | r => r) = _
        rw [e2]
      rw [e]
      rcases forL_first (ds := ds) (fun j => p (j + 1)) (fun j => f (j + 1)) (fun j d hd => h (j + 1) d hd) Γ2 i2 with ⟨j, hj, hp1, hm, he⟩ | ⟨hn, hx⟩
      · refine .inl ⟨j + 1, by simp; omega, hp1, fun i hi => ?_, he⟩
        cases i with
        | zero => exact hp
        | succ i => exact hm i (by omega)
      · refine .inr ⟨fun j hj => ?_, hx⟩
        cases j with
        | zero => exact hp
        | succ j => exact hn j (by simp at hj; omega)
/-- every turn gives an item, which is told of the turn's datum -/
theorem lcL_rel {g : GM} {me : EM} {Γ : DEnv} {R : D → D → Prop} : ∀ {ds : List D} (I : Nat → Store → Prop), (∀ (j : Nat) (d : D), ds[j]? = some d → ∀ st, I j st → ∃ Γ1, g d Γ = some Γ1 ∧ ∃ x st2, me Γ1 st = .ok x st2 ∧ R d x ∧ I (j + 1) st2) →
    ∀ st acc, I 0 st → acc.length + ds.length ≤ 16777216 → ∃ xs st', lcL g eYes me ds Γ st acc = .ok (.lst (acc ++ xs)) st' ∧ I ds.length st' ∧ Paired R ds xs
  | [], I, _, st, acc, i, _ => ⟨[], st, by simp [lcL], i, .nil⟩
  | d :: ds, I, h, st, acc, i, hl => by
    obtain ⟨Γ1, h1, x, st2, h2, e, i2⟩ := h 0 d rfl st i
    obtain ⟨xs, st', h3, i3, e3⟩ := lcL_rel (ds := ds) (fun j => I (j + 1)) (fun j d hd => h (j + 1) d hd) st2 (acc ++ [x]) i2 (by simp at hl ⊢; omega)
    have hlt : acc.length < 16777216 := by simp at hl; omega
    refine ⟨x :: xs, st', ?_, i3, .cons e e3⟩
    unfold lcL
    rw [h1]
    show (match me Γ1 st with | .ok x s2 => (if acc.length < 16777216 then lcL g eYes me ds Γ s2 (acc ++ [x]) else .no) | _ => .no) = _
    rw [h2]
    show (if acc.length < 16777216 then lcL g eYes me ds Γ st2 (acc ++ [x]) else .no) = _
    rw [if_pos hlt, h3]; simp
theorem paired_pairs : ∀ {ys : List Str} {xs : List D}, Paired (fun d x => ∃ (y : Str) (v : Int), d = .str y ∧ x = .tup [.str y, .int v]) (ys.map D.str) xs → ∃ kvs : List (Str × Int), xs = kvs.map (fun p => .tup [.str p.1, .int p.2]) ∧ kvs.map (·.1) = ys
  | [], xs, h => by cases h; exact ⟨[], rfl, rfl⟩
  | y :: ys, xs, h => by
    cases h with
    | cons h1 h2 =>
      obtain ⟨y', v, e, rfl⟩ := h1
      cases e
      obtain ⟨kvs, rfl, h3⟩ := paired_pairs h2
      exact ⟨(y, v) :: kvs, rfl, by simp [h3]⟩
theorem dcL_keys {g : GM} {mk me : EM} {Γ : DEnv} {st : Store} {E : D → Prop} : ∀ {ys : List Str}, ys.Nodup → (∀ y ∈ ys, ∃ Γ1, g (.str y) Γ = some Γ1 ∧ mk Γ1 st = .ok (.str y) st ∧ ∃ x, me Γ1 st = .ok x st ∧ E x) →
    ∀ (acc : List (Key × D)) (ks : List Str), acc.map (·.1) = ks.map Sum.inr → (∀ y ∈ ys, y ∉ ks) → (∀ p ∈ acc, E p.2) → ks.length + ys.length ≤ 16777216 → ∃ L, dcL g eYes mk me (ys.map .str) Γ st acc = .ok (.dct L) st ∧ L.map (·.1) = (ks ++ ys).map Sum.inr ∧ ∀ p ∈ L, E p.2
  | [], _, _, acc, ks, ha, _, hE, _ => ⟨acc, rfl, by simpa using ha, hE⟩
  | y :: ys, nd, h, acc, ks, ha, hn, hE, hl => by
    obtain ⟨Γ1, h1, h2, x, h3, hx⟩ := h y List.mem_cons_self
    have hy : y ∉ ks := hn y List.mem_cons_self
    have hput : putD acc (.inr y) x = acc ++ [(.inr y, x)] := by
      unfold putD
      refine if_neg ?_
      have := hasK_keys ha y
      unfold hasK at this
      rw [this]; simpa using hy
    obtain ⟨nd1, nd2⟩ := List.nodup_cons.mp nd
    obtain ⟨L, e, e1, e2⟩ := dcL_keys (ys := ys) nd2 (fun z hz => h z (List.mem_cons_of_mem _ hz)) (acc ++ [(.inr y, x)]) (ks ++ [y]) (by simp [ha]) (fun z hz q => by
      rcases List.mem_append.mp q with q | q
      · exact hn z (List.mem_cons_of_mem _ hz) q
      · simp at q; subst q; exact nd1 hz) (fun p hp => by
      rcases List.mem_append.mp hp with hp | hp
      · exact hE p hp
      · simp at hp; subst hp; exact hx) (by simp at hl ⊢; omega)
    have hal : acc.length = ks.length := by have := congrArg List.length ha; simpa using this
    have hlt : acc.length < 16777216 := by simp at hl; omega
    refine ⟨L, ?_, by simpa using e1, e2⟩
    rw [List.map_cons, dcL, h1]
    show (match mk Γ1 st with | .ok ky s2 => (match keyD ky with | some kk => (match me Γ1 s2 with | .ok x s3 => if acc.length < 16777216 then dcL g eYes mk me (ys.map .str) Γ s3 (putD acc kk x) else .no | _ => .no) | none => .no) | _ => .no) = _
    rw [h2]
    show (match me Γ1 st with | .ok x s3 => if acc.length < 16777216 then dcL g eYes mk me (ys.map .str) Γ s3 (putD acc (.inr y) x) else .no | _ => .no) = _
    rw [h3]
    show (if acc.length < 16777216 then dcL g eYes mk me (ys.map .str) Γ st (putD acc (.inr y) x) else .no) = _
    rw [if_pos hlt, hput, e]
/-! ### the longest of the texts that begin a text -/
theorem oAdd_ls (xs ys : List Str) (st : Store) (h : xs.length + ys.length ≤ 16777216) : oAdd (.lst (xs.map .str)) (.lst (ys.map .str)) st = .ok (.lst ((xs ++ ys).map .str)) st := by
  rw [List.map_append]
  exact oAdd_l (by simpa using h)
def pfx (a : Str) (n : Nat) : Str := cutS a none (some (n : Int))
theorem pfx_list (a : Str) (n : Nat) : (pfx a n).cps.toList = a.cps.toList.take n := cut_take a n
theorem starts_iff {a b : Str} : Txt.startswith a b = true ↔ b = pfx a b.length ∧ b.length ≤ a.length := by
  unfold Txt.startswith
  rw [Bool.and_eq_true, StrLaws.subAt_eq]
  simp only [Nat.zero_add, decide_eq_true_eq, List.drop_zero, beq_iff_eq]
  constructor
  · rintro ⟨h1, h2⟩
    exact ⟨str_ext (by rw [pfx_list]; exact h2.symm), h1⟩
  · rintro ⟨h1, h2⟩
    exact ⟨h2, by have := congrArg (fun x : Str => x.cps.toList) h1; simp only [pfx_list] at this; exact this.symm⟩
theorem pfx_len {a : Str} {n : Nat} (h : n ≤ a.length) : (pfx a n).length = n := by
  rw [len_toList, pfx_list, List.length_take]
  rw [len_toList] at h
  omega
theorem starts_pfx {a : Str} {n : Nat} (h : n ≤ a.length) : Txt.startswith a (pfx a n) = true := by rw [starts_iff, pfx_len h]; exact ⟨rfl, h⟩
def Best (spot : Str) (ks : List Str) : Option Str → Prop
  | none => ∀ k ∈ ks, Txt.startswith spot k = false
  | some p => p ∈ ks ∧ Txt.startswith spot p = true ∧ ∀ k ∈ ks, Txt.startswith spot k = true → k.length ≤ p.length
theorem Best.uniq {spot : Str} {ks : List Str} {r q : Option Str} (h : Best spot ks r) (h' : Best spot ks q) : r = q := by
  cases r with
  | none =>
    cases q with
    | none => rfl
    | some p => have := h p h'.1; rw [h'.2.1] at this; cases this
  | some p =>
    cases q with
    | none => have := h' p h.1; rw [h.2.1] at this; cases this
    | some o =>
      have l1 := h.2.2 o h'.1 h'.2.1
      have l2 := h'.2.2 p h.1 h.2.1
      have e1 := (starts_iff.mp h.2.1).1
      have e2 := (starts_iff.mp h'.2.1).1
      have : p.length = o.length := by omega
      rw [e1, e2, this]
theorem Best.perm {spot : Str} {ks js : List Str} {r : Option Str} (h : Best spot ks r) (e : ∀ k, k ∈ js ↔ k ∈ ks) : Best spot js r := by
  cases r with
  | none => exact fun k hk => h k ((e k).mp hk)
  | some p => exact ⟨(e p).mpr h.1, h.2.1, fun k hk => h.2.2 k ((e k).mp hk)⟩
def oD : Option Str → D
  | none => .non
  | some p => .str p
def stepB (spot : Str) (o : Option Str) (k : Str) : Option Str := if Txt.startswith spot k = true ∧ (∀ p, o = some p → p.length < k.length) then some k else o
theorem best_fold (spot : Str) : ∀ (ks js : List Str) (o : Option Str), Best spot js o → Best spot (js ++ ks) (ks.foldl (stepB spot) o)
  | [], js, o, h => by simpa using h
  | k :: ks, js, o, h => by
    have h1 : Best spot (js ++ [k]) (stepB spot o k) := by
      unfold stepB
      by_cases q : Txt.startswith spot k = true ∧ (∀ p, o = some p → p.length < k.length)
      · rw [if_pos q]
        refine ⟨by simp, q.1, fun j hj hs => ?_⟩
        rcases List.mem_append.mp hj with hj | hj
        · cases o with
          | none => have := h j hj; rw [hs] at this; cases this
          | some p => have := h.2.2 j hj hs; have := q.2 p rfl; omega
        · simp at hj; subst hj; exact Nat.le_refl _
      · rw [if_neg q]
        cases o with
        | none =>
          intro j hj
          rcases List.mem_append.mp hj with hj | hj
          · exact h j hj
          · simp at hj; subst hj
            cases z : Txt.startswith spot j with
            | false => rfl
            | true => exact absurd ⟨z, fun p e => nomatch e⟩ q
        | some p =>
          refine ⟨by simp [h.1], h.2.1, fun j hj hs => ?_⟩
          rcases List.mem_append.mp hj with hj | hj
          · exact h.2.2 j hj hs
          · simp at hj; subst hj
            have : ¬ (p.length < j.length) := fun z => q ⟨hs, fun p' e => by cases e; exact z⟩
            omega
    have := best_fold spot ks (js ++ [k]) (stepB spot o k) h1
    simpa using this
end DL
namespace DL
open PySem L2
section
variable {P : Program} {wd : World} {K : PySem.W.Frag} {mg : Str → Option Value} {base : Heap} {k : Nat} {N : List Str} {sc : SC} {W : WX}
/-! ### sorted, however many; sets within an expression -/
def bSortedX : List D → Store → ER
  | [.lst xs], st => match strsOf xs with
    | some ys => .ok (.lst ((srtS ys).map .str)) st
    | none => .no
  | [.dct kvs], st => match keyTs kvs with
    | some ys => .ok (.lst ((srtS ys).map .str)) st
    | none => .no
  | _, _ => .no
theorem cd_sortedX : CallD K (fun xs H Q => (∃ (a : Addr) (xs' : List Str), xs = [V.ref a] ∧ SqL K H a (xs'.map V.str) ∧ ∀ (p : Addr), H p = none → Q (.ref p) (upd H p (.lst ((srtS xs').map V.str)))) ∨ ∃ (a : Addr) (kvs : List (Key × V)) (ks : List Str), xs = [.ref a] ∧ Rd H a (.dK kvs) ∧ kvs.map (·.1) = ks.map Sum.inr ∧ ∀ p, H p = none → Q (.ref p) (upd H p (.lst ((srtS ks).map V.str)))) bSortedX := fun w vs ds Q E k v p => by
  unfold bSortedX at p
  split at p
  · obtain ⟨x, rfl, a, us, rfl, m, r⟩ := v.one
    split at p
    · rename_i ys hy
      have e := strsOf_rep hy r
      subst e
      exact .inl ⟨a, ys, rfl, SqL.of m, fun l hn => p.lst rfl k (repL_strs _) l hn⟩
    · exact p.elim
  · obtain ⟨x, rfl, a, us, rfl, m, r⟩ := v.one
    split at p
    · rename_i ys hy
      exact .inr ⟨a, us, ys, rfl, m, r.1.trans (keyTs_of hy), fun l hn => p.lst rfl k (repL_strs _) l hn⟩
    · exact p.elim
  · exact p.elim
theorem pr_sortedX {e : Expr} {ms : EM} {p pos : Pos} (hm : mg "sorted" = none) (ha : PAb P wd K mg base k N sc W [e] ms) (hg : sc.s.names.lookup ("sorted" : Str) = some .globalImplicit := by rfl) (he : ∀ env, starEach [e] env = (false, eval e env) :: starEach [] env := by intro _; rfl) :
    PR P wd K mg base k N sc W (.Call (.Name "sorted" p) [e] [] pos) (eB bSortedX ms) :=
  pr_B (id := "sorted") (fun X g => CallR.or (by have := cr_sortedL (X := X) (by have := g.room.units; omega); rw [g.kk] at this; exact this) (cr_sortedD g.calm (by have := g.room.units; omega))) cd_sortedX hm (by decide +kernel) ha hg (by decide) (by decide) he (fun _ => rfl)
/-- sorted(set(e)) -/
def eSortSet (m : EM) : EM := fun Γ st => (m Γ st).bind fun d s => match deref s d with
  | .lst xs => match strsOf xs with
    | some ys => if ys.length + 1 < 4096 then .ok (.lst ((sset ys).map .str)) s else .no
    | none => .no
  | _ => .no
theorem G.gl {X : Cx} (g : G P wd K mg base k N sc W X) {x : Str} (h : sc.s.names.lookup x = some .globalImplicit) : Gl X x := by unfold Gl PySem.Env.kindOf; rw [g.scp]; exact h
theorem G.none {X : Cx} (g : G P wd K mg base k N sc W X) {x : Str} (h : mg x = none) : X.mg x = none := by rw [g.mg]; exact h
theorem G.un {X : Cx} (g : G P wd K mg base k N sc W X) : X.A.units + 20 < cLine := by have := g.room.units; omega
theorem pr_sortset {e : Expr} {m : EM} {p p2 q pos : Pos} (hm : mg "sorted" = none) (hm2 : mg "set" = none) (ha : PB P wd K mg base k N sc W e m) (hg : sc.s.names.lookup ("sorted" : Str) = some .globalImplicit := by rfl) (hg2 : sc.s.names.lookup ("set" : Str) = some .globalImplicit := by rfl)
    (na : ∀ env, starEach [e] env = (false, eval e env) :: starEach [] env := by intro _; rfl) :
    PR P wd K mg base k N sc W (.Call (.Name "sorted" p) [.Call (.Name "set" p2) [e] [] q] [] pos) (eSortSet m) := by
  obtain ⟨t, pt, r⟩ := ha
  refine ⟨tSortSet K t, fun X g => by have := pe_sortSet (p := p) (p2 := p2) (q := q) (pos := pos) g.calm g.un (g.gl hg) (g.none hm) (g.gl hg2) (g.none hm2) (pt X g) (na X.env); rw [g.kk] at this; exact this, ?_⟩
  intro H0 w Γ σ ok f Q q
  refine RB.use (P := fun w r => PostE K w r Q (at_ W σ)) r ok f (fun _ _ e k p => p.shift e k) (fun _ _ p => p) (fun p => p) q fun d v w1 e1 k1 f1 r1 p1 => ?_
  have vw := r1.vw k1 f1
  revert vw p1
  cases deref w1.st d with
  | lst xs =>
    intro p1 vw
    obtain ⟨a, vs, rfl, hH, rl⟩ := vw
    dsimp only at p1
    split at p1
    · rename_i ys hy
      obtain ⟨hl, p1⟩ := PostE.ite p1
      have e := strsOf_rep hy rl
      subst e
      exact ⟨a, ys, rfl, SqL.of hH, hl, fun l hl => p1.lst rfl k1 (repL_strs _) l hl⟩
    · exact p1.elim
  | _ => intro p1 _; exact p1.elim
/-- plain data among keys -/
def lfD : D → Option Leaf
  | .non => some .none
  | .int i => some (.num i)
  | .bl b => some (.num (if b = true then 1 else 0))
  | .str x => some (.text x)
  | _ => none
def lfDs : List D → Option (List Leaf)
  | [] => some []
  | x :: xs => match lfD x, lfDs xs with | some k, some ks => some (k :: ks) | _, _ => none
theorem lf_rep {w : Wd} {v : V} {d : D} {l : Leaf} (r : Rep K w v d) (h : lfD d = some l) : lfV v = some l := by cases d <;> cases h <;> cases r <;> rfl
theorem lfs_rep {w : Wd} : ∀ {xs : List D} {vs : List V} {ls : List Leaf}, RepL K w vs xs → lfDs xs = some ls → lfVs vs = some ls
  | [], vs, ls, r, h => by cases h; rw [r.inv0]; rfl
  | x :: xs, vs, ls, r, h => by
    obtain ⟨v, ws, rfl, r1, r2⟩ := r.inv
    unfold lfDs at h
    split at h
    · rename_i k ks e1 e2
      cases h
      unfold lfVs
      rw [lf_rep r1 e1, lfs_rep r2 e2]
    · cases h
/-- len(set(e)) -/
def eLenSet (m : EM) : EM := fun Γ st => (m Γ st).bind fun d s => match deref s d with
  | .lst xs => match lfDs xs with
    | some ks => if xs.length + 1 < 4096 then .ok (.int (ddp ks).length) s else .no
    | none => .no
  | .tup xs => match lfDs xs with
    | some ks => if xs.length + 1 < 4096 then .ok (.int (ddp ks).length) s else .no
    | none => .no
  | _ => .no
theorem pr_lenset {e : Expr} {m : EM} {p p2 q pos : Pos} (hm : mg "len" = none) (hm2 : mg "set" = none) (ha : PB P wd K mg base k N sc W e m) (hg : sc.s.names.lookup ("len" : Str) = some .globalImplicit := by rfl) (hg2 : sc.s.names.lookup ("set" : Str) = some .globalImplicit := by rfl)
    (na : ∀ env, starEach [e] env = (false, eval e env) :: starEach [] env := by intro _; rfl) :
    PR P wd K mg base k N sc W (.Call (.Name "len" p) [.Call (.Name "set" p2) [e] [] q] [] pos) (eLenSet m) := by
  obtain ⟨t, pt, r⟩ := ha
  refine ⟨tLenSetX K t, fun X g => by have := pe_lenSetX (p := p) (p2 := p2) (q := q) (pos := pos) g.calm (g.gl hg) (g.none hm) (g.gl hg2) (g.none hm2) (pt X g) (na X.env); rw [g.kk] at this; exact this, ?_⟩
  intro H0 w Γ σ ok f Q q
  refine RB.use (P := fun w r => PostE K w r Q (at_ W σ)) r ok f (fun _ _ e k p => p.shift e k) (fun _ _ p => p) (fun p => p) q fun d v w1 e1 k1 f1 r1 p1 => ?_
  have vw := r1.vw k1 f1
  revert vw p1
  cases deref w1.st d with
  | lst xs =>
    intro p1 vw
    obtain ⟨a, vs, rfl, hH, rl⟩ := vw
    dsimp only at p1
    split at p1
    · rename_i ys hy
      obtain ⟨hl, p1⟩ := PostE.ite p1
      exact ⟨a, vs, ys, rfl, .inl (SqL.of hH), lfs_rep rl hy, by rw [rl.1]; exact hl, p1.now k1 .int⟩
    · exact p1.elim
  | tup xs =>
    intro p1 vw
    obtain ⟨a, vs, rfl, hH, rl⟩ := vw
    dsimp only at p1
    split at p1
    · rename_i ys hy
      obtain ⟨hl, p1⟩ := PostE.ite p1
      exact ⟨a, vs, ys, rfl, .inr hH, lfs_rep rl hy, by rw [rl.1]; exact hl, p1.now k1 .int⟩
    · exact p1.elim
  | _ => intro p1 _; exact p1.elim
end
end DL
namespace DL
open PySem L2 ClX
/-! ### static methods, reached by the class -/
structure SMet (K : PySem.W.Frag) (C : Addr) (m : Str) (p g : Addr) : Prop where
  rd : ∃ mc, CRead K C mc ∧ PySem.W.findCls K (.ref C) mc m = some (.get (.builtin "staticmethod.__get__") (.ref p) .none (.ref C))
  rc : ∃ rest, PySem.W.recIn K p "staticmethod" = some (.ref g :: rest)
  kp : PySem.W.keepIn K (.ref g) = true
section
variable {X : Cx} {pins : List (Addr × Obj)} {σ : L2.St} {H : Hp} {s : Shared} {C p g : Addr} {m : Str} {A : Around} {E : Value → Shared → Prop}
theorem getmethsm_ok {pl : Sem Bool} {Q : Value × List Value → Shared → Prop} (I : Inv X pins σ H s) (k : SMet X.K C m p g) (h : ∀ s', Inv X pins σ H s' → Q (.ref g, []) s') : wpAny (model X.prog X.w) A (getMethod (.ref C) m pl) Q E s := by
  obtain ⟨mc, r, at_⟩ := k.rd
  obtain ⟨rest, hp⟩ := k.rc
  refine PySem.W.method_cls I.kIn r.ga ?_
  refine PySem.W.cls_bind I.kIn r.rd at_ ?_
  refine wpAny_call (PySem.W.sm_get (s := { s with toks := s.toks + 1 }) I.kIn hp (PySem.W.handed_on rfl ?_))
  exact h _ (I.tok _)
end
structure StatOK (P : Program) (wd : World) (K : PySem.W.Frag) (mg : Str → Option Value) (base : Heap) (k : Nat) (C : String) (m : Str) (F : DF) : Prop where
  ex : ∃ (g p : Addr) (fd : FuncData) (ps : List Str), FnG P wd K mg base k g fd ps (spD K F) ∧ SMet K (cA K C) m p g ∧ Binds K fd ps []
section
variable {P : Program} {wd : World} {K : PySem.W.Frag} {mg : Str → Option Value} {base : Heap} {k : Nat} {N : List Str} {sc : SC} {W : WX}
/-- C.m(..) -/
theorem pr_stat {j : Nat} {C : String} {m : Str} {F : DF} {e : Expr} {es : List Expr} {ms : EM} {pl : PySem.Env → Sem Bool} {npos apos pos : Pos} (at_ : mg (Str.ofString C) = some (.ref (cA K C))) (T : StatOK P wd K mg base j C m F) (ha : PAr P wd K mg base k N sc W (e :: es) ms) (hk : j ≤ k := by omega)
    (hg : sc.s.names.lookup (Str.ofString C) = some .globalImplicit := by rfl) (hd : (Str.ofString C == ("__debug__" : Str)) = false := by decide)
    (hst : ∀ env, starEach (e :: es) env = (false, eval e env) :: starEach es env := by intro _; rfl) (hpl : ∀ env, (backTo pos (starEach es env)).any (·.1) = false := by intro _; rfl)
    (ht : ∀ env, eval (.Call (.Attribute (.Name (Str.ofString C) npos) m apos) (e :: es) [] pos) env = (do
      let ov ← eval (.Name (Str.ofString C) npos) env
      standAt apos.atName
      let (f, first) ← holding [ov] (getMethod ov m (pl env))
      callWith pos f first (backTo pos (starEach (e :: es) env)) (backToKw pos (keywordEach [] env))) := by intro _; rfl) :
    PR P wd K mg base k N sc W (.Call (.Attribute (.Name (Str.ofString C) npos) m apos) (e :: es) [] pos) (eCall F ms) := by
  obtain ⟨t, pt, r⟩ := ha
  refine ⟨tCallS (spD K F) (WE W) t, fun X g => ⟨fun pins s σ H Q I h => ?_⟩, rt_call r⟩
  have aX := pt X g
  have gl : Gl X (Str.ofString C) := by unfold Gl PySem.Env.kindOf; rw [g.scp]; exact hg
  have cX : PE X (.Name (Str.ofString C) npos) (tC (.ref (cA K C))) := pe_glob gl (by rw [g.mg]; exact at_) rfl hd
  obtain ⟨rfl, rfl, rfl, rfl, rfl, rfl, hsc, hc, hr, hgd, tk, _, _⟩ := g
  obtain ⟨gf, pf, fd, ps, F1, hm, hb⟩ := T.ex
  refine PySem.W.methodCall_KW (pl := pl X.env) (thn (cX.run pins s σ H (fun x H1 => x = .ref (cA X.K C) ∧ tCallS (spD X.K F) (WE W) t σ H1 Q) I ⟨rfl, h⟩) fun u s1 ⟨x, H1, I1, rx, ex, q⟩ => ?_) (ht X.env)
  subst ex
  obtain rfl : u = Value.ref (cA X.K C) := rx
  refine getmethsm_ok I1 hm fun s1' I1' => ?_
  refine PySem.W.callWith_K (first := []) (h₀ := X.base) I1'.ok.mod.kin hm.kp (thn (aX.run pos pins s1' σ H1 _ I1' q) fun us s2 ⟨vs, H2, I2, r, q2⟩ => ⟨I2.kIn, ?_⟩) (hst X.env) (hpl X.env)
  exact run_g (us := us) (vs := vs) F1 ⟨hr.mono hk, hgd⟩ hb tk I2 r q2
end
end DL
/-! calls with keywords -/
namespace DL
open PySem PySem.Spec PyProof.Rows L2
/-- the items at these places -/
def pk {α : Type} (ix : List Nat) (l : List α) : List α := ix.filterMap fun i => l[i]?
theorem pk_nil' {α : Type} (l : List α) : pk [] l = [] := rfl
theorem pk_cons_some {α : Type} {i : Nat} {ix : List Nat} {l : List α} {x : α} (h : l[i]? = some x) : pk (i :: ix) l = x :: pk ix l := by unfold pk; rw [List.filterMap_cons, h]
theorem pk_cons_none {α : Type} {i : Nat} {ix : List Nat} {l : List α} (h : l[i]? = none) : pk (i :: ix) l = pk ix l := by unfold pk; rw [List.filterMap_cons, h]
theorem Vals.pk {vs : List V} {us : List Value} (r : Vals vs us) : ∀ ix : List Nat, Vals (pk ix vs) (pk ix us)
  | [] => .nil
  | i :: ix => by
    cases h : vs[i]? with
    | some v => obtain ⟨u, hu, ru⟩ := r.get h; rw [pk_cons_some h, pk_cons_some hu]; exact .cons ru (Vals.pk r ix)
    | none =>
      have h2 : us[i]? = none := by rw [List.getElem?_eq_none_iff] at h ⊢; rw [← r.length]; exact h
      rw [pk_cons_none h, pk_cons_none h2]; exact Vals.pk r ix
section
variable {K : PySem.W.Frag} {w : Wd}
theorem RepL.pk {vs : List V} {ds : List D} (r : RepL K w vs ds) : ∀ ix : List Nat, RepL K w (pk ix vs) (pk ix ds)
  | [] => .nil
  | i :: ix => by
    cases h : ds[i]? with
    | some d => obtain ⟨v, hv, rv⟩ := r.get h; rw [pk_cons_some h, pk_cons_some hv]; exact .cons rv (RepL.pk r ix)
    | none =>
      have h2 : vs[i]? = none := by rw [List.getElem?_eq_none_iff] at h ⊢; rw [r.1]; exact h
      rw [pk_cons_none h, pk_cons_none h2]; exact RepL.pk r ix
theorem RepL.app {vs vs' : List V} {ds ds' : List D} (r : RepL K w vs ds) (r' : RepL K w vs' ds') : RepL K w (vs ++ vs') (ds ++ ds') := by
  induction ds generalizing vs with
  | nil => rw [r.inv0]; exact r'
  | cons d ds ih => obtain ⟨v, vs2, rfl, h1, h2⟩ := r.inv; exact .cons h1 (ih h2)
end
/-- the values by place and those by name, each at its parameter -/
def tKw (n m : Nat) (ix : List Nat) (dv : List V) (t tk : TA) : TA := fun σ H Q => t σ H fun vs H1 => tk σ H1 fun zs H2 => vs.length = n ∧ zs.length = m ∧ Q (pk ix (vs ++ zs ++ dv)) H2
def eKw (n m : Nat) (ix : List Nat) (dl : List D) (ms mk : EM) : EM := fun Γ st => (ms Γ st).bind fun d s => match d with
  | .tup ds => (mk Γ s).bind fun e s2 => match e with
    | .tup es => if ds.length = n ∧ es.length = m then .ok (.tup (pk ix (ds ++ es ++ dl))) s2 else .no
    | _ => .no
  | _ => .no
section
variable {P : Program} {wd : World} {K : PySem.W.Frag} {mg : Str → Option Value} {base : Heap} {k : Nat} {N : List Str} {sc : SC} {W : WX}
theorem rta_kw {n m : Nat} {ix : List Nat} {dv : List V} {dl : List D} {t tk : TA} {ms mk : EM} (hd : ∀ w, RepL K w dv dl) (r : RTA K W t ms) (rk : RTA K W tk mk) : RTA K W (tKw n m ix dv t tk) (eKw n m ix dl ms mk) := by
  intro H0 w Γ σ ok f0 Q q
  refine RTA.use (P := fun w r => PostA K w r Q (at_ W σ)) r ok f0 (fun _ _ e k p => p.shift e k) (fun _ _ p => p) (fun p => p) (fun d st hb => by cases d <;> first | rfl | exact absurd rfl (hb _)) q fun ds vs w1 e1 k1 f1 r1 p1 => ?_
  refine RTA.use (P := fun w r => PostA K w r Q (at_ W σ)) rk k1 f1 (fun _ _ e k p => p.shift e k) (fun _ _ p => p) (fun p => p) (fun d st hb => by cases d <;> first | rfl | exact absurd rfl (hb _)) p1 fun es zs w2 e2 k2 f2 r2 p2 => ?_
  dsimp only at p2
  split at p2
  · rename_i hl
    exact ⟨r1.1.trans hl.1, r2.1.trans hl.2, p2 _ w2 (Evo.refl w2) k2 rfl (((r1.evo e2).app r2).app (hd w2) |>.pk ix)⟩
  · exact p2.elim
def PKr (P : Program) (wd : World) (K : PySem.W.Frag) (mg : Str → Option Value) (base : Heap) (k : Nat) (N : List Str) (sc : SC) (W : WX) (es : List Keyword) (m : EM) : Prop := ∃ t : TA, (∀ X, G P wd K mg base k N sc W X → PK X es t) ∧ RTA K W t m
theorem pk_nil2 : PKr P wd K mg base k N sc W [] eNil := ⟨_, fun X g => pk_nil, fun H0 w Γ σ ok f Q p => p [] w (Evo.refl w) ok rfl .nil⟩
theorem pk_cons2 {nm : Option Str} {e : Expr} {kpos : Pos} {es : List Keyword} {ma mr : EM} (ha : PR P wd K mg base k N sc W e ma) (hr : PKr P wd K mg base k N sc W es mr) : PKr P wd K mg base k N sc W (⟨nm, e, kpos⟩ :: es) (eCons ma mr) := by
  obtain ⟨ta, pa, ra⟩ := ha
  obtain ⟨tr, pr, rr⟩ := hr
  refine ⟨_, fun X g => pk_cons (pa X g) (pr X g), ?_⟩
  intro H0 w Γ σ ok f Q q
  refine RT.use (P := fun w r => PostA K w r Q (at_ W σ)) ra ok f (fun _ _ e k p => p.shift e k) (fun _ _ p => p) (fun p => p) q fun d v w1 e1 k1 f1 r p1 => ?_
  refine RTA.use (P := fun w r => PostA K w r Q (at_ W σ)) rr k1 f1 (fun _ _ e k p => p.shift e k) (fun _ _ p => p) (fun p => p) (fun d st hb => by cases d <;> first | rfl | exact absurd rfl (hb _)) p1 fun ds vs w2 e2 k2 f2 r2 p2 => ?_
  exact p2 (v :: vs) w2 (Evo.refl w2) k2 rfl (.cons (r.evo e2) r2)
/-- how a call with keywords binds: fx values ahead (self), n by place, ks by name, dvs behind -/
def BdTo (K : PySem.W.Frag) (fd : FuncData) (ps : List Str) (fx n : Nat) (ks : List Str) (dvs : List Value) (ix : List Nat) : Prop :=
  ∀ (s : Shared) (first us ws : List Value), K.In s.heap → first.length = fx → us.length = n → ws.length = ks.length → BindsTo s fd ⟨first ++ us, ks.zip ws⟩ (ps.zip (first ++ pk ix (us ++ ws ++ dvs)))
/-- a plain constant's value -/
def cV : D → V
  | .bl b => .bl b
  | .int i => .int i
  | .str x => .str x
  | _ => .non
structure BdK (K : PySem.W.Frag) (fd : FuncData) (ps : List Str) (fx n : Nat) (ks : List Str) (dl : List D) (ix : List Nat) : Prop where
  ex : ∃ (dvs : List Value), (∀ w, RepL K w (dl.map cV) dl) ∧ Vals (dl.map cV) dvs ∧ BdTo K fd ps fx n ks dvs ix
structure FnK (P : Program) (wd : World) (K : PySem.W.Frag) (mg : Str → Option Value) (base : Heap) (k : Nat) (x : Str) (F : DF) (n : Nat) (ks : List Str) (dl : List D) (ix : List Nat) : Prop where
  ex : ∃ (f : Addr) (fd : FuncData) (ps : List Str), FnG P wd K mg base k f fd ps (spD K F) ∧ mg x = some (.ref f) ∧ PySem.W.keepIn K (.ref f) = true ∧ BdK K fd ps 0 n ks dl ix
/-- with self ahead -/
structure FnAK (P : Program) (wd : World) (K : PySem.W.Frag) (mg : Str → Option Value) (base : Heap) (k : Nat) (f : Addr) (F : DF) (n : Nat) (ks : List Str) (dl : List D) (ix : List Nat) : Prop where
  ex : ∃ (fd : FuncData) (ps : List Str), FnG P wd K mg base k f fd ps (spD K F) ∧ BdK K fd ps 1 n ks dl ix
theorem bdK_plain {fd : FuncData} {ps : List Str} {fx n : Nat} {ks : List Str} {ix : List Nat} (h : ∀ (first us ws : List Value), first.length = fx → us.length = n → ws.length = ks.length → bindArgs fd ⟨first ++ us, ks.zip ws⟩ = pure (ps.zip (first ++ pk ix (us ++ ws)))) : BdK K fd ps fx n ks [] ix :=
  ⟨[], fun _ => .nil, .nil, fun s first us ws _ h1 h2 h3 => .of_eq (by rw [List.append_nil]; exact h first us ws h1 h2 h3)⟩
theorem fn_okK {x : Str} {st : Stmt} {ps : List Str} {m : SM} {n : Nat} {ks : List Str} {ix : List Nat} (h : HF K mg x st) (S : FnScope N ps (defScope st)) (hb : ∀ (kV doc pm : Value) (an : Option Addr) (cdv ct : Value) (us ws : List Value), us.length = n → ws.length = ks.length → bindArgs (PySem.W.fnOf x x (defArgs st) (defBody st) (defScope st) .none kV doc pm an cdv ct) ⟨us, ks.zip ws⟩ = pure (ps.zip (pk ix (us ++ ws))))
    (b : ∀ W : WX, PSl P wd K mg base k N ⟨defScope st, fun _ => true⟩ W (defBody st) m) : FnK P wd K mg base (k + 1) x (run N ps m) n ks [] ix := by
  obtain ⟨f, fd, F, hm⟩ := h
  obtain ⟨oc, od, kV, doc, pm, an, cdv, ct, osl, rfl, look, code⟩ := F.ex
  refine ⟨f, _, ps, def_ok F S b, hm, F.kp, bdK_plain fun first us ws h1 h2 h3 => ?_⟩
  cases first with
  | nil => exact hb kV doc pm an cdv ct us ws h2 h3
  | cons _ _ => cases h1
theorem fn_okMK {x qual : Str} {st : Stmt} {ps : List Str} {m : SM} {f : Addr} {n : Nat} {ks : List Str} {ix : List Nat} (h : HM K x qual st f) (S : FnScope N ps (defScope st)) (hb : ∀ (kV doc pm : Value) (an : Option Addr) (cdv ct me : Value) (us ws : List Value), us.length = n → ws.length = ks.length → bindArgs (PySem.W.fnOf x qual (defArgs st) (defBody st) (defScope st) .none kV doc pm an cdv ct) ⟨me :: us, ks.zip ws⟩ = pure (ps.zip (me :: pk ix (us ++ ws))))
    (b : ∀ W : WX, PSl P wd K mg base k N ⟨defScope st, fun _ => true⟩ W (defBody st) m) : FnAK P wd K mg base (k + 1) f (run N ps m) n ks [] ix := by
  obtain ⟨fd, F⟩ := h
  obtain ⟨oc, od, kV, doc, pm, an, cdv, ct, osl, rfl, look, code⟩ := F.ex
  refine ⟨_, ps, def_ok F S b, bdK_plain fun first us ws h1 h2 h3 => ?_⟩
  obtain ⟨me, rfl⟩ := List.length_eq_one_iff.mp h1
  exact hb kV doc pm an cdv ct me us ws h2 h3
/-- a def with keyword-only defaults -/
def HMD (K : PySem.W.Frag) (x qual : Str) (st : Stmt) (kws : List (Str × V)) (f : Addr) : Prop := ∃ fd : FuncData, FunD K x qual (defArgs st) (defBody st) (defScope st) [] kws f fd
theorem FunD.fun {x qual : Str} {st : Stmt} {kws : List (Str × V)} {f : Addr} {fd : FuncData} (F : FunD K x qual (defArgs st) (defBody st) (defScope st) [] kws f fd) : Fun K x qual st f fd := by
  obtain ⟨oc, od, dV, kV, doc, pm, an, cdv, ct, osl, e, lk, hcd, hD, hK⟩ := F.ex
  rcases hD with ⟨_, rfl⟩ | ⟨z, _⟩
  · exact ⟨⟨oc, od, kV, doc, pm, an, cdv, ct, osl, e, lk, hcd⟩, F.kp⟩
  · exact absurd rfl z
theorem fn_okMKD {x qual : Str} {st : Stmt} {ps : List Str} {m : SM} {f : Addr} {n : Nat} {ks : List Str} {ix : List Nat} {kws ms : List (Str × V)} {dl : List D} (h : HMD K x qual st kws f) (S : FnScope N ps (defScope st)) (hk : kws ≠ []) (hms : ∀ q ∈ ms, q ∈ kws) (hdl : ms.map (·.2) = dl.map cV) (hr : ∀ w, RepL K w (dl.map cV) dl)
    (hb : ∀ (D : Addr) (doc pm : Value) (an : Option Addr) (cdv ct me : Value) (us ws mv : List Value), us.length = n → ws.length = ks.length → mv.length = ms.length → KwChain D ((ms.map (·.1)).zip mv) (bindArgs (PySem.W.fnOf x qual (defArgs st) (defBody st) (defScope st) .none (.ref D) doc pm an cdv ct) ⟨me :: us, ks.zip ws⟩) (ps.zip (me :: pk ix (us ++ ws ++ mv))))
    (b : ∀ W : WX, PSl P wd K mg base k N ⟨defScope st, fun _ => true⟩ W (defBody st) m) : FnAK P wd K mg base (k + 1) f (run N ps m) n ks dl ix := by
  obtain ⟨fd, F⟩ := h
  refine ⟨fd, ps, def_ok (FunD.fun F) S b, ?_⟩
  obtain ⟨oc, od, dV, kV, doc, pm, an, cdv, ct, osl, rfl, lk, hcd, hD, hK⟩ := F.ex
  rcases hD with ⟨_, rfl⟩ | ⟨z, _⟩
  · rcases hK with e | ⟨D, rfl, hq⟩
    · exact absurd e hk
    · obtain ⟨mv, hl, rk, hks⟩ := kwd_vals (ms := ms) fun q hm => hq q (hms q hm)
      refine ⟨mv, hr, by rw [← hdl]; exact rk, fun s first us ws X h1 h2 h3 => ?_⟩
      obtain ⟨me, rfl⟩ := List.length_eq_one_iff.mp h1
      exact BindsTo.of_looks fun M => KwChain.looks X hks (hb D doc pm an cdv ct me us ws mv h2 h3 hl)
  · exact absurd rfl z
theorem FnAK.mono {j : Nat} {f : Addr} {F : DF} {n : Nat} {ks : List Str} {dl : List D} {ix : List Nat} (h : FnAK P wd K mg base j f F n ks dl ix) (hj : j ≤ k) : FnAK P wd K mg base k f F n ks dl ix :=
  let ⟨fd, ps, a, b⟩ := h.ex; ⟨fd, ps, a.mono hj, b⟩
end
section
variable {X : Cx} {k : Nat} {f C : Addr} {fd : FuncData} {ps : List Str} {sp : Sp} {pins : List (Addr × Obj)} {σ : L2.St} {H : Hp} {s : Shared} {Q : VK} {us ws : List Value} {vs zs : List V} {W : WX} {n : Nat} {ks : List Str} {ix : List Nat} {dv : List V} {dvs : List Value}
theorem run_gK {v0 : List V} {u0 : List Value} (F : FnG X.prog X.w X.K X.mg X.base k f fd ps sp) (hr : Room k X.A ∧ Tp X.A X.base) (hb : BdTo X.K fd ps u0.length n ks dvs ix) (rd : Vals dv dvs) (tk : Takes X W) (I : Inv X pins σ H s) (r0 : Vals v0 u0) (r : Vals vs us) (rz : Vals zs ws) (l1 : vs.length = n) (l2 : zs.length = ks.length)
    (h : sp (v0 ++ pk ix (vs ++ zs ++ dv)) H Q (WE W σ)) : wpAny (model X.prog X.w) X.A (call (.ref f) (u0 ++ us) (ks.zip ws)) (EP X pins σ Q) X.xe s :=
  wpAny_call (call_g (E := WE W) F hr ⟨u0 ++ us, ks.zip ws⟩ (hb s u0 us ws I.kIn rfl (r.length.symm.trans l1) (rz.length.symm.trans l2)) (passAt tk σ) I (r0.append (Vals.pk ((r.append rz).append rd) ix)) h (fun _ _ z => z) fun _ _ z => z)
theorem run_makeGK (M : Mk X.K C f) (F : FnG X.prog X.w X.K X.mg X.base k f fd ps sp) (hr : Room (k + 1) X.A ∧ Tp X.A X.base) (hb : BdTo X.K fd ps 1 n ks dvs ix) (rd : Vals dv dvs) (tk : Takes X W) (I : Inv X pins σ H s) (r : Vals vs us) (rz : Vals zs ws) (l1 : vs.length = n) (l2 : zs.length = ks.length)
    (h : ∀ x dx, H x = none → H dx = none → dx ≠ x → sp (.ref x :: pk ix (vs ++ zs ++ dv)) (upd (upd H dx (.own x)) x (.ins C dx [])) (fun v H2 => v = .non ∧ Q (.ref x) H2) (WE W σ)) :
    wpAny (model X.prog X.w) X.A (call (.ref C) us (ks.zip ws)) (EP X pins σ Q) X.xe s := by
  have hq := h (s.heap.objs.size + 1) s.heap.objs.size (I.hok.fresh (Nat.le_succ _)) (I.hok.fresh (Nat.le_refl _)) (Nat.ne_of_lt (Nat.lt_succ_self _))
  have I2 := Inv.made (C := C) I
  have r2 : Vals (V.ref (s.heap.objs.size + 1) :: pk ix (vs ++ zs ++ dv)) (Value.ref (s.heap.objs.size + 1) :: pk ix (us ++ ws ++ dvs)) := .cons rfl (Vals.pk ((r.append rz).append rd) ix)
  have bd := hb _ [Value.ref (s.heap.objs.size + 1)] us ws I2.kIn rfl (r.length.symm.trans l1) (rz.length.symm.trans l2)
  refine wpAny_call (make_map (f := f) I.kIn M.makes M.init (beq_iff_eq.mp M.fn) (codeAny_mono (F.go (outer := X.stack) (args := ⟨Value.ref (s.heap.objs.size + 1) :: us, ks.zip ws⟩) ⟨hr.1.make C us (ks.zip ws), hr.2⟩
    (I2.env0.make C us (ks.zip ws)) bd r2 hq) fun r s' hq' => ?_))
  cases r with
  | error e => exact passAt tk σ pins _ _ e s' I2 hq'
  | ok fl =>
    cases fl with
    | ret u =>
      obtain ⟨v, H', I3, rv, ev, q3⟩ := I2.after hq'
      subst ev
      exact ⟨rv, ⟨V.ref (s.heap.objs.size + 1), H', I3, rfl, q3⟩⟩
    | next => exact False.elim hq'
    | brk => exact False.elim hq'
    | cont => exact False.elim hq'
end
section
variable {P : Program} {wd : World} {K : PySem.W.Frag} {mg : Str → Option Value} {base : Heap} {k : Nat} {N : List Str} {sc : SC} {W : WX}
structure MethOKK (P : Program) (wd : World) (K : PySem.W.Frag) (mg : Str → Option Value) (base : Heap) (k : Nat) (C : String) (m : Str) (F : DF) (n : Nat) (ks : List Str) (dl : List D) (ix : List Nat) : Prop where
  c : Cls K (cA K C)
  ex : ∃ (g : Addr) (fd : FuncData) (ps : List Str), FnG P wd K mg base k g fd ps (spD K F) ∧ Meth K (cA K C) m g ∧ BdK K fd ps 1 n ks dl ix
structure MakeOKK (P : Program) (wd : World) (K : PySem.W.Frag) (mg : Str → Option Value) (base : Heap) (k : Nat) (C : String) (F : DF) (n : Nat) (ks : List Str) (dl : List D) (ix : List Nat) : Prop where
  at_ : mg (Str.ofString C) = some (.ref (cA K C))
  ex : ∃ (g : Addr) (fd : FuncData) (ps : List Str), FnG P wd K mg base k g fd ps (spD K F) ∧ Mk K (cA K C) g ∧ BdK K fd ps 1 n ks dl ix
theorem methOKK {C : String} {m : Str} {f : Addr} {F : DF} {i n : Nat} {ks : List Str} {dl : List D} {ix : List Nat} (c : Cls K (cA K C)) (h : Meth K (cA K C) m f) (a : FnAK P wd K mg base i f F n ks dl ix) (hi : i ≤ k := by omega) : MethOKK P wd K mg base k C m F n ks dl ix :=
  let ⟨fd, ps, a, b⟩ := a.ex; ⟨c, f, fd, ps, a.mono hi, h, b⟩
theorem makeOKK {C : String} {f : Addr} {F : DF} {i n : Nat} {ks : List Str} {dl : List D} {ix : List Nat} (at_ : mg (Str.ofString C) = some (.ref (cA K C))) (h : Mk K (cA K C) f) (a : FnAK P wd K mg base i f F n ks dl ix) (hi : i ≤ k := by omega) : MakeOKK P wd K mg base k C F n ks dl ix :=
  let ⟨fd, ps, a, b⟩ := a.ex; ⟨at_, f, fd, ps, a.mono hi, h, b⟩
variable {n j : Nat} {ks : List Str} {dl : List D} {ix : List Nat} {ms mk : EM} {e : Expr} {es : List Expr} {kws : List Keyword} {p pos apos : Pos}
/-- f(a, .., k = e, ..) -/
theorem pr_callK {x : Str} {F : DF} (c : FnK P wd K mg base j x F n ks dl ix) (ha : PAr P wd K mg base k N sc W (e :: es) ms) (hkw : PKr P wd K mg base k N sc W kws mk) (hk : j ≤ k := by omega) (hg : sc.s.names.lookup x = some .globalImplicit := by rfl)
    (hall : ∀ env, (backToKw pos (keywordEach kws env)).all (·.1.isSome) = true := by intro _; rfl) (hks : ∀ env, (backToKw pos (keywordEach kws env)).filterMap (·.1) = ks := by intro _; rfl) (hdb : (x == ("__debug__" : Str)) = false := by decide)
    (he : ∀ env, starEach (e :: es) env = (false, eval e env) :: starEach es env := by intro _; rfl) (hpl : ∀ env, ((backTo pos (starEach (e :: es) env)).any (·.1) || (backToKw pos (keywordEach kws env)).any (·.1.isNone)) = false := by intro _; rfl) :
    PR P wd K mg base k N sc W (.Call (.Name x p) (e :: es) kws pos) (eCall F (eKw n ks.length ix dl ms mk)) := by
  obtain ⟨f, fd, ps, F1, hm, hk1, dvs, rdl, rdv, hb⟩ := c.ex
  obtain ⟨t, pt, r⟩ := ha
  obtain ⟨t2, pt2, r2⟩ := hkw
  refine ⟨_, fun X g => ?_, rt_call (rta_kw (n := n) (m := ks.length) (ix := ix) rdl r r2)⟩
  have pa := pt X g
  have pb := pt2 X g
  have gl := g.gl hg
  obtain ⟨rfl, rfl, rfl, rfl, rfl, rfl, hsc, hc, hr, hgd, tk, _, _⟩ := g
  refine ⟨fun pins s σ H Q I want => ?_⟩
  refine wpAny_Call_Name_kw (ld_glob (Q := _) I gl hm ?_ hdb)
  refine PySem.W.callWith_KW (h₀ := X.base) I.ok.mod.kin hk1 (hall X.env) (thn (pa.run pos pins s σ H _ I want) fun us s1 ⟨vs, H1, I1, r, q⟩ => ?_) (hpl X.env) (he X.env)
  refine thn (pb.run pos pins s1 σ H1 _ I1 q) fun ws s2 ⟨zs, H2, I2, rz, l1, l2, q2⟩ => ⟨I2.kIn, ?_⟩
  rw [hks X.env]
  exact run_gK (u0 := []) (v0 := []) F1 ⟨hr.mono hk, hgd⟩ hb rdv tk I2 .nil r rz l1 l2 q2
/-- f(k = e, ..) -/
theorem pr_callK0 {x : Str} {F : DF} (c : FnK P wd K mg base j x F 0 ks dl ix) (hkw : PKr P wd K mg base k N sc W kws mk) (hk : j ≤ k := by omega) (hg : sc.s.names.lookup x = some .globalImplicit := by rfl)
    (hall : ∀ env, (backToKw pos (keywordEach kws env)).all (·.1.isSome) = true := by intro _; rfl) (hks : ∀ env, (backToKw pos (keywordEach kws env)).filterMap (·.1) = ks := by intro _; rfl) (hdb : (x == ("__debug__" : Str)) = false := by decide)
    (hpl : ∀ env, ((backTo pos (starEach [] env)).any (·.1) || (backToKw pos (keywordEach kws env)).any (·.1.isNone)) = false := by intro _; rfl) :
    PR P wd K mg base k N sc W (.Call (.Name x p) [] kws pos) (eCall F (eKw 0 ks.length ix dl eNil mk)) := by
  obtain ⟨f, fd, ps, F1, hm, hk1, dvs, rdl, rdv, hb⟩ := c.ex
  obtain ⟨t, pt, r⟩ := (pa_nil' : PAr P wd K mg base k N sc W [] eNil)
  obtain ⟨t2, pt2, r2⟩ := hkw
  refine ⟨_, fun X g => ?_, rt_call (t := tKw 0 ks.length ix (dl.map cV) tNil t2) (rta_kw (n := 0) (m := ks.length) (ix := ix) rdl (fun H0 w Γ σ ok f Q p => p [] w (Evo.refl w) ok rfl .nil) r2)⟩
  have pb := pt2 X g
  have gl := g.gl hg
  obtain ⟨rfl, rfl, rfl, rfl, rfl, rfl, hsc, hc, hr, hgd, tk, _, _⟩ := g
  refine ⟨fun pins s σ H Q I want => ?_⟩
  refine wpAny_Call_Name_kw (ld_glob (Q := _) I gl hm ?_ hdb)
  refine PySem.W.callWith_KW0 (h₀ := X.base) I.ok.mod.kin hk1 (hall X.env) ?_ (hpl X.env)
  refine thn (pb.run pos pins s σ H _ I want) fun ws s2 ⟨zs, H2, I2, rz, l1, l2, q2⟩ => ⟨I2.kIn, ?_⟩
  rw [hks X.env]
  exact run_gK (u0 := []) (v0 := []) (us := []) (vs := []) F1 ⟨hr.mono hk, hgd⟩ hb rdv tk I2 .nil .nil rz l1 l2 q2
/-- o.m(a, .., k = e, ..) -/
theorem pr_methK {m : Str} {tab : List (String × DF)} {o : Expr} {mo : EM} {pl : PySem.Env → Sem Bool} (T : ∀ p ∈ tab, MethOKK P wd K mg base j p.1 m p.2 n ks dl ix) (hT : tab ≠ []) (ho : PR P wd K mg base k N sc W o mo) (ha : PAr P wd K mg base k N sc W (e :: es) ms) (hkw : PKr P wd K mg base k N sc W kws mk) (hk : j ≤ k := by omega)
    (hall : ∀ env, (backToKw pos (keywordEach kws env)).all (·.1.isSome) = true := by intro _; rfl) (hks : ∀ env, (backToKw pos (keywordEach kws env)).filterMap (·.1) = ks := by intro _; rfl)
    (he : ∀ env, starEach (e :: es) env = (false, eval e env) :: starEach es env := by intro _; rfl) (hpl : ∀ env, ((backTo pos (starEach (e :: es) env)).any (·.1) || (backToKw pos (keywordEach kws env)).any (·.1.isNone)) = false := by intro _; rfl)
    (ht : ∀ env, eval (.Call (.Attribute o m apos) (e :: es) kws pos) env = (do
      let ov ← eval o env
      standAt apos.atName
      let (f, first) ← holding [ov] (getMethod ov m (pl env))
      callWith pos f first (backTo pos (starEach (e :: es) env)) (backToKw pos (keywordEach kws env))) := by intro _; rfl) :
    PR P wd K mg base k N sc W (.Call (.Attribute o m apos) (e :: es) kws pos) (eMeth tab m mo (eKw n ks.length ix dl ms mk)) := by
  obtain ⟨ta, pa, ra⟩ := ho
  obtain ⟨t, pt, r⟩ := ha
  obtain ⟨t2, pt2, r2⟩ := hkw
  obtain ⟨p0, hp0⟩ := List.exists_mem_of_ne_nil tab hT
  obtain ⟨_, _, _, _, _, _, _, rdl0, _, _⟩ := T p0 hp0
  refine ⟨tMethG K tab m W ta (tKw n ks.length ix (dl.map cV) t t2), fun X g => ⟨fun pins s σ H Q I h => ?_⟩, rt_meth ra (rta_kw rdl0 r r2)⟩
  have pX := pa X g
  have aX := pt X g
  have bX := pt2 X g
  obtain ⟨rfl, rfl, rfl, rfl, rfl, rfl, hsc, hc, hr, hgd, tk, _, _⟩ := g
  obtain ⟨p, hp, h⟩ := h
  obtain ⟨c, gf, fd, ps, F, hm, dvs, rdl, rdv, hb⟩ := T p hp
  refine PySem.W.methodCall_KW (pl := pl X.env) (thn (pX.run pins s σ H _ I h) fun u s1 ⟨x, H1, I1, rx, a, dx, fs, ex, ea, l, q⟩ => ?_) (ht X.env)
  subst ex
  obtain rfl : u = Value.ref a := rx
  refine getmeth_ok I1 ea c hm l ?_
  refine PySem.W.callWith_KW (first := [.ref a]) (h₀ := X.base) I.ok.mod.kin hm.kp (hall X.env) (thn (aX.run pos pins s1 σ H1 _ I1 q) fun us s2 ⟨vs, H2, I2, r, q2⟩ => ?_) (hpl X.env) (he X.env)
  refine thn (bX.run pos pins s2 σ H2 _ I2 q2) fun ws s3 ⟨zs, H3, I3, rz, l1, l2, q3⟩ => ⟨I3.kIn, ?_⟩
  rw [hks X.env]
  exact run_gK (u0 := [.ref a]) (v0 := [.ref a]) F ⟨hr.mono hk, hgd⟩ hb rdv tk I3 (.cons rfl .nil) r rz l1 l2 q3
/-- o.m(k = e, ..) -/
theorem pr_methK0 {m : Str} {tab : List (String × DF)} {o : Expr} {mo : EM} {pl : PySem.Env → Sem Bool} (T : ∀ p ∈ tab, MethOKK P wd K mg base j p.1 m p.2 0 ks dl ix) (hT : tab ≠ []) (ho : PR P wd K mg base k N sc W o mo) (hkw : PKr P wd K mg base k N sc W kws mk) (hk : j ≤ k := by omega)
    (hall : ∀ env, (backToKw pos (keywordEach kws env)).all (·.1.isSome) = true := by intro _; rfl) (hks : ∀ env, (backToKw pos (keywordEach kws env)).filterMap (·.1) = ks := by intro _; rfl)
    (hpl : ∀ env, ((backTo pos (starEach [] env)).any (·.1) || (backToKw pos (keywordEach kws env)).any (·.1.isNone)) = false := by intro _; rfl)
    (ht : ∀ env, eval (.Call (.Attribute o m apos) [] kws pos) env = (do
      let ov ← eval o env
      standAt apos.atName
      let (f, first) ← holding [ov] (getMethod ov m (pl env))
      callWith pos f first (backTo pos (starEach [] env)) (backToKw pos (keywordEach kws env))) := by intro _; rfl) :
    PR P wd K mg base k N sc W (.Call (.Attribute o m apos) [] kws pos) (eMeth tab m mo (eKw 0 ks.length ix dl eNil mk)) := by
  obtain ⟨ta, pa, ra⟩ := ho
  obtain ⟨t2, pt2, r2⟩ := hkw
  obtain ⟨p0, hp0⟩ := List.exists_mem_of_ne_nil tab hT
  obtain ⟨_, _, _, _, _, _, _, rdl0, _, _⟩ := T p0 hp0
  refine ⟨tMethG K tab m W ta (tKw 0 ks.length ix (dl.map cV) tNil t2), fun X g => ⟨fun pins s σ H Q I h => ?_⟩, rt_meth ra (rta_kw rdl0 (fun H0 w Γ σ ok f Q p => p [] w (Evo.refl w) ok rfl .nil) r2)⟩
  have pX := pa X g
  have bX := pt2 X g
  obtain ⟨rfl, rfl, rfl, rfl, rfl, rfl, hsc, hc, hr, hgd, tk, _, _⟩ := g
  obtain ⟨p, hp, h⟩ := h
  obtain ⟨c, gf, fd, ps, F, hm, dvs, rdl, rdv, hb⟩ := T p hp
  refine PySem.W.methodCall_KW (pl := pl X.env) (thn (pX.run pins s σ H _ I h) fun u s1 ⟨x, H1, I1, rx, a, dx, fs, ex, ea, l, q⟩ => ?_) (ht X.env)
  subst ex
  obtain rfl : u = Value.ref a := rx
  refine getmeth_ok I1 ea c hm l ?_
  refine PySem.W.callWith_KW0 (first := [.ref a]) (h₀ := X.base) I.ok.mod.kin hm.kp (hall X.env) ?_ (hpl X.env)
  refine thn (bX.run pos pins s1 σ H1 _ I1 q) fun ws s3 ⟨zs, H3, I3, rz, l1, l2, q3⟩ => ⟨I3.kIn, ?_⟩
  rw [hks X.env]
  exact run_gK (u0 := [.ref a]) (v0 := [.ref a]) (us := []) (vs := []) F ⟨hr.mono hk, hgd⟩ hb rdv tk I3 (.cons rfl .nil) .nil rz l1 l2 q3
/-- C(a, .., k = e, ..) -/
theorem pe_makeGK {X : Cx} {C : String} {F : DF} {t t2 : TA} (g : G P wd K mg base k N sc W X) (M : MakeOKK P wd K mg base j C F n ks dl ix) (pa : PA X (e :: es) t) (pb : PK X kws t2) (hk : j + 1 ≤ k) (hg : sc.s.names.lookup (Str.ofString C) = some .globalImplicit)
    (hall : ∀ env, (backToKw pos (keywordEach kws env)).all (·.1.isSome) = true) (hks : ∀ env, (backToKw pos (keywordEach kws env)).filterMap (·.1) = ks) (hdb : (Str.ofString C == ("__debug__" : Str)) = false)
    (he : ∀ env, starEach (e :: es) env = (false, eval e env) :: starEach es env) (hpl : ∀ env, ((backTo pos (starEach (e :: es) env)).any (·.1) || (backToKw pos (keywordEach kws env)).any (·.1.isNone)) = false) :
    PE X (.Call (.Name (Str.ofString C) p) (e :: es) kws pos) (tMakeG K C F W (tKw n ks.length ix (dl.map cV) t t2)) := by
  obtain ⟨rfl, rfl, rfl, rfl, rfl, rfl, hsc, hc, hr, hgd, tk, _, _⟩ := g
  obtain ⟨hm, gf, fd, ps, F1, M1, dvs, rdl, rdv, hb⟩ := M
  refine ⟨fun pins s σ H Q I h => ?_⟩
  refine wpAny_Call_Name_kw (ld_glob I (by unfold Gl PySem.Env.kindOf; rw [hsc]; exact hg) hm ?_ hdb)
  refine PySem.W.callWith_KW (h₀ := X.base) I.ok.mod.kin M1.kp (hall X.env) (thn (pa.run pos pins s σ H _ I h) fun us s1 ⟨vs, H1, I1, r, q⟩ => ?_) (hpl X.env) (he X.env)
  refine thn (pb.run pos pins s1 σ H1 _ I1 q) fun ws s2 ⟨zs, H2, I2, rz, l1, l2, q2⟩ => ⟨I2.kIn, ?_⟩
  rw [hks X.env]
  exact run_makeGK M1 F1 ⟨hr.mono hk, hgd⟩ hb rdv tk I2 r rz l1 l2 q2
theorem pe_makeGK0 {X : Cx} {C : String} {F : DF} {t2 : TA} (g : G P wd K mg base k N sc W X) (M : MakeOKK P wd K mg base j C F 0 ks dl ix) (pb : PK X kws t2) (hk : j + 1 ≤ k) (hg : sc.s.names.lookup (Str.ofString C) = some .globalImplicit)
    (hall : ∀ env, (backToKw pos (keywordEach kws env)).all (·.1.isSome) = true) (hks : ∀ env, (backToKw pos (keywordEach kws env)).filterMap (·.1) = ks) (hdb : (Str.ofString C == ("__debug__" : Str)) = false)
    (hpl : ∀ env, ((backTo pos (starEach [] env)).any (·.1) || (backToKw pos (keywordEach kws env)).any (·.1.isNone)) = false) :
    PE X (.Call (.Name (Str.ofString C) p) [] kws pos) (tMakeG K C F W (tKw 0 ks.length ix (dl.map cV) tNil t2)) := by
  obtain ⟨rfl, rfl, rfl, rfl, rfl, rfl, hsc, hc, hr, hgd, tk, _, _⟩ := g
  obtain ⟨hm, gf, fd, ps, F1, M1, dvs, rdl, rdv, hb⟩ := M
  refine ⟨fun pins s σ H Q I h => ?_⟩
  refine wpAny_Call_Name_kw (ld_glob I (by unfold Gl PySem.Env.kindOf; rw [hsc]; exact hg) hm ?_ hdb)
  refine PySem.W.callWith_KW0 (h₀ := X.base) I.ok.mod.kin M1.kp (hall X.env) ?_ (hpl X.env)
  refine thn (pb.run pos pins s σ H _ I h) fun ws s2 ⟨zs, H2, I2, rz, l1, l2, q2⟩ => ⟨I2.kIn, ?_⟩
  rw [hks X.env]
  exact run_makeGK (us := []) (vs := []) M1 F1 ⟨hr.mono hk, hgd⟩ hb rdv tk I2 .nil rz l1 l2 q2
theorem pr_makeK (C : String) {F : DF} (M : MakeOKK P wd K mg base j C F n ks dl ix) (ha : PAr P wd K mg base k N sc W (e :: es) ms) (hkw : PKr P wd K mg base k N sc W kws mk) (hk : j + 1 ≤ k := by omega) (hg : sc.s.names.lookup (Str.ofString C) = some .globalImplicit := by rfl)
    (hall : ∀ env, (backToKw pos (keywordEach kws env)).all (·.1.isSome) = true := by intro _; rfl) (hks : ∀ env, (backToKw pos (keywordEach kws env)).filterMap (·.1) = ks := by intro _; rfl) (hdb : (Str.ofString C == ("__debug__" : Str)) = false := by decide)
    (he : ∀ env, starEach (e :: es) env = (false, eval e env) :: starEach es env := by intro _; rfl) (hpl : ∀ env, ((backTo pos (starEach (e :: es) env)).any (·.1) || (backToKw pos (keywordEach kws env)).any (·.1.isNone)) = false := by intro _; rfl) :
    PR P wd K mg base k N sc W (.Call (.Name (Str.ofString C) p) (e :: es) kws pos) (eMake C F (eKw n ks.length ix dl ms mk)) := by
  obtain ⟨t, pt, r⟩ := ha
  obtain ⟨t2, pt2, r2⟩ := hkw
  obtain ⟨_, _, _, _, _, _, _, rdl, _, _⟩ := id M
  exact ⟨_, fun X g => pe_makeGK g M (pt X g) (pt2 X g) hk hg hall hks hdb he hpl, rt_make (rta_kw rdl r r2)⟩
theorem pr_makeK0 (C : String) {F : DF} (M : MakeOKK P wd K mg base j C F 0 ks dl ix) (hkw : PKr P wd K mg base k N sc W kws mk) (hk : j + 1 ≤ k := by omega) (hg : sc.s.names.lookup (Str.ofString C) = some .globalImplicit := by rfl)
    (hall : ∀ env, (backToKw pos (keywordEach kws env)).all (·.1.isSome) = true := by intro _; rfl) (hks : ∀ env, (backToKw pos (keywordEach kws env)).filterMap (·.1) = ks := by intro _; rfl) (hdb : (Str.ofString C == ("__debug__" : Str)) = false := by decide)
    (hpl : ∀ env, ((backTo pos (starEach [] env)).any (·.1) || (backToKw pos (keywordEach kws env)).any (·.1.isNone)) = false := by intro _; rfl) :
    PR P wd K mg base k N sc W (.Call (.Name (Str.ofString C) p) [] kws pos) (eMake C F (eKw 0 ks.length ix dl eNil mk)) := by
  obtain ⟨t2, pt2, r2⟩ := hkw
  obtain ⟨_, _, _, _, _, _, _, rdl, _, _⟩ := id M
  exact ⟨_, fun X g => pe_makeGK0 g M (pt2 X g) hk hg hall hks hdb hpl, rt_make (rta_kw rdl (fun H0 w Γ σ ok f Q p => p [] w (Evo.refl w) ok rfl .nil) r2)⟩
theorem pr_makeKR (C : String) {F : DF} (M : MakeOKK P wd K mg base j C F 0 ks dl ix) (hkw : PKr P wd K mg base k N sc W kws mk) (hk : j + 1 ≤ k := by omega) (hg : sc.s.names.lookup (Str.ofString C) = some .globalImplicit := by rfl)
    (hall : ∀ env, (backToKw pos (keywordEach kws env)).all (·.1.isSome) = true := by intro _; rfl) (hks : ∀ env, (backToKw pos (keywordEach kws env)).filterMap (·.1) = ks := by intro _; rfl) (hdb : (Str.ofString C == ("__debug__" : Str)) = false := by decide)
    (hpl : ∀ env, ((backTo pos (starEach [] env)).any (·.1) || (backToKw pos (keywordEach kws env)).any (·.1.isNone)) = false := by intro _; rfl) :
    PR P wd K mg base k N sc W (.Call (.Name (Str.ofString C) p) [] kws pos) (eMakeR C F (eKw 0 ks.length ix dl eNil mk)) := by
  obtain ⟨t2, pt2, r2⟩ := hkw
  obtain ⟨_, _, _, _, _, _, _, rdl, _, _⟩ := id M
  exact ⟨_, fun X g => pe_makeGK0 g M (pt2 X g) hk hg hall hks hdb hpl, rt_makeR (rta_kw rdl (fun H0 w Γ σ ok f Q p => p [] w (Evo.refl w) ok rfl .nil) r2)⟩
end
end DL
/-! {**d, k: v} -/
namespace DL
open PySem L2 PySem.Spec PyProof.Rows
section
variable {prog : Program} {w : World} {K : Type} [DecidableEq K] {knd : PySem.KeyKind prog w K} {A : Around} {E : Value → Shared → Prop} {s : Shared}
theorem put_pairs {d : Addr} {kvs : List (K × Value)} {k : K} {key v : Value} {Q : Unit → Shared → Prop} (hkey : knd.is k key = true) (hm : s.heap.DictOf knd d kvs)
    (hQ : ∀ h', h'.DictOf knd d (stored kvs k v) → Heap.SameBut d s.heap h' → Q () { s with heap := h' }) (hsz : kvs.length ≤ sizeLine) : wpAny (model prog w) A (dictPut d (knd.hash k) key v) Q E s := by
  obtain ⟨o, es, ep, ho, hc, hd, hk, hp, hn⟩ := hm
  have z : es.size ≤ sizeLine := by rw [← Array.length_toList, hp.length]; exact hsz
  unfold dictPut
  refine wpAny_bind (wpAny_dictFind_of hkey ho hd hk ?_)
  have fi : (es.findIdx? fun e => knd.is k e.key) = kvs.findIdx? fun kv => decide (kv.1 = k) := by
    rw [← hp.findIdx k]; obtain ⟨l⟩ := es; simp
  cases hi : es.findIdx? fun e => knd.is k e.key with
  | some i =>
    have st : stored kvs k v = kvs.map fun kv => if kv.1 = k then (kv.1, v) else kv := by rw [stored, if_pos (any_of_findIdx_some (fi ▸ hi))]
    refine wpAny_updateDict ho hd (hQ _ ⟨_, _, ep, Heap.get?_update_self _ ho (Obj.isFreed_of_dict (Obj.data_mapDict hd _)), hc.mapDict _, Obj.data_mapDict hd _, hk.modify _ _, ?_, ?_⟩ (Heap.SameBut.update ..))
    · have hl : (es.toList.findIdx? fun e => knd.is k e.key) = some i := by rw [← hi]; obtain ⟨l⟩ := es; simp
      have q := hp.modify hn hl v
      rw [stored, if_pos (any_of_findIdx_some (fi ▸ hi))]
      obtain ⟨l⟩ := es
      simpa using q
    · rw [stored, if_pos (any_of_findIdx_some (fi ▸ hi)), keys_map_store]; exact hn
  | none =>
    have ni : k ∉ kvs.map (·.1) := not_mem_of_findIdx_none (fi ▸ hi)
    have na : ¬ (kvs.any fun kv => decide (kv.1 = k)) = true := fun q => by
      obtain ⟨kv, h1, h2⟩ := List.any_eq_true.mp q
      exact ni (List.mem_map.mpr ⟨kv, h1, of_decide_eq_true h2⟩)
    refine wpAny_updateDictKeys (hz := z) ho hd (hQ _ ⟨_, _, ep + 1, Heap.get?_update_self _ ho (Obj.isFreed_of_dict (Obj.data_mapDictKeys hd _)), hc.mapDictKeys _, Obj.data_mapDictKeys hd _, hk.push hkey _, ?_, ?_⟩ (Heap.SameBut.update ..))
    · rw [stored, if_neg na]
      have q := hp.append hkey (knd.hash k) v
      obtain ⟨l⟩ := es
      simpa using q
    · rw [stored, if_neg na, List.map_append, List.nodup_append]
      exact ⟨hn, by simp, fun a ha b hb q => ni (by simp at hb; rw [← hb, ← q]; exact ha)⟩
/-- the loop -/
theorem merge_loop {d a : Addr} {acc more : List (K × Value)} {Q : Unit → Shared → Prop} (hne : d ≠ a) (hd : s.heap.DictOf knd d acc) (ha : s.heap.DictOf knd a more)
    (hQ : ∀ h', h'.DictOf knd d (merged acc more) → Heap.SameBut d s.heap h' → Q () { s with heap := h' }) (hsz : acc.length + more.length ≤ sizeLine) : wpAny (model prog w) A (do
        let l ← dictEntries a
        let epoch ← dictEpoch a
        let _ ← forIn (List.range l.size) PUnit.unit fun i (_ : PUnit) => (do
            let l' ← dictEntries a
            match l'[i]? with
            | some e => do
              holding [e.key, e.val] (if false = true then do
                let r ← dictFind d e.key e.hash
                if r.isSome = true then do
                  rule "dict.merge.duplicate-key"
                  let x ← newExc (Value.type "KeyError") [e.key]
                  raiseNew x
                  dictPut d e.hash e.key e.val
                else dictPut d e.hash e.key e.val
              else dictPut d e.hash e.key e.val)
              let ep' ← dictEpoch a
              if (ep' != epoch) = true then do
                (unsupported "dict.changed-during-merge" : Sem PUnit)
                pure (ForInStep.yield PUnit.unit)
              else pure (ForInStep.yield PUnit.unit)
            | x => do
              (unsupported "dict.changed-during-merge" : Sem PUnit)
              pure (ForInStep.yield PUnit.unit) : Sem (ForInStep PUnit))
        pure ()) Q E s := by
  obtain ⟨oa, es, ep, ho, hc, hda, hk, hp, hn⟩ := id ha
  have hlen : es.size = more.length := by rw [← Array.length_toList, hp.length]
  refine wpAny_bind (wpAny_dictEntries ho hda ?_)
  refine wpAny_bind (wpAny_dictEpoch ho hda ?_)
  refine wpAny_bind ?_
  refine wpAny_forIn_list _ (fun rest _ s' => ∃ h' i, s' = { s with heap := h' } ∧ rest = (List.range es.size).drop i ∧ i ≤ es.size ∧ h'.DictOf knd d (merged acc (more.take i)) ∧ Heap.SameBut d s.heap h')
    _ ?_ ?_ _ _ ⟨s.heap, 0, rfl, rfl, Nat.zero_le _, by simpa [merged] using hd, Heap.SameBut.refl _ _⟩
  · rintro x rest b s' ⟨h', i, rfl, hr, hi, hd', hs'⟩
    have lt : i < es.size := by
      rcases Nat.lt_or_ge i es.size with h | h
      · exact h
      · rw [List.drop_eq_nil_of_le (by simpa using h)] at hr; cases hr
    rw [List.drop_eq_getElem_cons (by simpa using lt)] at hr
    injection hr with h1 h2
    have e1 : x = i := by simpa using h1
    subst e1
    have hoo : h'.get? a = some oa := (hs'.2 a (Ne.symm hne)).trans ho
    refine wpAny_bind (wpAny_dictEntries hoo hda ?_)
    rw [Array.getElem?_eq_getElem lt]
    obtain ⟨kv, hkv⟩ : ∃ kv, more[x]? = some kv := ⟨more[x]'(by rw [← hlen]; exact lt), List.getElem?_eq_getElem _⟩
    obtain ⟨k, v⟩ := kv
    obtain ⟨hkey, hval⟩ := hp.get? (e := es[x]) (by simp [lt]) hkv
    obtain ⟨k', hkey', hhash⟩ := hk es[x] (Array.getElem_mem lt)
    obtain rfl : k' = k := knd.inj _ _ _ hkey' hkey
    dsimp only
    rw [if_neg Bool.false_ne_true, hhash, hval]
    have z : (merged acc (more.take x)).length ≤ sizeLine := by
      have a1 := merged_length_le acc (more.take x)
      have a2 : (more.take x).length ≤ more.length := by rw [List.length_take]; omega
      omega
    refine wpAny_bind (wpAny_holding (put_pairs hkey hd' (fun h'' hd'' hs'' => ?_) z))
    have hoo2 : h''.get? a = some oa := (hs''.2 a (Ne.symm hne)).trans hoo
    refine wpAny_bind (wpAny_dictEpoch hoo2 hda ?_)
    rw [if_neg (by simp)]
    exact wpAny_pure ⟨h'', x + 1, rfl, h2, lt, by rw [merged_take_succ acc more x (k', v) hkv]; exact hd'', hs'.trans hs''⟩
  · rintro b s' ⟨h', i, rfl, hr, hi, hd', hs'⟩
    have e : i = es.size := by
      have := congrArg List.length hr
      simp at this
      omega
    rw [e, hlen, List.take_length] at hd'
    exact wpAny_pure (hQ h' hd' hs')
theorem merge_pairs {d a : Addr} {acc more : List (K × Value)} {Q : Unit → Shared → Prop} (hne : d ≠ a) (hS : (a == sysModules) = false) (hd : s.heap.DictOf knd d acc) (ha : s.heap.DictOf knd a more) (nr : ∀ k v, knd.is k v = true → ∀ b, v ≠ .ref b)
    (hQ : ∀ h', h'.DictOf knd d (merged acc more) → Heap.SameBut d s.heap h' → Q () { s with heap := h' }) (hsz : acc.length + more.length ≤ sizeLine) : wpAny (model prog w) A (mergeMapping d (.ref a) false) Q E s := by
  obtain ⟨od, esd, epd, hod, hcd, hdd, hkd, hpd, hnd⟩ := id hd
  obtain ⟨oa, es, ep, ho, hc, hda, hk, hp, hn⟩ := id ha
  unfold mergeMapping
  refine wpAny_bind (wpAny_isInstance ha.typeIs isSubtype_dict_dict ?_)
  try dsimp only
  rw [if_pos rfl]
  refine wpAny_bind (wpAny_specialOf ha.typeIs F.slot_dict_iter.lookup ?_)
  refine wpAny_bind (wpAny_pure ?_)
  rw [show (some (Value.builtin "dict.__iter__") == some (Value.builtin "dict.__iter__")) = true from beq_self_eq_true _]
  dsimp only
  rw [hS, if_neg Bool.false_ne_true]
  refine wpAny_bind (wpAny_dictEntries hod hdd ?_)
  have fin := merge_loop (A := A) (E := E) (Q := Q) hne hd ha hQ hsz
  split
  · refine wpAny_bind (wpAny_dictEntries ho hda ?_)
    refine wpAny_bind ?_
    rw [← Array.forIn_toList]
    refine wpAny_forIn_list _ (fun rest _ s' => s' = s ∧ ∀ e ∈ rest, e ∈ es.toList) _ ?_ ?_ _ _ ⟨rfl, fun _ h => h⟩
    · rintro x rest b s' ⟨rfl, hr⟩
      obtain ⟨k, h1, _⟩ := hk x (by simpa using hr x List.mem_cons_self)
      have h2 := nr k _ h1
      split
      · rename_i b' hb
        exact absurd hb (h2 b')
      · exact wpAny_pure ⟨rfl, fun e he => hr e (List.mem_cons_of_mem _ he)⟩
    · rintro b s' ⟨rfl, _⟩
      exact fin
  · exact fin
end
theorem kV_noref {P : Program} {w : World} (k : Key) (v : Value) (h : (mixKind P w).is k v = true) (b : Addr) : v ≠ .ref b := by
  rintro rfl
  cases k with
  | inl i => cases h
  | inr x => obtain ⟨t, q⟩ := Value.isStrOf_shape (show Value.isStrOf x (.ref b) = true from h); cases q
section
variable {X : Cx}
def tDupd (td tk tv : TE) : TE := fun σ H Q => ∀ p, H p = none → td σ (upd H p (.dK [])) fun x H1 => ∃ a kvs, x = .ref a ∧ Rd H1 a (.dK kvs) ∧ H1 p = some (.dK []) ∧ a ≠ p ∧ ∀ p2, upd H1 p (.dK (mergeK [] kvs)) p2 = none →
  tk σ (upd (upd H1 p (.dK (mergeK [] kvs))) p2 (.dK [])) fun y H2 => tv σ H2 fun z H3 => ∃ k : Key, y = kV k ∧ H3 p = some (.dK (mergeK [] kvs)) ∧ H3 p2 = some (.dK []) ∧ p ≠ p2 ∧ (mergeK [] kvs).length + 1 ≤ sizeLine ∧ Q (.ref p) (upd (upd H3 p2 (.dK [(k, z)])) p (.dK (putK (mergeK [] kvs) k z)))
theorem pe_dupd {d k v : Expr} {pos : Pos} {td tk tv : TE} (hd : PE X d td) (hk : PE X k tk) (hv : PE X v tv) : PE X (.Dict [none, some k] [d, v] pos) (tDupd td tk tv) := by
  refine ⟨fun pins s σ H Q I q => ?_⟩
  rw [arm_eval_Dict]
  refine wpAny_bind (wpAny_standAt ?_)
  show wpAny _ _ (dictDisplay [(none, (do let x ← eval d X.env; standAt pos; pure x)), (some (eval k X.env), (do let x ← eval v X.env; standAt pos; pure x))]) _ _ s
  unfold dictDisplay
  simp only [List.forIn_cons, List.forIn_nil]
  have hn := I.hok.fresh (Nat.le_refl s.heap.objs.size)
  have I1 := I.laid (a := s.heap.objs.size) (o := .dK []) (h' := s.heap.push { cls := .type "dict", data := .dict #[] }) (t' := s.toks) (fun _ _ q => Heap.get?_push_of_some _ q) (Nat.le_refl _) (dk_empty s.heap I.big)
  refine wpAny_bind (wpAny_bind ?_)
  refine wpAny_bind ?_
  rw [if_pos (show ([] : List (Sem Value × Sem Value)).isEmpty = true from rfl)]
  refine wpAny_pure ?_
  dsimp only
  refine wpAny_bind (wpAny_alloc ?_)
  refine wpAny_bind (wpAny_holding (wpAny_bind (thn (hd.run pins _ σ _ _ I1 (q _ hn)) fun u s2 ⟨x, H1, I2, rx, a, kvs, ex, ha, hp, hap, q2⟩ => wpAny_bind (wpAny_standAt (wpAny_pure ?_)))))
  subst ex
  obtain rfl : u = Value.ref a := rx
  obtain ⟨z1, hd1, vs0, r0, d0⟩ := dk_of I2.hok hp
  cases r0
  obtain ⟨z2, hd2, vs1, r1, d1⟩ := dk_rd I2.hok ha
  have l1 : vs1.length = kvs.length := r1.length.symm
  have hmm : ∀ {Q' : Unit → Shared → Prop} {E' : Value → Shared → Prop}, (∀ h', h'.DictOf (mixKind X.prog X.w) s.heap.objs.size (merged [] vs1) → Heap.SameBut s.heap.objs.size s2.heap h' → Q' () { s2 with heap := h' }) → wpAny (model X.prog X.w) X.A (mergeMapping s.heap.objs.size (.ref a) false) Q' E' s2 :=
    fun hq => merge_pairs (knd := mixKind X.prog X.w) (Ne.symm hap) hd2 d0 d1 (fun k v h => kV_noref k v h) hq (by rw [l1]; simpa using z2)
  refine wpAny_bind (wpAny_onRaise (wpAny_tryCatch (wpAny_onRaise (wpAny_holding (hmm fun h' dd' hs => ?_)))))
  have lm : (mergeK [] kvs).length ≤ sizeLine := by have := length_mergeK kvs []; simp at this; omega
  have he : ∃ q, h'.get? s.heap.objs.size = some q := let ⟨q, _, _, hq, _⟩ := dd'; ⟨q, hq⟩
  have I3 := d_write (t' := s2.toks) I2 (by rw [hp]; exact True.intro) hs he (dk_new (kvs := mergeK [] kvs) lm hd1 (r1.merge .nil) dd')
  refine wpAny_pure (wpAny_pure ?_)
  dsimp only
  rw [if_neg (by simp)]
  refine wpAny_bind (wpAny_bind ?_)
  have hn2 := I3.hok.fresh (Nat.le_refl h'.objs.size)
  have I4 := I3.laid (a := h'.objs.size) (o := .dK []) (h' := h'.push { cls := .type "dict", data := .dict #[] }) (t' := s2.toks) (fun _ _ q => Heap.get?_push_of_some _ q) (Nat.le_refl _) (dk_empty h' I3.big)
  refine (wpAny_holding (wpAny_subDict (knd := mixKind X.prog X.w) (by simp) ?_))
  refine wpAny_mono ((pps_cons hk hv (pps_nil (pos := pos)) : PPs X pos [some k] [v] [(tk, tv)]).run pins _ σ _ (fun ps H4 => match ps with | [(y, z)] => (∃ k : Key, y = kV k ∧ H4 s.heap.objs.size = some (.dK (mergeK [] kvs)) ∧ H4 h'.objs.size = some (.dK []) ∧ s.heap.objs.size ≠ h'.objs.size ∧ (mergeK [] kvs).length + 1 ≤ sizeLine ∧ Q (.ref s.heap.objs.size) (upd (upd H4 h'.objs.size (.dK [(k, z)])) s.heap.objs.size (.dK (putK (mergeK [] kvs) k z)))) | _ => False) I4 ?_) (fun ws s5 hw => ?_) fun _ _ z => z
  · exact q2 _ hn2
  · obtain ⟨ps, H4, I5, rel, hq⟩ := hw
    obtain ⟨y, z, rfl⟩ : ∃ y z, ps = [(y, z)] := by
      cases ps with
      | nil => exact hq.elim
      | cons p r => cases r with
        | nil => exact ⟨p.1, p.2, rfl⟩
        | cons _ _ => exact hq.elim
    obtain ⟨k', rfl, e1, e2, ne, zz, qq⟩ := hq
    obtain ⟨rs, c, rk⟩ := carries_of (P := X.prog) (w := X.w) (kvs := [(k', z)]) rel
    obtain ⟨_, hdS, _, r0', dS⟩ := dk_of I5.hok e2
    cases r0'
    refine ⟨rs, c, dS, fun h6 d6 s6 => ?_⟩
    have he6 : ∃ q, h6.get? h'.objs.size = some q := let ⟨q, _, _, hq, _⟩ := d6; ⟨q, hq⟩
    have ek : mergeK [] [(k', z)] = [(k', z)] := rfl
    have I6 := d_write (t' := s5.toks + ws.length) I5 (by rw [e2]; exact True.intro) s6 he6 (dk_new (kvs := [(k', z)]) (by simp [sizeLine_eq]) hdS (ek ▸ rk.merge .nil) d6)
    have e1' : upd H4 h'.objs.size (.dK [(k', z)]) s.heap.objs.size = some (.dK (mergeK [] kvs)) := by rw [upd_ne ne]; exact e1
    obtain ⟨_, hdM, vsM, rM, dM⟩ := dk_of I6.hok e1'
    obtain ⟨_, _, vsS, rS, dS2⟩ := dk_of I6.hok (show upd H4 h'.objs.size (.dK [(k', z)]) h'.objs.size = some (.dK [(k', z)]) from upd_same)
    refine wpAny_bind (wpAny_onRaise (wpAny_holding (merge_pairs (knd := mixKind X.prog X.w) ne hdS dM dS2 (fun k v h => kV_noref k v h) (fun h7 d7 s7 => ?_) (by rw [← rM.length, ← rS.length]; simpa using zz))))
    have he7 : ∃ q, h7.get? s.heap.objs.size = some q := let ⟨q, _, _, hq, _⟩ := d7; ⟨q, hq⟩
    have lp : (putK (mergeK [] kvs) k' z).length ≤ sizeLine := by have := length_putK (mergeK [] kvs) k' z; omega
    have I7 := d_write (t' := s5.toks + ws.length) I6 (by rw [e1']; exact True.intro) s7 he7 (dk_new (kvs := putK (mergeK [] kvs) k' z) lp hdM (rS.merge rM) d7)
    refine wpAny_pure ?_
    dsimp only
    exact wpAny_pure ⟨.ref s.heap.objs.size, _, I7, rfl, qq⟩
end
end DL
/-! dict displays -/
namespace DL
open PySem L2
/-- a thing of one's own at p: not frozen, not in the store -/
structure Pv (w : Wd) (p : Addr) (o : HO) : Prop where
  h : w.H p = some o
  m : w.M p = none
  r : ∀ l, l < w.st.length → w.ρ l ≠ p
section
variable {K : PySem.W.Frag} {w w2 w0 : Wd} {H0 : Hp} {Γ : DEnv} {σ : L2.St} {p : Addr} {o o' : HO}
theorem Pv.evo (v : Pv w p o) (e : Evo w w2) : Pv w2 p o where
  h := e.keep p o v.h v.m v.r
  m := by
    cases q : w2.M p with
    | none => rfl
    | some u => have z := e.newM p u q v.m; rw [v.h] at z; cases z
  r := fun l hl q => by
    by_cases z : l < w.st.length
    · exact v.r l z ((e.rho l z).symm.trans q)
    · have y := e.newR l (Nat.le_of_not_lt z) hl
      rw [q, v.h] at y; cases y
theorem Pv.new (k : Ok K w) (hp : w.H p = none) : Pv (w.al p o) p o := ⟨upd_same, k.none hp, k.noR hp⟩
theorem Pv.al (v : Pv w p o) : Pv (w.al p o') p o' := ⟨upd_same, v.m, v.r⟩
theorem evo_al2 (e : Evo w0 w) (h0 : w0.H p = none) : Evo w0 (w.al p o) where
  mono := e.mono
  rho := e.rho
  le := e.le
  newM := e.newM
  newR := e.newR
  keep := fun b u h a c => by show upd w.H p o b = _; rw [upd_ne (fun z => by rw [z, h0] at h; cases h)]; exact e.keep b u h a c
theorem ext_al : Ext w (w.al p o) := ext_same rfl rfl rfl
theorem fr_al (f : Fr K H0 w Γ σ) (hp : ∀ (i : Nat) (d : D), Γ[i]? = some (Sl.ow d) → σ[i]? ≠ some (some (V.ref p))) : Fr K H0 (w.al p o) Γ σ where
  len := f.len
  sh := fun i d h => let ⟨v, a, b⟩ := f.sh i d h; ⟨v, a, b.ext ext_al⟩
  ow := fun i d h => by
    obtain ⟨a, u, h1, h2, h3, h4, h5, h6⟩ := f.ow i d h
    have ne : a ≠ p := fun z => hp i d h (by rw [← z]; exact h1)
    exact ⟨a, u, h1, by show upd w.H p o a = _; rw [upd_ne ne]; exact h2, h3, h4, h5, h6.ext ext_al⟩
  dj := f.dj
theorem fr_ne (f : Fr K H0 w Γ σ) (hp : w.H p = none) : ∀ (i : Nat) (d : D), Γ[i]? = some (Sl.ow d) → σ[i]? ≠ some (some (V.ref p)) := fun i d h q => by
  obtain ⟨a, u, h1, h2, _⟩ := f.ow i d h
  rw [q] at h1
  have e : p = a := by simpa using h1
  subst e
  rw [hp] at h2; cases h2
theorem rep_nep {v : V} {d : D} {a : Addr} (v0 : Pv w p o) (k : Ok K w) (r : Rep K w v d) (hv : v = .ref a) {kvs : List (Key × D)} (hd : deref w.st d = .dct kvs) : a ≠ p := by
  rintro rfl
  subst hv
  cases r with
  | dct h => rw [v0.m] at h; cases h
  | @ref l h => exact v0.r l h rfl
  | lst h => cases hd
  | tup h => cases hd
  | ins h => cases hd
  | scr h => cases hd
  | cls => cases hd
  | opq => cases hd
  | exc0 h => cases hd
  | exc1 h => cases hd
end
section
variable {P : Program} {wd : World} {K : PySem.W.Frag} {mg : Str → Option Value} {base : Heap} {k : Nat} {N : List Str} {sc : SC} {W : WX}
/-- {**d, k: v} -/
def eDupd (md mk mv : EM) : EM := fun Γ st => (md Γ st).bind fun x s1 => match deref s1 x with
  | .dct kvs => (mk Γ s1).bind fun y s2 => (mv Γ s2).bind fun z s3 => match keyD y with
    | some q => if (mergeD [] kvs).length + 1 ≤ 16777216 then .ok (.dct (putD (mergeD [] kvs) q z)) s3 else .no
    | none => .no
  | _ => .no
theorem mergeD_len {w : Wd} {vs : List (Key × V)} {xs : List (Key × D)} (r : RepP K w vs xs) : vs.length = xs.length := by simpa using congrArg List.length r.1
theorem PostN.err' {w : Wd} {x : Xn} {st : Store} {Q : VK} {E : XK} (p : PostN K w (.err x st) Q E) : PostE K w (.err x st) Q E := p
theorem rtn_dupd {td tk tv : TE} {md mk mv : EM} (rd : RT K W td md) (rk : RT K W tk mk) (rv : RT K W tv mv) : RTN K W (tDupd td tk tv) (eDupd md mk mv) := by
  intro H0 w Γ σ ok f Q q p hp
  have v1 : Pv (w.al p (.dK [])) p (.dK []) := Pv.new ok hp
  have k1 := ok_al ok (.dK []) (ok.none hp) (ok.noR hp)
  have e1 := evo_al ok (.dK []) hp
  have nep := fr_ne f hp
  have f1 : Fr K H0 (w.al p (.dK [])) Γ σ := fr_al f nep
  have q' := PostN.shift e1 k1 q
  refine RT.use (P := fun w' r => PostN K w r Q (at_ W σ)) rd k1 f1 (fun _ _ _ _ z => z) (fun x st z => (fun c dd w' ev k' s r => z c dd w' (e1.trans k1 ev) k' s r)) (fun z => z) (show PostN K w ((md Γ w.st).bind _) Q (at_ W σ) from q) fun d v w2 e2 k2 f2 r2 p2 => ?_
  have v2 := v1.evo e2
  have vw := r2.vw k2
  cases hd : deref w2.st d with
  | dct kvs =>
    rw [hd] at vw
    obtain ⟨a, vs, rfl, hH, rl⟩ := vw
    have p2' : PostN K w ((mk Γ w2.st).bind fun y s2 => (mv Γ s2).bind fun z s3 => match keyD y with | some q => if (mergeD [] kvs).length + 1 ≤ 16777216 then .ok (.dct (putD (mergeD [] kvs) q z)) s3 else .no | none => .no) Q (at_ W σ) := by
      have p2 := p2
      rw [hd] at p2
      exact p2
    refine ⟨a, vs, rfl, hH, v2.h, rep_nep v2 k2 r2 rfl hd, fun b hb => ?_⟩
    have E2 : Evo w w2 := e1.trans k1 e2
    have v3 : Pv (w2.al p (.dK (mergeK [] vs))) p (.dK (mergeK [] vs)) := v2.al
    have k3 := ok_al k2 (.dK (mergeK [] vs)) v2.m v2.r
    have E3 : Evo w (w2.al p (.dK (mergeK [] vs))) := evo_al2 E2 hp
    have f3 : Fr K H0 (w2.al p (.dK (mergeK [] vs))) Γ σ := fr_al f2 nep
    have hb3 : (w2.al p (.dK (mergeK [] vs))).H b = none := hb
    have v4 : Pv ((w2.al p (.dK (mergeK [] vs))).al b (.dK [])) b (.dK []) := Pv.new k3 hb3
    have e4 := evo_al k3 (.dK []) hb3
    have k4 := ok_al k3 (.dK []) (k3.none hb3) (k3.noR hb3)
    have f4 := fr_al (o := .dK []) f3 (fr_ne f3 hb3)
    have v3' := v3.evo e4
    have E4 := E3.trans k3 e4
    have rl4 : RepP K ((w2.al p (.dK (mergeK [] vs))).al b (.dK [])) vs kvs := (rl.ext ext_al).ext ext_al
    refine RT.use (P := fun w' r => PostN K w r Q (at_ W σ)) rk k4 f4 (fun _ _ _ _ z => z) (fun x st z => (fun c dd w' ev k' s r => z c dd w' (E4.trans k4 ev) k' s r)) (fun z => z) p2' fun y vy w5 e5 k5 f5 r5 p5 => ?_
    refine RT.use (P := fun w' r => PostN K w r Q (at_ W σ)) rv k5 f5 (fun _ _ _ _ z => z) (fun x st z => (fun c dd w' ev k' s r => z c dd w' ((E4.trans k4 e5).trans k5 ev) k' s r)) (fun z => z) p5 fun z vz w6 e6 k6 f6 r6 p6 => ?_
    cases hk : keyD y with
    | none => rw [hk] at p6; exact p6.elim
    | some q =>
      rw [hk] at p6
      dsimp only at p6
      split at p6
      · rename_i hl
        have v5 := v4.evo e5
        have v6 := v5.evo e6
        have vp := (v3'.evo e5).evo e6
        have rl6 := (rl4.evo e5).evo e6
        have rm : RepP K w6 (mergeK [] vs) (mergeD [] kvs) := repP_merge rl6 .nil
        have ne : p ≠ b := by
          intro z
          have h3 := v3.h
          have h4 := hb3
          rw [← z] at h4
          rw [h4] at h3; cases h3
        refine ⟨q, keyD_rep r5 hk, vp.h, v6.h, ne, by rw [mergeD_len rm, sizeLine_eq]; exact hl, ?_⟩
        have E6 := (E4.trans k4 e5).trans k5 e6
        have hb0 : w.H b = none := E3.dom0 k3 hb3
        have E7 : Evo w (w6.al b (.dK [(q, vz)])) := evo_al2 E6 hb0
        have k7 := ok_al k6 (.dK [(q, vz)]) v6.m v6.r
        have E8 : Evo w ((w6.al b (.dK [(q, vz)])).al p (.dK (putK (mergeK [] vs) q vz))) := evo_al2 E7 hp
        have vp7 : (w6.al b (.dK [(q, vz)])).M p = none ∧ ∀ l, l < (w6.al b (.dK [(q, vz)])).st.length → (w6.al b (.dK [(q, vz)])).ρ l ≠ p := ⟨vp.m, vp.r⟩
        have k8 := ok_al k7 (.dK (putK (mergeK [] vs) q vz)) vp7.1 vp7.2
        exact p6 p _ _ E8 k8 rfl hp upd_same vp.m vp.r ⟨_, rfl, ((repP_put rm q r6).ext ext_al).ext ext_al⟩
      · exact p6.elim
  | _ => rw [hd] at p2; exact p2.elim
theorem pn_dupd {d kx v : Expr} {pos : Pos} {md mk mv : EM} (hd : PR P wd K mg base k N sc W d md) (hk : PR P wd K mg base k N sc W kx mk) (hv : PR P wd K mg base k N sc W v mv) : PN P wd K mg base k N sc W (.Dict [none, some kx] [d, v] pos) (eDupd md mk mv) :=
  let ⟨_, a, ra⟩ := hd; let ⟨_, b, rb⟩ := hk; let ⟨_, c, rc⟩ := hv
  ⟨_, fun X g => pe_dupd (a X g) (b X g) (c X g), rtn_dupd ra rb rc⟩
/-- {k: v, ..} -/
def keysD : List (D × D) → Option (List (Key × D))
  | [] => some []
  | (x, y) :: r => match keyD x, keysD r with | some k, some ks => some ((k, y) :: ks) | _, _ => none
def eePairs : List (EM × EM) → DEnv → Store → List (D × D) → (List (D × D) → Store → ER) → ER
  | [], _, st, acc, g => g acc.reverse st
  | (mk, mv) :: r, Γ, st, acc, g => (mk Γ st).bind fun x s1 => (mv Γ s1).bind fun y s2 => eePairs r Γ s2 ((x, y) :: acc) g
def eDisp (ms : List (EM × EM)) : EM := fun Γ st => eePairs ms Γ st [] fun ps s => match keysD ps with
  | some kvs => if kvs.length ≤ 15 then .ok (.dct (mergeD [] kvs)) s else .no
  | none => .no
inductive PPl (P : Program) (wd : World) (K : PySem.W.Frag) (mg : Str → Option Value) (base : Heap) (k : Nat) (N : List Str) (sc : SC) (W : WX) : List (Option Expr) → List Expr → List (EM × EM) → Prop
  | nil : PPl P wd K mg base k N sc W [] [] []
  | cons {kx vx : Expr} {ks : List (Option Expr)} {vs : List Expr} {mk mv : EM} {ms : List (EM × EM)} : PR P wd K mg base k N sc W kx mk → PR P wd K mg base k N sc W vx mv → PPl P wd K mg base k N sc W ks vs ms → PPl P wd K mg base k N sc W (some kx :: ks) (vx :: vs) ((mk, mv) :: ms)
def RTPs (K : PySem.W.Frag) (W : WX) (trs : List (TE × TE)) (ms : List (EM × EM)) : Prop := ∀ (H0 : Hp) (w0 w : Wd) (Γ : DEnv) (σ : L2.St) (p : Addr) (acc : List (D × D)) (acv : List (V × V)) (g : List (D × D) → Store → ER) (Q : List (V × V) → Hp → Prop) (Q0 : VK), Evo w0 w → w0.H p = none → Ok K w → Fr K H0 w Γ σ → Pv w p (.dK []) →
  RepL K w (acv.map (·.1)) (acc.map (·.1)) → RepL K w (acv.map (·.2)) (acc.map (·.2)) → PostN K w0 (eePairs ms Γ w.st acc g) Q0 (at_ W σ) →
  (∀ (w' : Wd) (ps : List (V × V)) (ds : List (D × D)), Evo w0 w' → Ok K w' → Pv w' p (.dK []) → RepL K w' ((acv.reverse ++ ps).map (·.1)) (ds.map (·.1)) → RepL K w' ((acv.reverse ++ ps).map (·.2)) (ds.map (·.2)) → PostN K w0 (g ds w'.st) Q0 (at_ W σ) → Q ps w'.H) → tPairs trs σ w.H Q
theorem ppl_ok {keys : List (Option Expr)} {vals : List Expr} {ms : List (EM × EM)} {pos : Pos} (h : PPl P wd K mg base k N sc W keys vals ms) : ∃ trs, (∀ X, G P wd K mg base k N sc W X → PPs X pos keys vals trs) ∧ RTPs K W trs ms := by
  induction h with
  | nil =>
    refine ⟨[], fun X g => pps_nil, ?_⟩
    intro H0 w0 w Γ σ p acc acv g Q Q0 E hp ok f v r1 r2 q hq
    exact hq w [] acc.reverse E ok v (by simpa using RepL.rev r1) (by simpa using RepL.rev r2) q
  | @cons kx vx ks vs mk mv ms hk hv _ ih =>
    obtain ⟨trs, pt, rt⟩ := ih
    obtain ⟨tk, pk, rk⟩ := hk
    obtain ⟨tv, pv, rv⟩ := hv
    refine ⟨(tk, tv) :: trs, fun X g => pps_cons (pk X g) (pv X g) (pt X g), ?_⟩
    intro H0 w0 w Γ σ p acc acv g Q Q0 E hp ok f v r1 r2 q hq
    refine RT.use (P := fun w' r => PostN K w0 r Q0 (at_ W σ)) rk ok f (fun _ _ _ _ z => z) (fun x st z => (fun c dd w' ev k' s r => z c dd w' (E.trans ok ev) k' s r)) (fun z => z) (show PostN K w0 ((mk Γ w.st).bind _) Q0 (at_ W σ) from q) fun y vy w5 e5 k5 f5 r5 p5 => ?_
    refine RT.use (P := fun w' r => PostN K w0 r Q0 (at_ W σ)) rv k5 f5 (fun _ _ _ _ z => z) (fun x st z => (fun c dd w' ev k' s r => z c dd w' ((E.trans ok e5).trans k5 ev) k' s r)) (fun z => z) p5 fun z vz w6 e6 k6 f6 r6 p6 => ?_
    refine rt H0 w0 w6 Γ σ p ((y, z) :: acc) ((vy, vz) :: acv) g _ Q0 ((E.trans ok e5).trans k5 e6) hp k6 f6 ((v.evo e5).evo e6) (.cons (r5.evo e6) ((r1.evo e5).evo e6)) (.cons r6 ((r2.evo e5).evo e6)) p6 fun w' ps ds E' k' v' a b c => ?_
    exact hq w' ((vy, vz) :: ps) ds E' k' v' (by simpa using a) (by simpa using b) c
theorem keysD_rep {w : Wd} : ∀ {ds : List (D × D)} {ps : List (V × V)} {kvs : List (Key × D)}, RepL K w (ps.map (·.1)) (ds.map (·.1)) → RepL K w (ps.map (·.2)) (ds.map (·.2)) → keysD ds = some kvs → ∃ us : List (Key × V), ps = us.map (fun kv => (kV kv.1, kv.2)) ∧ RepP K w us kvs
  | [], ps, kvs, r1, r2, h => by
    cases h
    have := r1.inv0
    rw [List.map_eq_nil_iff] at this
    subst this
    exact ⟨[], rfl, .nil⟩
  | (x, y) :: ds, ps, kvs, r1, r2, h => by
    unfold keysD at h
    split at h
    · rename_i q ks e1 e2
      cases h
      cases ps with
      | nil => have := r1.1; simp at this
      | cons p ps =>
        obtain ⟨a, b⟩ := p
        obtain ⟨_, _, z1, h1, t1⟩ := r1.inv
        obtain ⟨_, _, z2, h2, t2⟩ := r2.inv
        cases z1; cases z2
        obtain ⟨us, rfl, ru⟩ := keysD_rep t1 t2 e2
        have := keyD_rep h1 e1
        subst this
        exact ⟨(q, b) :: us, rfl, .cons h2 ru⟩
    · cases h
theorem rtn_disp {trs : List (TE × TE)} {ms : List (EM × EM)} (r : RTPs K W trs ms) : RTN K W (tDisp trs) (eDisp ms) := by
  intro H0 w Γ σ ok f Q q p hp
  have v1 : Pv (w.al p (.dK [])) p (.dK []) := Pv.new ok hp
  have k1 := ok_al ok (.dK []) (ok.none hp) (ok.noR hp)
  have e1 := evo_al ok (.dK []) hp
  refine r H0 w (w.al p (.dK [])) Γ σ p [] [] _ _ Q e1 hp k1 (fr_al f (fr_ne f hp)) v1 .nil .nil q fun w' ps ds E' k' v' a b c => ?_
  cases hk : keysD ds with
  | none => rw [hk] at c; exact c.elim
  | some kvs =>
    rw [hk] at c
    dsimp only at c
    split at c
    · rename_i hl
      obtain ⟨us, e, ru⟩ := keysD_rep a b hk
      have e' : ps = us.map (fun kv => (kV kv.1, kv.2)) := by simpa using e
      have hlu : us.length ≤ 15 := by rw [mergeD_len ru]; exact hl
      refine ⟨v'.h, us, e', hlu, ?_⟩
      exact c p _ _ (evo_al2 E' hp) (ok_al k' (.dK (mergeK [] us)) v'.m v'.r) rfl hp upd_same v'.m v'.r ⟨_, rfl, (repP_merge ru .nil).ext ext_al⟩
    · exact c.elim
theorem pn_disp {keys : List (Option Expr)} {vals : List Expr} {ms : List (EM × EM)} {pos : Pos} (h : PPl P wd K mg base k N sc W keys vals ms) (hall : keys.all (·.isSome) = true := by rfl) (hl : keys.length = vals.length := by rfl) (h0 : keys ≠ [] := by simp) (h15 : keys.length ≤ 15 := by decide) :
    PN P wd K mg base k N sc W (.Dict keys vals pos) (eDisp ms) := by
  obtain ⟨trs, pt, rt⟩ := ppl_ok (pos := pos) h
  exact ⟨_, fun X g => pe_disp (pt X g) hall hl h0 h15, rtn_disp rt⟩
theorem isNew_disp : ∀ (ms : List (EM × EM)) (Γ : DEnv) (st : Store) (acc : List (D × D)) (d : D) (s : Store), eePairs ms Γ st acc (fun ps s => match keysD ps with | some kvs => if kvs.length ≤ 15 then .ok (.dct (mergeD [] kvs)) s else .no | none => .no) = .ok d s → ∃ xs, d = .dct xs
  | [], Γ, st, acc, d, s, h => by
    unfold eePairs at h
    dsimp only at h
    split at h
    · split at h
      · cases h; exact ⟨_, rfl⟩
      · cases h
    · cases h
  | (mk, mv) :: ms, Γ, st, acc, d, s, h => by
    unfold eePairs at h
    cases e : mk Γ st with
    | no => rw [e] at h; cases h
    | err x t => rw [e] at h; cases h
    | ok x s1 =>
      rw [e, ok_bind] at h
      cases e2 : mv Γ s1 with
      | no => rw [e2] at h; cases h
      | err x t => rw [e2] at h; cases h
      | ok y s2 => rw [e2, ok_bind] at h; exact isNew_disp ms Γ s2 _ d s h
theorem pr_disp {keys : List (Option Expr)} {vals : List Expr} {ms : List (EM × EM)} {pos : Pos} (h : PPl P wd K mg base k N sc W keys vals ms) (hall : keys.all (·.isSome) = true := by rfl) (hl : keys.length = vals.length := by rfl) (h0 : keys ≠ [] := by simp) (h15 : keys.length ≤ 15 := by decide) :
    PR P wd K mg base k N sc W (.Dict keys vals pos) (eDisp ms) :=
  (pn_disp h hall hl h0 h15).fz fun Γ st d s q => by obtain ⟨xs, rfl⟩ := isNew_disp ms Γ st [] d s q; trivial
theorem pr_dupd {d kx v : Expr} {pos : Pos} {md mk mv : EM} (hd : PR P wd K mg base k N sc W d md) (hk : PR P wd K mg base k N sc W kx mk) (hv : PR P wd K mg base k N sc W v mv) : PR P wd K mg base k N sc W (.Dict [none, some kx] [d, v] pos) (eDupd md mk mv) :=
  (pn_dupd hd hk hv).fz fun Γ st dd s q => by
    unfold eDupd at q
    cases e : md Γ st with
    | no => rw [e] at q; cases q
    | err x t => rw [e] at q; cases q
    | ok x s1 =>
      rw [e, ok_bind] at q
      split at q
      · cases e2 : mk Γ s1 with
        | no => rw [e2] at q; cases q
        | err x t => rw [e2] at q; cases q
        | ok y s2 =>
          rw [e2, ok_bind] at q
          cases e3 : mv Γ s2 with
          | no => rw [e3] at q; cases q
          | err x t => rw [e3] at q; cases q
          | ok z s3 =>
            rw [e3, ok_bind] at q
            split at q
            · split at q
              · cases q; trivial
              · cases q
            · cases q
      · cases q
end
end DL
/-! static methods by name -/
namespace DL
open PySem L2
/-- the def behind a static method -/
def cS (K : PySem.W.Frag) (C : String) (m : Str) : Addr := match PySem.W.recIn K (cM K C m) "staticmethod" with
  | some (.ref g :: _) => g
  | _ => 0
theorem cS_of {K : PySem.W.Frag} {C : String} {m : Str} {c p g : Addr} {rest : List Value} (hc : cA K C = c) (h : PySem.W.findIn K (.ref c) m = some (some (.ref p))) (hr : PySem.W.recIn K p "staticmethod" = some (.ref g :: rest)) : cS K C m = g := by unfold cS; rw [cM_of hc h, hr]
section
variable {P : Program} {wd : World} {K : PySem.W.Frag} {mg : Str → Option Value} {base : Heap} {k : Nat}
theorem statOK {C : String} {m : Str} {p f : Addr} {F : DF} {i : Nat} (h : SMet K (cA K C) m p f) (a : FnA P wd K mg base i f F) (hi : i ≤ k := by omega) : StatOK P wd K mg base k C m F :=
  let ⟨fd, ps, a, b⟩ := a.ex; ⟨f, p, fd, ps, a.mono hi, h, b⟩
end
end DL
namespace DL
open PySem L2
/-! ### items of own things, of the store's dicts -/
def rSetX : V → V → V → Hp → (Hp → Prop) → Prop := fun o i v H Q => rSetL o i v H Q ∨ rSetD o i v H Q
theorem set_x {X : Cx} (hu : X.A.units + 1 < cLine) : PSet X rSetX := by
  intro pins s σ H o i v ov iv u Q I ro ri rv h
  rcases h with h | h
  · exact set_list pins s σ H o i v ov iv u Q I ro ri rv h
  · exact set_dict hu pins s σ H o i v ov iv u Q I ro ri rv h
def setX (d : D) (i x : D) : Option D := match d with
  | .lst xs => match i with
    | .int j => match ixN xs.length j with | some n => some (.lst (xs.set n x)) | none => none
    | _ => none
  | .dct kvs => match keyD i with
    | some k => if kvs.length < 16777216 then some (.dct (putD kvs k x)) else none
    | none => none
  | _ => none
theorem setX_ok {K : PySem.W.Frag} {w : Wd} {a : Addr} {o : HO} {d d' i x : D} {iv v : V} (ho : w.H a = some o) (r : RO K w o d) (ri : Rep K w iv i) (rv : Rep K w v x) (h : setX d i x = some d') : ∃ o', RO K w o' d' ∧ ∀ Q : Hp → Prop, Q (upd w.H a o') → rSetX (.ref a) iv v w.H Q := by
  cases d with
  | lst xs =>
    obtain ⟨vs, rfl, rl⟩ := r
    cases i with
    | int j =>
      cases ri
      unfold setX at h
      simp only at h
      cases hj : ixN xs.length j with
      | none => rw [hj] at h; cases h
      | some n =>
        rw [hj] at h; cases h
        exact ⟨.lst (vs.set n v), ⟨_, rfl, rl.set rv n⟩, fun Q q => .inl ⟨a, vs, j, n, rfl, rfl, ho, by rw [rl.1]; exact hj, q⟩⟩
    | _ => cases h
  | dct kvs =>
    obtain ⟨vs, rfl, rp⟩ := r
    unfold setX at h
    simp only at h
    cases hk : keyD i with
    | none => rw [hk] at h; cases h
    | some k =>
      rw [hk] at h
      simp only at h
      by_cases hl : kvs.length < 16777216
      · rw [if_pos hl] at h; cases h
        have e := keyD_rep ri hk
        subst e
        refine ⟨.dK (putK vs k v), ⟨_, rfl, repP_put rp k rv⟩, fun Q q => .inr ⟨a, _, rfl, DPut.k ho ?_, q⟩⟩
        rw [rp.len, sizeLine_eq]; exact hl
      · rw [if_neg hl] at h; cases h
  | _ => cases h
section
variable {P : Program} {wd : World} {K : PySem.W.Frag} {mg : Str → Option Value} {base : Heap} {k : Nat} {N : List Str} {sc : SC} {W : WX}
/-- x[i] = e, x its own thing -/
def sSubO (n : Nat) (mi me : EM) : SM := fun Γ st => (me Γ st).bs Γ fun x s1 => match Γ[n]? with
  | some (.ow d) => (mi Γ s1).bs Γ fun i s2 => match setX d i x with
    | some d' => .nx (Γ.set n (.ow d')) s2
    | none => .no
  | _ => .no
theorem ps_subO (n : Nat) {y : Str} {i e : Expr} {mi me : EM} {pos pos' npos : Pos} (he : PR P wd K mg base k N sc W e me) (hi : PR P wd K mg base k N sc W i mi)
    (hN : N[n]? = some y := by rfl) (hv : Vis sc.s y := by first | exact Or.inl rfl | exact Or.inr (Or.inl rfl) | exact Or.inr (Or.inr rfl)) (hd : (y == ("__debug__" : Str)) = false := by decide) (hcd : (y == ("__classdict__" : Str)) = false := by decide)
    (ha : ∀ env v, assign (.Subscript (.Name y npos) i pos') env v = (do let ov ← holding [v] (eval (.Name y npos) env); let iv ← holding [v, ov] (eval i env); standAt pos'; holding [v, ov, iv] (setItem ov iv v); release [v, ov, iv] []) := by intro _ _; rfl)
    (hs : ∀ env, swapsWithSole [.Subscript (.Name y npos) i pos'] e pos.line env = pure false := by intro _; rfl) (hw : ∀ env, swappedStores [.Subscript (.Name y npos) i pos'] e env = pure none := by intro _; rfl) :
    PSt P wd K mg base k N sc W (.Assign [.Subscript (.Name y npos) i pos'] e pos) (sSubO n mi me) := by
  obtain ⟨te, pe, re⟩ := he
  obtain ⟨ti, pi, ri⟩ := hi
  refine ⟨tAsg te (gSub (tVar n) ti rSetX), fun X g => ps_asg (pe X g) (pg_sub (pe_var (pos := npos) (by rw [g.nn]; exact hN) (by rw [g.scp]; exact hv) hd hcd) (pi X g) (set_x (by have := g.room.un; omega)) (fun v => ha X.env v)) (hs X.env) (hw X.env), ?_⟩
  intro w0 w Γ σ e0 ok f Dn q
  refine re.useS e0 ok f q fun x v w1 e1 k1 f1 r1 x1 p1 => ?_
  split at p1
  · rename_i d hn
    obtain ⟨a, o, h1, h2, h3, h4, h5, h6⟩ := f1.ow n d hn
    refine ⟨_, h1, ?_⟩
    refine ri.useS e1 k1 f1 p1 fun i iv w2 e2 k2 f2 r2 x2 p2 => ?_
    obtain ⟨a', o', g1, g2, _, _, _, g6⟩ := f2.ow n d hn
    rw [h1] at g1; cases g1
    cases hs' : setX d i x with
    | none => rw [hs'] at p2; exact p2.elim
    | some d' =>
      rw [hs'] at p2
      obtain ⟨o2, ro, hq⟩ := setX_ok g2 g6 r2 (r1.ext x2) hs'
      obtain ⟨c1, c2, c3, c4⟩ := ow_put e2 k2 f2 hn h1 ro
      exact hq _ (p2 _ σ c1 c2 c3 rfl c4)
  · exact p1.elim
/-- o[i] = e, o of the store -/
def sSubX (mo mi me : EM) : SM := fun Γ st => (me Γ st).bs Γ fun x s1 => (mo Γ s1).bs Γ fun o s2 => (mi Γ s2).bs Γ fun i s3 => match o with
  | .ref l => match s3[l]? with
    | some d => match setX d i x with
      | some d' => .nx Γ (s3.set l d')
      | none => .no
    | none => .no
  | _ => .no
theorem ps_subX {o i e : Expr} {mo mi me : EM} {pos pos' : Pos} (he : PR P wd K mg base k N sc W e me) (ho : PR P wd K mg base k N sc W o mo) (hi : PR P wd K mg base k N sc W i mi)
    (ha : ∀ env v, assign (.Subscript o i pos') env v = (do let ov ← holding [v] (eval o env); let iv ← holding [v, ov] (eval i env); standAt pos'; holding [v, ov, iv] (setItem ov iv v); release [v, ov, iv] []) := by intro _ _; rfl)
    (hs : ∀ env, swapsWithSole [.Subscript o i pos'] e pos.line env = pure false := by intro _; rfl) (hw : ∀ env, swappedStores [.Subscript o i pos'] e env = pure none := by intro _; rfl) :
    PSt P wd K mg base k N sc W (.Assign [.Subscript o i pos'] e pos) (sSubX mo mi me) := by
  obtain ⟨te, pe, re⟩ := he
  obtain ⟨to, po, ro⟩ := ho
  obtain ⟨ti, pi, ri⟩ := hi
  refine ⟨tAsg te (gSub to ti rSetX), fun X g => ps_asg (pe X g) (pg_sub (po X g) (pi X g) (set_x (by have := g.room.un; omega)) (fun v => ha X.env v)) (hs X.env) (hw X.env), ?_⟩
  intro w0 w Γ σ e0 ok f Dn q
  refine re.useS e0 ok f q fun x v w1 e1 k1 f1 r1 x1 p1 => ?_
  refine ro.useS e1 k1 f1 p1 fun o u w2 e2 k2 f2 r2 x2 p2 => ?_
  refine ri.useS e2 k2 f2 p2 fun i y w3 e3 k3 f3 r3 x3 p3 => ?_
  have r1' := (r1.ext x2).ext x3
  cases r2 with
  | @ref l hl =>
    have hl3 : l < w3.st.length := Nat.lt_of_lt_of_le hl x3.le
    dsimp only at p3
    split at p3
    · rename_i d hd
      split at p3
      · rename_i d' hs'
        have nt : d ≠ .tomb := fun z => by rw [z] at hs'; cases hs'
        obtain ⟨ob, h1, h2, h3⟩ := k3.live hd nt
        obtain ⟨o2, ro2, hq⟩ := setX_ok h1 h3 r3 r1' hs'
        obtain ⟨ev, kv⟩ := put_ok (d := d') k3 hl3 h2 ro2
        rw [← x3.rho l hl]
        exact hq _ (p3 (w3.put l _ _) σ (e3.trans k3 ev) ev.ext kv rfl (f3.evo ev))
      · exact p3.elim
    · exact p3.elim
  | _ => exact p3.elim
/-! ### an own thing becomes shared: lists, dicts, objects -/
def frzX (i : Nat) (Γ : DEnv) : DEnv := match Γ[i]? with
  | some (.ow d) => Γ.set i (.sh d)
  | _ => Γ
theorem fr_as {w0 w : Wd} {Γ : DEnv} {σ : L2.St} (e0 : Evo w0 w) (k : Ok K w) (f : Fr K w0.H w Γ σ) {i : Nat} {d : D} (hi : Γ[i]? = some (.ow d)) {a : Addr} (ha : σ[i]? = some (some (.ref a))) (o' : HO)
    (rep : ∀ w' : Wd, Ext w w' → w'.M a = some o' → Rep K w' (.ref a) d) : ∃ w' : Wd, w'.H = upd w.H a o' ∧ w'.st = w.st ∧ Evo w0 w' ∧ Ext w w' ∧ Ok K w' ∧ Fr K w0.H w' (Γ.set i (.sh d)) σ := by
  obtain ⟨a', o, h1, h2, h3, h4, h5, h6⟩ := f.ow i _ hi
  rw [ha] at h1; cases h1
  have hl := getElem?_lt hi
  have x : Ext w { w with M := upd w.M a o', H := upd w.H a o' } := ⟨fun b u q => by show upd w.M a _ b = _; rw [upd_ne (ne_of_none q h3)]; exact q, fun _ _ => rfl, Nat.le_refl _⟩
  refine ⟨{ w with M := upd w.M a o', H := upd w.H a o' }, rfl, rfl, ⟨(e0.ext.trans x).mono, e0.rho, e0.le, fun b u q n => ?_, e0.newR, fun b u hb hm hr => ?_⟩, x, ⟨fun b u q => ?_, fun l d q => ?_, k.inj⟩, ⟨?_, fun j d h => ?_, fun j d h => ?_, fun y z d e b ne g1 g2 g3 => ?_⟩⟩
  · have q' : upd w.M a o' b = some u := q
    by_cases z : b = a
    · rw [z]; exact h4
    · rw [upd_ne z] at q'; exact e0.newM b u q' n
  · show upd w.H a o' b = _
    rw [upd_ne (ne_of_none hb h4)]; exact e0.keep b u hb hm hr
  · have q' : upd w.M a o' b = some u := q
    show upd w.H a o' b = _
    by_cases z : b = a
    · rw [z, upd_same] at q' ⊢; exact q'
    · rw [upd_ne z] at q' ⊢; exact k.ex b u q'
  · obtain ⟨u, g1, g2⟩ := k.sto l d q
    have ne := h5 l (getElem?_lt q)
    refine ⟨u, ?_, g2.imp id fun ⟨g2, g3⟩ => ⟨?_, g3.ext x⟩⟩
    · show upd w.H a o' (w.ρ l) = _
      rw [upd_ne ne]; exact g1
    · show upd w.M a o' (w.ρ l) = _
      rw [upd_ne ne]; exact g2
  · simp [f.len]
  · by_cases z : i = j
    · subst z
      rw [List.getElem?_set_self hl] at h; cases h
      exact ⟨_, ha, rep _ x upd_same⟩
    · rw [List.getElem?_set_ne z] at h
      obtain ⟨v, g1, g2⟩ := f.sh j d h
      exact ⟨v, g1, g2.ext x⟩
  · by_cases z : i = j
    · subst z
      rw [List.getElem?_set_self hl] at h; cases h
    · rw [List.getElem?_set_ne z] at h
      obtain ⟨b, u, g1, g2, g3, g4, g5, g6⟩ := f.ow j d h
      have nb : b ≠ a := fun q => f.dj i j _ d a z hi h ha (by rw [g1, q])
      refine ⟨b, u, g1, ?_, ?_, g4, g5, g6.ext x⟩
      · show upd w.H a o' b = _
        rw [upd_ne nb]; exact g2
      · show upd w.M a o' b = _
        rw [upd_ne nb]; exact g3
  · have ny : i ≠ y := fun q => by subst q; rw [List.getElem?_set_self hl] at g1; cases g1
    have nz : i ≠ z := fun q => by subst q; rw [List.getElem?_set_self hl] at g2; cases g2
    rw [List.getElem?_set_ne ny] at g1
    rw [List.getElem?_set_ne nz] at g2
    exact f.dj y z d e b ne g1 g2 g3
def lkS (t : TS) : TS := fun D σ H => t D σ H ∨ ∃ a kvs, H a = some (.dK kvs) ∧ ∀ od, t D σ (upd H a (.frz od (.dK kvs)))
theorem pss_lk {X : Cx} {ss : List Stmt} {t : TS} (h : PSs X ss t) : PSs X ss (lkS t) := ⟨fun pins s σ H D I q => by
  rcases q with q | ⟨a, kvs, hd, q⟩
  · exact h.run pins s σ H D I q
  · obtain ⟨od, I2⟩ := I.lock hd True.intro
    exact h.run pins s σ _ D I2 (q od)⟩
def sFrzX (i : Nat) (m : SM) : SM := fun Γ st => m (frzX i Γ) st
/-- ahead of these statements x's thing is shared -/
theorem ps_frzX (i : Nat) {ss : List Stmt} {m : SM} (h : PSl P wd K mg base k N sc W ss m) : PSl P wd K mg base k N sc W ss (sFrzX i m) := by
  obtain ⟨t, p, r⟩ := h
  refine ⟨lkS t, fun X g => pss_lk (p X g), ?_⟩
  intro w0 w Γ σ e0 ok f Dn q
  have same : frzX i Γ = Γ → lkS t Dn σ w.H := fun e => .inl (r w0 w Γ σ e0 ok f Dn (by
    have q' : PostS K w0 w (m (frzX i Γ) w.st) Dn W := q
    rw [e] at q'; exact q'))
  cases hi : Γ[i]? with
  | none => exact same (by unfold frzX; rw [hi])
  | some sl =>
    cases sl with
    | no => exact same (by unfold frzX; rw [hi])
    | sh d => exact same (by unfold frzX; rw [hi])
    | ow d =>
      have e : frzX i Γ = Γ.set i (.sh d) := by unfold frzX; rw [hi]
      have q' : PostS K w0 w (m (frzX i Γ) w.st) Dn W := q
      rw [e] at q'
      obtain ⟨a, o, h1, h2, h3, h4, h5, h6⟩ := f.ow i _ hi
      have go : ∀ o' : HO, (∀ w' : Wd, Ext w w' → w'.M a = some o' → Rep K w' (.ref a) d) → t Dn σ (upd w.H a o') := fun o' rep => by
        obtain ⟨w', g1, g2, g3, g4, g5, g6⟩ := fr_as e0 ok f hi h1 o' rep
        rw [← g1]
        exact r w0 w' _ σ g3 g5 g6 Dn (by rw [g2]; exact q'.shift g4)
      cases d with
      | lst xs =>
        obtain ⟨vs, rfl, rl⟩ := h6
        refine .inl ?_
        have := go (.lst vs) fun w' x hm => let r' := rl.ext x; .lst hm r'.1 r'.2
        rwa [upd_id h2] at this
      | ins C fs =>
        obtain ⟨dx, vs, rfl, rl⟩ := h6
        refine .inl ?_
        have := go (.ins (cA K C) dx vs) fun w' x hm => let r' := rl.ext x; .ins hm r'.1 r'.2
        rwa [upd_id h2] at this
      | dct xs =>
        obtain ⟨vs, rfl, rl⟩ := h6
        exact .inr ⟨a, vs, h2, fun od => go (.frz od (.dK vs)) fun w' x hm => let r' := rl.ext x; .dct hm r'.1 r'.2⟩
      | _ => exact h6.elim
end
end DL
/-! more statements on own things: d.pop(k) -/
namespace DL
open PySem L2
def dropD (kvs : List (Key × D)) (k : Key) : List (Key × D) := kvs.filter fun kv => decide (kv.1 ≠ k)
theorem repP_drop {K : PySem.W.Frag} {w : Wd} : ∀ {vs : List (Key × V)} {xs : List (Key × D)} (k : Key), RepP K w vs xs → RepP K w (dropK vs k) (dropD xs k)
  | vs, [], k, r => by obtain rfl := r.inv0; exact ⟨rfl, fun i v x h => by simp [dropK] at h⟩
  | vs, (k0, x) :: xs, k, r => by
    obtain ⟨v, vs', rfl, h, t⟩ := r.inv
    have ih := repP_drop k t
    unfold dropK dropD at *
    by_cases e : k0 = k
    · rw [List.filter_cons_of_neg (by simpa using e), List.filter_cons_of_neg (by simpa using e)]; exact ih
    · rw [List.filter_cons_of_pos (by simpa using e), List.filter_cons_of_pos (by simpa using e)]
      refine ⟨by rw [List.map_cons, List.map_cons, ih.1], fun i a b p q => ?_⟩
      cases i with
      | zero => simp at p q; subst p; subst q; exact h
      | succ i => exact ih.2 i a b (by simpa using p) (by simpa using q)
section
variable {P : Program} {wd : World} {K : PySem.W.Frag} {mg : Str → Option Value} {base : Heap} {k : Nat} {N : List Str} {sc : SC} {W : WX}
def sDPop (i : Nat) (mk : EM) : SM := fun Γ st => match Γ[i]? with
  | some (.ow (.dct _)) => (mk Γ st).bs Γ fun d s => match Γ[i]?, keyD d with
    | some (.ow (.dct kvs)), some q => if hasK kvs q = true then .nx (Γ.set i (.ow (.dct (dropD kvs q)))) s else .no
    | _, _ => .no
  | _ => .no
theorem ps_dpop (i : Nat) {x : Str} {e : Expr} {m : EM} {pos xpos apos cpos : Pos} (h : PR P wd K mg base k N sc W e m) (hm : ∀ X : Cx, M1 X (.Name x xpos) "pop" apos e cpos := by intro X; exact ⟨rfl, rfl, rfl, rfl⟩) (hN : N[i]? = some x := by rfl) (hv : Vis sc.s x := by first | exact Or.inl rfl | exact Or.inr (Or.inl rfl) | exact Or.inr (Or.inr rfl)) (hd : (x == ("__debug__" : Str)) = false := by decide)
    (hcd : (x == ("__classdict__" : Str)) = false := by decide) (hsw : ∀ env, swapsWith (.Call (.Attribute (.Name x xpos) "pop" apos) [e] [] cpos) none pos.line env = pure false := by intro _; rfl) :
    PSt P wd K mg base k N sc W (.Expr (.Call (.Attribute (.Name x xpos) "pop" apos) [e] [] cpos) pos) (sDPop i m) := by
  obtain ⟨t, p, r⟩ := h
  refine ⟨tDrop (tDPop1 (tVar i) t), fun X g => ps_expr (pe_dpop1 (pe_var (pos := xpos) (by rw [g.nn]; exact hN) (by rw [g.scp]; exact hv) hd hcd) (p X g) (hm X)) (hsw X.env), ?_⟩
  intro w0 w Γ σ e0 ok f Dn q
  unfold sDPop at q
  split at q
  · rename_i kvs0 hi
    obtain ⟨a, o, h1, h2, h3, h4, h5, h6⟩ := f.ow i _ hi
    obtain ⟨vs, rfl, rl⟩ := h6
    refine ⟨_, h1, a, rfl, .inl ⟨vs, .inl h2⟩, ?_⟩
    refine r.useS e0 ok f q fun d v w1 e1 k1 f1 r1 x1 p1 => ?_
    rw [hi] at p1
    cases hk : keyD d with
    | none => rw [hk] at p1; exact p1.elim
    | some ky =>
      rw [hk] at p1
      dsimp only at p1
      by_cases hh : hasK kvs0 ky = true
      · rw [if_pos hh] at p1
        obtain ⟨a', o', g1, g2, _, _, _, g6⟩ := f1.ow i _ hi
        rw [h1] at g1; cases g1
        obtain ⟨us, rfl, ru⟩ := g6
        have hs := valV_has ru ky
        rw [hh] at hs
        obtain ⟨u, hu⟩ := Option.isSome_iff_exists.mp hs
        refine ⟨us, ky, u, g2, keyD_rep r1 hk, hu, ?_⟩
        obtain ⟨c1, c2, c3, c4⟩ := ow_put e1 k1 f1 hi h1 (o' := .dK (dropK us ky)) (d' := .dct (dropD kvs0 ky)) ⟨_, rfl, repP_drop ky ru⟩
        exact p1 _ σ c1 c2 c3 rfl c4
      · rw [if_neg hh] at p1; exact p1.elim
  · exact q.elim
@[simp] theorem sDPop_ap {i : Nat} {mk : EM} {Γ : DEnv} {st : Store} : sDPop i mk Γ st = (match Γ[i]? with
  | some (.ow (.dct _)) => (mk Γ st).bs Γ fun d s => match Γ[i]?, keyD d with
    | some (.ow (.dct kvs)), some q => if hasK kvs q = true then .nx (Γ.set i (.ow (.dct (dropD kvs q)))) s else .no
    | _, _ => .no
  | _ => .no) := rfl
/-- d.pop(k), d a dict of the store -/
def sDPopR (mo mk : EM) : SM := fun Γ st => (mo Γ st).bs Γ fun o s1 => match o with
  | .ref l => match s1[l]? with
    | some (.dct _) => (mk Γ s1).bs Γ fun d s2 => match s2[l]?, keyD d with
      | some (.dct kvs), some q => if hasK kvs q = true then .nx Γ (s2.set l (.dct (dropD kvs q))) else .no
      | _, _ => .no
    | _ => .no
  | _ => .no
theorem ps_dpopR {o e : Expr} {mo m : EM} {pos apos cpos : Pos} (ho : PR P wd K mg base k N sc W o mo) (h : PR P wd K mg base k N sc W e m) (hm : ∀ X : Cx, M1 X o "pop" apos e cpos := by intro X; exact ⟨rfl, rfl, rfl, rfl⟩)
    (hsw : ∀ env, swapsWith (.Call (.Attribute o "pop" apos) [e] [] cpos) none pos.line env = pure false := by intro _; rfl) :
    PSt P wd K mg base k N sc W (.Expr (.Call (.Attribute o "pop" apos) [e] [] cpos) pos) (sDPopR mo m) := by
  obtain ⟨to, po, ro⟩ := ho
  obtain ⟨t, p, r⟩ := h
  refine ⟨tDrop (tDPop1 to t), fun X g => ps_expr (pe_dpop1 (po X g) (p X g) (hm X)) (hsw X.env), ?_⟩
  intro w0 w Γ σ e0 ok f Dn q
  refine ro.useS e0 ok f q fun o u w1 e1 k1 f1 r1 x1 p1 => ?_
  cases r1 with
  | @ref l hl =>
    dsimp only at p1
    split at p1
    · rename_i kvs0 hy
      obtain ⟨ob, g1, g2, g3⟩ := k1.live hy (by simp)
      obtain ⟨vs, rfl, rl⟩ := g3
      refine ⟨_, rfl, .inl ⟨vs, .inl g1⟩, ?_⟩
      refine r.useS e1 k1 f1 p1 fun d v w2 e2 k2 f2 r2 x2 p2 => ?_
      split at p2
      · rename_i kvs ky hx hk
        obtain ⟨ob, h1, h2, h3⟩ := k2.live hx (by simp)
        obtain ⟨us, rfl, ru⟩ := h3
        by_cases hh : hasK kvs ky = true
        · rw [if_pos hh] at p2
          have hs := valV_has ru ky
          rw [hh] at hs
          obtain ⟨uv, hu⟩ := Option.isSome_iff_exists.mp hs
          obtain ⟨ev, kv⟩ := put_ok (o := .dK (dropK us ky)) (d := .dct (dropD kvs ky)) k2 (getElem?_lt hx) h2 ⟨_, rfl, repP_drop ky ru⟩
          rw [← x2.rho l hl]
          exact ⟨us, ky, uv, h1, keyD_rep r2 hk, hu, p2 (w2.put l _ _) σ (e2.trans k2 ev) ev.ext kv rfl (f2.evo ev)⟩
        · rw [if_neg hh] at p2; exact p2.elim
      · exact p2.elim
    · exact p1.elim
  | _ => exact p1.elim
@[simp] theorem sDPopR_ap {mo mk : EM} {Γ : DEnv} {st : Store} : sDPopR mo mk Γ st = (mo Γ st).bs Γ fun o s1 => match o with
  | .ref l => match s1[l]? with
    | some (.dct _) => (mk Γ s1).bs Γ fun d s2 => match s2[l]?, keyD d with
      | some (.dct kvs), some q => if hasK kvs q = true then .nx Γ (s2.set l (.dct (dropD kvs q))) else .no
      | _, _ => .no
    | _ => .no
  | _ => .no := rfl
/-- something new, put into the store at once -/
def eSt (m : EM) : EM := fun Γ st => (m Γ st).bind fun d s => .ok (.ref s.length) (s ++ [d])
theorem pr_st {e : Expr} {m : EM} (h : PN P wd K mg base k N sc W e m) : PR P wd K mg base k N sc W e (eSt m) := by
  obtain ⟨t, p, r⟩ := h
  refine ⟨t, fun X g => p X g, ?_⟩
  intro H0 w Γ σ ok f Q q
  refine r H0 w Γ σ ok f _ ?_
  have p' : PostE K w ((m Γ w.st).bind _) Q (at_ W σ) := q
  cases e : m Γ w.st with
  | no => rw [e] at p'; exact p'
  | err x st => rw [e] at p'; exact fun c dd w' ev k' s r => p' c dd w' ev k' s r
  | ok d st =>
    rw [e] at p'
    intro a o w' ev k' s ha ho hm hr r
    subst s
    obtain ⟨e1, x1, k1⟩ := push_ok ev k' ha ho hm hr r
    have hq : (w'.push a d).ρ w'.st.length = a := by show (if w'.st.length = w'.st.length then a else _) = _; rw [if_pos rfl]
    have rr : Rep K (w'.push a d) (.ref ((w'.push a d).ρ w'.st.length)) (.ref w'.st.length) := .ref (by show _ < (w'.st ++ [d]).length; simp)
    rw [hq] at rr
    exact p' _ (w'.push a d) e1 k1 rfl rr
@[simp] theorem eSt_ap {m : EM} {Γ : DEnv} {st : Store} : eSt m Γ st = (m Γ st).bind fun d s => .ok (.ref s.length) (s ++ [d]) := rfl
end
end DL
/-! defs with *args -/
namespace DL
open PySem L2 PySem.Spec PyProof.Rows StX
/-- the first n arguments, then a tuple of the others -/
def starD (n : Nat) (F : DF) : DF := fun ds st => if n ≤ ds.length ∧ (ds.drop n).length ≤ 16777216 then F (ds.take n ++ [.tup (ds.drop n)]) st else .no
structure FnS (P : Program) (wd : World) (K : PySem.W.Frag) (mg : Str → Option Value) (base : Heap) (k : Nat) (x : Str) (F : DF) : Prop where
  ex : ∃ f : Addr, mg x = some (.ref f) ∧ PySem.W.keepIn K (.ref f) = true ∧ ∀ {A : Around} {outer : List PySem.Env} {s : Shared} {H : Hp} {us : List Value} {vs : List V} {Q : VK} {E : XK}, Room k A ∧ Tp A base → Env0 P wd K mg base A outer s H → Vals vs us → spD K F vs H Q E →
    codeAny (model P wd) A (.call (.ref f) ⟨us, []⟩) (CR (L2.CX P wd) outer P wd H s Q E) s
section
variable {P : Program} {wd : World} {K : PySem.W.Frag} {mg : Str → Option Value} {base : Heap} {k : Nat} {N : List Str} {sc : SC} {W : WX}
theorem FnS.mono {j : Nat} {x : Str} {F : DF} (h : FnS P wd K mg base j x F) (hj : j ≤ k) : FnS P wd K mg base k x F :=
  let ⟨f, a, b, c⟩ := h.ex; ⟨f, a, b, fun hr => c ⟨hr.1.mono hj, hr.2⟩⟩
theorem fn_okS {x pv : Str} {st : Stmt} {ps : List Str} {m : SM} (h : HF K mg x st) (S : FnScope N (ps ++ [pv]) (defScope st))
    (hb : ∀ (kV doc pm : Value) (an : Option Addr) (cdv ct : Value) (us rest : List Value), us.length = ps.length → bindArgs (PySem.W.fnOf x x (defArgs st) (defBody st) (defScope st) .none kV doc pm an cdv ct) ⟨us ++ rest, []⟩ = (newTuple rest >>= fun t => pure (ps.zip us ++ [(pv, t)])))
    (b : ∀ W : WX, PSl P wd K mg base k N ⟨defScope st, fun _ => true⟩ W (defBody st) m) : FnS P wd K mg base (k + 1) x (starD ps.length (run N (ps ++ [pv]) m)) := by
  obtain ⟨f, fd, F, hm⟩ := h
  refine ⟨f, hm, F.kp, fun {A outer s H us vs Q E} hr e0 r hsp => ?_⟩
  obtain ⟨oc, od, kV, doc, pm, an, cdv, ct, osl, rfl, lk, hcd⟩ := F.ex
  obtain ⟨w, ds, rfl, ok, rl, p⟩ := hsp
  unfold starD at p
  by_cases hc : ps.length ≤ ds.length ∧ (ds.drop ps.length).length ≤ 16777216
  · rw [if_pos hc] at p
    have ev : vs.take ps.length ++ vs.drop ps.length = vs := List.take_append_drop _ _
    rw [← ev] at r
    obtain ⟨u1, u2, eu, r1, r2⟩ := vals_split r
    subst eu
    have lv := rl.1
    have hl : (vs.take ps.length).length = ps.length := by rw [List.length_take]; have := hc.1; omega
    have hz : (vs.drop ps.length).length ≤ sizeLine := by
      rw [sizeLine_eq]
      have h2 := hc.2
      rw [List.length_drop] at h2 ⊢; omega
    have hn : w.H s.heap.objs.size = Option.none := e0.hok.fresh (Nat.le_refl _)
    have hl1 : u1.length = ps.length := by rw [← r1.length]; exact hl
    have hl2 : u2.length ≤ sizeLine := by rw [← r2.length]; exact hz
    refine run_bnd lk hcd S hr.1 e0 (G := fun xs H2 => ∃ q, w.H q = Option.none ∧ xs = vs.take ps.length ++ [V.ref q] ∧ H2 = upd w.H q (.tup (vs.drop ps.length))) (fun A' Ex Q' h => ?_) fun s2 H2 xs ⟨q, hq, ex, eH⟩ hr' => ?_
    · rw [hb kV doc pm an cdv ct u1 u2 hl1]
      refine wpAny_bind (wpAny_newTuple (wpAny_pure ?_) hl2)
      have new : ObjOk P wd (upd w.H s.heap.objs.size (.tup (vs.drop ps.length))) (s.heap.push ({ cls := .type "tuple", data := .seq u2.toArray } : Obj)) s.heap.objs.size (.tup (vs.drop ps.length)) := ⟨hz, u2, r2, ⟨_, Heap.get?_push_size _ rfl, rfl, _, rfl⟩⟩
      have un := un_laid (fs := frs outer) (s := s) (o := ({ cls := .type "tuple", data := .seq u2.toArray } : Obj)) (u := .tup (vs.drop ps.length)) hn
      have z := h _ _ (vs.take ps.length ++ [V.ref s.heap.objs.size]) (u1 ++ [Value.ref s.heap.objs.size]) (env0_laid e0 new) un rfl (fun e s' => cxUp outer s w.H _ _ E e s' un (fun b o q => Heap.get?_push_of_some _ q) rfl) (r1.append (.cons rfl .nil))
        (by rw [List.length_append, List.length_append, hl] <;> rfl) ⟨_, hn, rfl, rfl⟩
      rw [List.zip_append hl1.symm] at z
      exact z
    · subst ex eH
      obtain ⟨t, pt, rt⟩ := b (fun cls d _ H => E cls d H)
      have ev2 := evo_fz ok (.tup (vs.drop ps.length)) hq
      have k2 := ok_fz ok (.tup (vs.drop ps.length)) hq
      have rtup : Rep K (w.fz q (.tup (vs.drop ps.length))) (.ref q) (.tup (ds.drop ps.length)) := rep_tup ok hq (rl.drop ps.length)
      have r2' : RepL K (w.fz q (.tup (vs.drop ps.length))) (vs.take ps.length ++ [V.ref q]) (ds.take ps.length ++ [.tup (ds.drop ps.length)]) := ((rl.take ps.length).evo ev2).append (.cons rtup .nil)
      refine ⟨t, pt _ ⟨rfl, rfl, rfl, rfl, rfl, rfl, rfl, rfl, hr', hr.2, takes_of rfl rfl rfl rfl, passes_of rfl, rfl, fun _ => ⟨rfl, rfl, rfl⟩⟩, ?_⟩
      refine rt (w.fz q (.tup (vs.drop ps.length))) (w.fz q (.tup (vs.drop ps.length))) _ _ (Evo.refl _) k2 (fr_init r2' N) _ ?_
      have p2 := PostE.shift ev2 k2 p
      unfold run at p2
      rw [if_pos (by simp; have := hc.1; omega)] at p2
      show PostS K (w.fz q (.tup (vs.drop ps.length))) (w.fz q (.tup (vs.drop ps.length))) (m (initE N (ds.take ps.length ++ [.tup (ds.drop ps.length)])) w.st) _ _
      cases e : m (initE N (ds.take ps.length ++ [.tup (ds.drop ps.length)])) w.st with
      | nx Γ st' => rw [e] at p2; exact fun w' σ e1 x1 k1 s1 f1 => p2 .non w' e1 k1 s1 .non
      | ret d st' => rw [e] at p2; exact fun v w' e1 k1 s1 r1 => p2 v w' e1 k1 s1 r1
      | err x Γ st' => rw [e] at p2; exact fun c dd w' σ e1 x1 k1 s1 f1 r1 => p2 c dd w' e1 k1 s1 r1
      | bk Γ st' => rw [e] at p2; exact p2.elim
      | ct Γ st' => rw [e] at p2; exact p2.elim
      | no => rw [e] at p2; exact p2.elim
  · rw [if_neg hc] at p; exact p.elim
theorem pr_callS {j : Nat} {x : Str} {F : DF} {e : Expr} {es : List Expr} {ms : EM} {p pos : Pos} (c : FnS P wd K mg base j x F) (ha : PAr P wd K mg base k N sc W (e :: es) ms) (hk : j ≤ k := by decide) (hg : sc.s.names.lookup x = some .globalImplicit := by rfl)
    (hdb : (x == ("__debug__" : Str)) = false := by decide) (he : ∀ env, starEach (e :: es) env = (false, eval e env) :: starEach es env := by intro _; rfl) (hpl : ∀ env, (backTo pos (starEach es env)).any (·.1) = false := by intro _; rfl) :
    PR P wd K mg base k N sc W (.Call (.Name x p) (e :: es) [] pos) (eCall F ms) := by
  obtain ⟨f, hm, hk1, go⟩ := c.ex
  obtain ⟨t, pt, r⟩ := ha
  refine ⟨_, fun X g => ?_, rt_call r⟩
  have pa := pt X g
  obtain ⟨rfl, rfl, rfl, rfl, rfl, rfl, hsc, hc, hr, hgd, tk, _, _⟩ := g
  refine ⟨fun pins s σ H Q I want => ?_⟩
  have gl : Gl X x := by unfold Gl PySem.Env.kindOf; rw [hsc]; exact hg
  refine wpAny_Call_Name_kw (ld_glob (Q := _) I gl hm ?_ hdb)
  refine PySem.W.callWith_K (h₀ := X.base) I.ok.mod.kin hk1 (thn (pa.run pos pins s σ H _ I want) ?_) (he X.env) (hpl X.env)
  rintro us s1 ⟨vs, H1, I1, r1, q⟩
  refine ⟨I1.kIn, wpAny_call ?_⟩
  refine codeAny_mono (go ⟨hr.mono hk, hgd⟩ I1.env0 r1 q) fun r s' hq => ?_
  match r, hq with
  | .error e, hq => exact passAt tk σ pins H1 s1 e s' I1 hq
  | .ok (.ret u), hq => exact I1.after hq
end
end DL
/-! list comprehensions with two fors -/
namespace DL
open PySem L2
/-- what is shared of a frame -/
def shSl : Sl → Sl | .sh d => .sh d | _ => .no
def shO (Γ : DEnv) : DEnv := Γ.map shSl
section
variable {P : Program} {wd : World} {K : PySem.W.Frag} {mg : Str → Option Value} {base : Heap} {k : Nat} {N : List Str} {sc : SC} {W : WX}
theorem fr_shO {H0 : Hp} {w w1 : Wd} {Γ : DEnv} {σ : L2.St} (f : Fr K H0 w Γ σ) (e : Ext w w1) : Fr K H0 w1 (shO Γ) σ where
  len := by simp [shO, f.len]
  sh := fun i d h => by
    unfold shO at h
    rw [List.getElem?_map] at h
    cases q : Γ[i]? with
    | none => rw [q] at h; cases h
    | some s =>
      rw [q] at h
      cases s with
      | sh x => cases h; obtain ⟨v, a, b⟩ := f.sh i _ q; exact ⟨v, a, b.ext e⟩
      | no => cases h
      | ow x => cases h
  ow := fun i d h => by
    unfold shO at h
    rw [List.getElem?_map] at h
    cases q : Γ[i]? with
    | none => rw [q] at h; cases h
    | some s => rw [q] at h; cases s <;> cases h
  dj := fun i j d x a _ h _ _ => by
    unfold shO at h
    rw [List.getElem?_map] at h
    cases q : Γ[i]? with
    | none => rw [q] at h; cases h
    | some s => rw [q] at h; cases s <;> cases h
/-- the second for -/
def lcI (g1 : GM) (mt1 me : EM) (Kn : Store → List DL.D → ER) : List DL.D → DEnv → Store → List DL.D → ER
  | [], _, st, acc => Kn st acc
  | d :: ds, Γ, st, acc => match g1 d Γ with
    | none => .no
    | some Γ1 => match mt1 Γ1 st with
      | .ok (.bl true) s1 => match me Γ1 s1 with
        | .ok x s2 => if acc.length < 16777216 then lcI g1 mt1 me Kn ds Γ s2 (acc ++ [x]) else .no
        | _ => .no
      | .ok (.bl false) s1 => lcI g1 mt1 me Kn ds Γ s1 acc
      | _ => .no
def lcL2 (g : GM) (mt mi1 : EM) (g1 : GM) (mt1 me : EM) (vs1 : List Nat) : List DL.D → DEnv → Store → List DL.D → ER
  | [], _, st, acc => .ok (.lst acc) st
  | d :: ds, Γ, st, acc => match g d Γ with
    | none => .no
    | some Γ1 => match mt Γ1 st with
      | .ok (.bl true) s1 => match mi1 Γ1 s1 with
        | .ok (.tup es) s2 => lcI g1 mt1 me (fun s a => lcL2 g mt mi1 g1 mt1 me vs1 ds Γ s a) es (shO (wipeE Γ1 vs1)) s2 acc
        | _ => .no
      | .ok (.bl false) s1 => lcL2 g mt mi1 g1 mt1 me vs1 ds Γ s1 acc
      | _ => .no
def eLc2 (vs vs1 : List Nat) (mi : EM) (g : GM) (mt mi1 : EM) (g1 : GM) (mt1 me : EM) : EM := fun Γ st => (mi Γ st).bind fun d s => match d with | .tup ds => lcL2 g mt mi1 g1 mt1 me vs1 ds (wipeE Γ vs) s [] | _ => .no
/-- the list under way at p -/
structure LS (K : PySem.W.Frag) (w' : Wd) (p : Addr) (w1 : Wd) (acc : List V) (acd : List DL.D) : Prop where
  ev : Evo w' w1
  ok : Ok K w1
  hp : w1.H p = some (.lst acc)
  mp : w1.M p = none
  rp : ∀ l, l < w1.st.length → w1.ρ l ≠ p
  ra : RepL K w1 acc acd
theorem LS.step {w' w3 w4 : Wd} {p : Addr} {acc : List V} {acd : List DL.D} (h : LS K w' p w3 acc acd) (e : Evo w3 w4) (k : Ok K w4) : LS K w' p w4 acc acd := by
  refine ⟨h.ev.trans h.ok e, k, e.keep p _ h.hp h.mp h.rp, ?_, fun l hl z => ?_, h.ra.evo e⟩
  · cases z : w4.M p with
    | none => rfl
    | some u => have y := e.newM p u z h.mp; rw [h.hp] at y; cases y
  · by_cases z2 : l < w3.st.length
    · exact h.rp l z2 ((e.rho l z2).symm.trans z)
    · have y := e.newR l (Nat.le_of_not_lt z2) hl
      rw [z, h.hp] at y; cases y
theorem LS.put {w' w4 : Wd} {p : Addr} {acc : List V} {acd : List DL.D} {v : V} {x : DL.D} (h : LS K w' p w4 acc acd) (hD : w'.H p = none) (rv : Rep K w4 v x) : LS K w' p (w4.al p (.lst (acc ++ [v]))) (acc ++ [v]) (acd ++ [x]) where
  ev := ⟨h.ev.mono, h.ev.rho, h.ev.le, h.ev.newM, h.ev.newR, fun b u hb hmb hrb => by
    show upd w4.H p _ b = _
    rw [upd_ne (ne_of_none hb hD)]; exact h.ev.keep b u hb hmb hrb⟩
  ok := ok_al h.ok _ h.mp h.rp
  hp := upd_same
  mp := h.mp
  rp := h.rp
  ra := RepL.ext (w := w4) (w' := w4.al p _) ⟨fun _ _ h => h, fun _ _ => rfl, Nat.le_refl _⟩ (h.ra.append (.cons rv .nil))
theorem ext_alp {w1 w2 : Wd} {p : Addr} {o : HO} (e : Ext w1 w2) : Ext w1 (w2.al p o) := ⟨e.mono, e.rho, e.le⟩
theorem rtn_lc2 {wi wi1 : TI} {g g1 : TG} {tt tt1 : TT} {te : TE} {mi mi1 mt mt1 me : EM} {mg' mg1 : GM} {is is1 vs vs1 : List Nat} (hi : RTI K W wi mi) (hg : RTG K g mg' is) (his : ∀ i ∈ is, i ∈ vs) (ht : RTT K WF tt mt)
    (hi1 : RTI K WF wi1 mi1) (hg1 : RTG K g1 mg1 is1) (his1 : ∀ i ∈ is1, i ∈ vs1) (ht1 : RTT K WF tt1 mt1) (he : RT K WF te me) : RTN K W (tLc2 wi g tt wi1 g1 tt1 te vs vs1) (eLc2 vs vs1 mi mg' mt mi1 mg1 mt1 me) := by
  intro H0 w Γ σ ok f Q p
  refine hi H0 w Γ σ ok f _ ?_
  have p' : PostN K w ((mi Γ w.st).bind _) Q (at_ W σ) := p
  cases h : mi Γ w.st with
  | no => rw [h] at p'; exact p'
  | err x st => rw [h] at p'; exact p'
  | ok d st =>
    rw [h] at p'
    cases d with
    | tup ds =>
      intro J w' ev k' s it
      subst s
      have p1 : PostN K w' (lcL2 mg' mt mi1 mg1 mt1 me vs1 ds (wipeE Γ vs) w'.st []) Q (at_ W σ) := PostN.shift ev k' p'
      have f' := f.evo ev
      intro D hD
      have a0 := evo_al k' (.lst []) hD
      have o0 := ok_al k' (.lst []) (k'.none hD) (k'.noR hD)
      refine ⟨fun i m H => ∃ (w1 : Wd) (acc : List V) (acd : List DL.D), H = w1.H ∧ LS K w' D w1 acc acd ∧ m = ds.length - i ∧ i ≤ ds.length ∧ PostN K w' (lcL2 mg' mt mi1 mg1 mt1 me vs1 (ds.drop i) (wipeE Γ vs) w1.st acd) Q (at_ W σ),
        ⟨ds.length, w'.al D (.lst []), [], [], rfl, ⟨a0, o0, upd_same, k'.none hD, k'.noR hD, .nil⟩, rfl, Nat.zero_le _, p1⟩, ?_⟩
      rintro i m H ⟨w1, acc, acd, rfl, L1, rfl, hle, q⟩
      obtain ⟨go, stop⟩ := it i w1 L1.ev.ext L1.ok
      cases hd : ds[i]? with
      | none =>
        refine .inl ⟨stop hd, ?_⟩
        rw [List.drop_eq_nil_of_le (List.getElem?_eq_none_iff.mp hd)] at q
        exact q D _ w1 L1.ev L1.ok rfl hD L1.hp L1.mp L1.rp ⟨acc, rfl, L1.ra⟩
      | some d =>
        obtain ⟨g1', g2⟩ := go d hd
        have hl := getElem?_lt hd
        refine .inr ⟨g1', fun H => ∃ (w1 : Wd) (acc : List V) (acd : List DL.D), H = w1.H ∧ LS K w' D w1 acc acd ∧ PostN K w' (lcL2 mg' mt mi1 mg1 mt1 me vs1 (ds.drop (i + 1)) (wipeE Γ vs) w1.st acd) Q (at_ W σ), ?_, fun x H2 y => ?_⟩
        · rintro H' ⟨w3, acc3, acd3, rfl, b1, b7⟩
          exact ⟨ds.length - (i + 1), by omega, w3, acc3, acd3, rfl, b1, rfl, hl, b7⟩
        · obtain ⟨w2, rfl, s2, e2, k2, r2⟩ := g2 x H2 y
          rw [List.drop_eq_getElem_cons hl] at q
          have hd' : ds[i] = d := by rw [List.getElem?_eq_getElem hl] at hd; exact Option.some.inj hd
          rw [hd'] at q
          unfold lcL2 at q
          have fw : Fr K H0 w2 (wipeE Γ vs) (wipe σ vs) := ((fr_wipe f' vs).evo L1.ev).evo e2
          have L2' := L1.step e2 k2
          cases h1 : mg' d (wipeE Γ vs) with
          | none => rw [h1] at q; exact q.elim
          | some Γ2 =>
            rw [h1] at q
            dsimp only at q
            refine hg H0 w2 _ Γ2 _ x d k2 fw r2 h1 _ fun σ2 f2 wp => ⟨(wp vs his).trans (wipe_wipe vs), ?_⟩
            refine ht H0 w2 Γ2 σ2 k2 f2 _ ?_
            rw [s2]
            cases h2 : mt Γ2 w1.st with
            | no => rw [h2] at q; exact q.elim
            | err x st => rw [h2] at q; exact q.elim
            | ok b s1 =>
              rw [h2] at q
              cases b with
              | bl b =>
                intro w3 e3 k3 s3
                have L3 := L2'.step e3 k3
                cases b with
                | false =>
                  refine iteF ⟨w3, acc, acd, rfl, L3, ?_⟩
                  rw [s3]; exact q
                | true =>
                  refine iteT ?_
                  have f3 := f2.evo e3
                  refine hi1 H0 w3 Γ2 σ2 k3 f3 _ ?_
                  rw [s3]
                  dsimp only at q
                  cases h3 : mi1 Γ2 s1 with
                  | no => rw [h3] at q; exact q.elim
                  | err x st => rw [h3] at q; exact q.elim
                  | ok ed s4 =>
                    rw [h3] at q
                    cases ed with
                    | tup es =>
                      dsimp only at q
                      intro J1 w4 e4 k4 s4' it1
                      have L4 := L3.step e4 k4
                      refine ⟨fun j k H => ∃ (w5 : Wd) (acc : List V) (acd : List DL.D), H = w5.H ∧ LS K w' D w5 acc acd ∧ Ext w4 w5 ∧ k = es.length - j ∧ j ≤ es.length ∧ PostN K w' (lcI mg1 mt1 me (fun s a => lcL2 mg' mt mi1 mg1 mt1 me vs1 (ds.drop (i + 1)) (wipeE Γ vs) s a) (es.drop j) (shO (wipeE Γ2 vs1)) w5.st acd) Q (at_ W σ),
                        ⟨es.length, w4, acc, acd, rfl, L4, Ext.refl w4, rfl, Nat.zero_le _, by rw [s4']; exact q⟩, ?_⟩
                      rintro j k H ⟨w5, acc5, acd5, rfl, L5, x5, rfl, hle5, q5⟩
                      obtain ⟨go1, stop1⟩ := it1 j w5 x5 L5.ok
                      cases hd1 : es[j]? with
                      | none =>
                        refine .inl ⟨stop1 hd1, ?_⟩
                        rw [List.drop_eq_nil_of_le (List.getElem?_eq_none_iff.mp hd1)] at q5
                        exact ⟨w5, acc5, acd5, rfl, L5, q5⟩
                      | some d1 =>
                        obtain ⟨go2, yld2⟩ := go1 d1 hd1
                        have hl1 := getElem?_lt hd1
                        refine .inr ⟨go2, fun H => ∃ (w5 : Wd) (acc : List V) (acd : List DL.D), H = w5.H ∧ LS K w' D w5 acc acd ∧ Ext w4 w5 ∧ PostN K w' (lcI mg1 mt1 me (fun s a => lcL2 mg' mt mi1 mg1 mt1 me vs1 (ds.drop (i + 1)) (wipeE Γ vs) s a) (es.drop (j + 1)) (shO (wipeE Γ2 vs1)) w5.st acd) Q (at_ W σ), ?_, fun x1 H6 y1 => ?_⟩
                        · rintro H' ⟨w6, acc6, acd6, rfl, c1, c2, c3⟩
                          exact ⟨es.length - (j + 1), by omega, w6, acc6, acd6, rfl, c1, c2, rfl, hl1, c3⟩
                        · obtain ⟨w6, rfl, s6, e6, k6, r6⟩ := yld2 x1 H6 y1
                          have L6 := L5.step e6 k6
                          rw [List.drop_eq_getElem_cons hl1] at q5
                          have hd1' : es[j] = d1 := by rw [List.getElem?_eq_getElem hl1] at hd1; exact Option.some.inj hd1
                          rw [hd1'] at q5
                          unfold lcI at q5
                          have f6 : Fr K H0 w6 (shO (wipeE Γ2 vs1)) (wipe σ2 vs1) := fr_shO (fr_wipe f3 vs1) (e4.ext.trans (x5.trans e6.ext))
                          cases h6 : mg1 d1 (shO (wipeE Γ2 vs1)) with
                          | none => rw [h6] at q5; exact q5.elim
                          | some Γ7 =>
                            rw [h6] at q5
                            dsimp only at q5
                            refine hg1 H0 w6 _ Γ7 _ x1 d1 k6 f6 r6 h6 _ fun σ3 f7 wp1 => ⟨(wp1 vs1 his1).trans (wipe_wipe vs1), ?_⟩
                            refine ht1 H0 w6 Γ7 σ3 k6 f7 _ ?_
                            rw [s6]
                            cases h7 : mt1 Γ7 w5.st with
                            | no => rw [h7] at q5; exact q5.elim
                            | err x st => rw [h7] at q5; exact q5.elim
                            | ok b7 s7 =>
                              rw [h7] at q5
                              cases b7 with
                              | bl b7 =>
                                intro w8 e8 k8 s8
                                have L8 := L6.step e8 k8
                                have x8 : Ext w4 w8 := x5.trans (e6.ext.trans e8.ext)
                                cases b7 with
                                | false =>
                                  refine iteF ⟨w8, acc5, acd5, rfl, L8, x8, ?_⟩
                                  rw [s8]; exact q5
                                | true =>
                                  refine iteT ?_
                                  refine he H0 w8 Γ7 σ3 k8 (f7.evo e8) _ ?_
                                  rw [s8]
                                  dsimp only at q5
                                  cases h8 : me Γ7 s7 with
                                  | no => rw [h8] at q5; exact q5.elim
                                  | err x st => rw [h8] at q5; exact q5.elim
                                  | ok x' s9 =>
                                    rw [h8] at q5
                                    dsimp only at q5
                                    intro v w9 e9 k9 s9' rv
                                    have L9 := L8.step e9 k9
                                    by_cases hlen : acd5.length < 16777216
                                    · rw [if_pos hlen] at q5
                                      refine ⟨acc5, L9.hp, by rw [L9.ra.1, sizeLine_eq]; exact hlen, w9.al D (.lst (acc5 ++ [v])), acc5 ++ [v], acd5 ++ [x'], rfl, L9.put hD rv, ext_alp (x8.trans e9.ext), ?_⟩
                                      show PostN K w' (lcI _ _ _ _ _ _ w9.st _) Q _
                                      rw [s9']; exact q5
                                    · rw [if_neg hlen] at q5; exact q5.elim
                              | _ => exact q5.elim
                    | _ => exact q.elim
              | _ => exact q.elim
    | _ => exact p'.elim
theorem lcI_lst {mg1 : GM} {mt1 me : EM} {Kn : Store → List DL.D → ER} {d : DL.D} {s : Store} (hK : ∀ st acc, Kn st acc = .ok d s → ∃ xs, d = .lst xs) : ∀ (ds : List DL.D) (Γ : DEnv) (st : Store) (acc : List DL.D), lcI mg1 mt1 me Kn ds Γ st acc = .ok d s → ∃ xs, d = .lst xs
  | [], Γ, st, acc, h => hK st acc h
  | x :: ds, Γ, st, acc, h => by
    unfold lcI at h
    split at h
    · cases h
    · split at h
      · split at h
        · split at h
          · exact lcI_lst hK ds _ _ _ h
          · cases h
        · cases h
      · exact lcI_lst hK ds _ _ _ h
      · cases h
theorem lcL2_lst {mg' mg1 : GM} {mt mi1 mt1 me : EM} {vs1 : List Nat} {d : DL.D} {s : Store} : ∀ (ds : List DL.D) (Γ : DEnv) (st : Store) (acc : List DL.D), lcL2 mg' mt mi1 mg1 mt1 me vs1 ds Γ st acc = .ok d s → ∃ xs, d = .lst xs
  | [], Γ, st, acc, h => by cases h; exact ⟨_, rfl⟩
  | x :: ds, Γ, st, acc, h => by
    unfold lcL2 at h
    split at h
    · cases h
    · split at h
      · split at h
        · exact lcI_lst (fun st acc h => lcL2_lst ds _ _ _ h) _ _ _ _ h
        · cases h
      · exact lcL2_lst ds _ _ _ h
      · cases h
theorem isL_lc2 {vs vs1 : List Nat} {mi mi1 mt mt1 me : EM} {mg' mg1 : GM} : IsL (eLc2 vs vs1 mi mg' mt mi1 mg1 mt1 me) := fun Γ st d s h => by
  have h' : (mi Γ st).bind _ = .ok d s := h
  cases e : mi Γ st with
  | no => rw [e] at h'; cases h'
  | err x st => rw [e] at h'; cases h'
  | ok x s1 =>
    rw [e] at h'
    cases x with
    | tup ds => exact lcL2_lst ds _ _ _ h'
    | _ => cases h'
theorem pn_lc2 {elt tg iter tg1 iter1 : Expr} {ifs ifs1 : List Expr} {scope : Scope} {own : List (Str × Nat)} (vs1 : List Nat) {pos : Pos} {mi mi1 mt mt1 me : EM} {mg' mg1 : GM} {is is1 : List Nat} (nd : N.Nodup) (ok : BlkOk N sc.s scope own) (hi : PIt P wd K mg base k N sc W tg iter mi) (hg : PGt P wd K mg base k N (blkS scope sc) WF tg mg' is)
    (ht : PTj P wd K mg base k N (blkS scope sc) WF ifs mt) (hi1 : PIt P wd K mg base k N (blkS scope sc) WF tg1 iter1 mi1) (hg1 : PGt P wd K mg base k N (blkS scope sc) WF tg1 mg1 is1) (ht1 : PTj P wd K mg base k N (blkS scope sc) WF ifs1 mt1) (he : PR P wd K mg base k N (blkS scope sc) WF elt me)
    (his : ∀ i ∈ is, i ∈ own.map (·.2) := by decide) (his1 : ∀ i ∈ is1, i ∈ vs1 := by decide) (hv : ∀ i ∈ vs1, i ∈ own.map (·.2) := by decide) (hs : ∀ env x, foldedSetIterable iter env x = pure x := by intro _ _; rfl) (hs1 : ∀ env x, foldedSetIterable iter1 env x = pure x := by intro _ _; rfl) :
    PN P wd K mg base k N sc W (.ListComp elt [⟨tg, iter, ifs, 0⟩, ⟨tg1, iter1, ifs1, 0⟩] scope pos) (eLc2 (own.map (·.2)) vs1 mi mg' mt mi1 mg1 mt1 me) := by
  obtain ⟨ti, pi, ri⟩ := hi
  obtain ⟨tg', pg, rg⟩ := hg
  obtain ⟨tt, pt, rt⟩ := ht
  obtain ⟨ti1, pi1, ri1⟩ := hi1
  obtain ⟨tg1', pg1, rg1⟩ := hg1
  obtain ⟨tt1, pt1, rt1⟩ := ht1
  obtain ⟨te, pe, re⟩ := he
  exact ⟨_, fun X g => pe_lc2 g.calm (by rw [g.nn]; exact nd) (pi X g) (by rw [g.nn, g.scp]; exact ok) hv (fun s H C cl fp => pg _ (g_blk g)) (fun s H C cl fp => pt _ (g_blk g)) (fun s H C cl fp => pi1 _ (g_blk g)) (fun s H C cl fp => pg1 _ (g_blk g)) (fun s H C cl fp => pt1 _ (g_blk g)) (fun s H C cl fp => pe _ (g_blk g)) (hs X.env) hs1, rtn_lc2 ri rg his rt ri1 rg1 his1 rt1 re⟩
theorem pr_lc2 {elt tg iter tg1 iter1 : Expr} {ifs ifs1 : List Expr} {scope : Scope} {own : List (Str × Nat)} (vs1 : List Nat) {pos : Pos} {mi mi1 mt mt1 me : EM} {mg' mg1 : GM} {is is1 : List Nat} (nd : N.Nodup) (ok : BlkOk N sc.s scope own) (hi : PIt P wd K mg base k N sc W tg iter mi) (hg : PGt P wd K mg base k N (blkS scope sc) WF tg mg' is)
    (ht : PTj P wd K mg base k N (blkS scope sc) WF ifs mt) (hi1 : PIt P wd K mg base k N (blkS scope sc) WF tg1 iter1 mi1) (hg1 : PGt P wd K mg base k N (blkS scope sc) WF tg1 mg1 is1) (ht1 : PTj P wd K mg base k N (blkS scope sc) WF ifs1 mt1) (he : PR P wd K mg base k N (blkS scope sc) WF elt me)
    (his : ∀ i ∈ is, i ∈ own.map (·.2) := by decide) (his1 : ∀ i ∈ is1, i ∈ vs1 := by decide) (hv : ∀ i ∈ vs1, i ∈ own.map (·.2) := by decide) (hs : ∀ env x, foldedSetIterable iter env x = pure x := by intro _ _; rfl) (hs1 : ∀ env x, foldedSetIterable iter1 env x = pure x := by intro _ _; rfl) :
    PR P wd K mg base k N sc W (.ListComp elt [⟨tg, iter, ifs, 0⟩, ⟨tg1, iter1, ifs1, 0⟩] scope pos) (eLc2 (own.map (·.2)) vs1 mi mg' mt mi1 mg1 mt1 me) := (pn_lc2 vs1 nd ok hi hg ht hi1 hg1 ht1 he his his1 hv hs hs1).rt isL_lc2
end
end DL
/-! len({e for x in xs if ..}), e plain data -/
namespace DL
open PySem L2 PySem.Spec PyProof.Rows
/-- the set of the plain keys ks at a -/
def SLO (P : Program) (wd : World) (a : Addr) (ks : List Leaf) : HO := .ext fun h => SetG (leafKind P wd) h a (fun k => decide (k ∈ ks)) (ddp ks).length
theorem slo_ok {P : Program} {w : World} {H : Hp} {h : Heap} {a : Addr} {ks : List Leaf} (R : SetG (leafKind P w) h a (fun k => decide (k ∈ ks)) (ddp ks).length) : ObjOk P w H h a (SLO P w a ks) :=
  have ⟨o, _, _, _, ho, _⟩ := R
  ⟨R, ⟨o, ho⟩, fun h1 h2 p k => SetG.at p k⟩
section
variable {P : Program} {w : World} {A : Around} {E : Value → Shared → Prop} {s : Shared} {a : Addr}
theorem slo_empty {h : Heap} : SetG (leafKind P w) (h.push { cls := .type "set", dict := none, data := .set #[] 0 (.fresh 0 0 (!w.params.followText "set-order")) }) h.objs.size (fun k => decide (k ∈ ([] : List Leaf))) (ddp ([] : List Leaf)).length :=
  ⟨_, #[], 0, _, Heap.get?_push_size _ rfl, ⟨rfl, rfl, rfl⟩, rfl, rfl, ⟨fun e he => by simp at he, by simp, fun k => by simp, by decide, by rfl, List.Pairwise.nil, by
    show _ ∨ (!w.params.followText "set-order") = true
    cases w.params.followText "set-order"
    · exact .inr rfl
    · exact .inl rfl⟩⟩
theorem call_add_leaf {k : Leaf} {ks : List Leaf} {v : Value} {Q : Value → Shared → Prop} (hk : (leafKind P w).is k v = true) (hs : v.scannable = true) (R : SetG (leafKind P w) s.heap a (fun k => decide (k ∈ ks)) (ddp ks).length) (room : ks.length + 1 < 4096)
    (hQ : ∀ h', Heap.SameBut a s.heap h' → SetG (leafKind P w) h' a (fun j => decide (j ∈ ks ++ [k])) (ddp (ks ++ [k])).length → Q .none { s with heap := h', toks := s.toks + 1 }) :
    wpAny (model P w) A (call (.builtin "set.add") [.ref a, v]) Q E s := by
  have ty : s.TypeIs (.ref a) "set" := by
    obtain ⟨o, es, ep, t, ho, hex, hd, hn, g⟩ := R
    exact Heap.SetOf.typeIs (knd := leafKind P w) ⟨o, es, ep, t, ho, hex, hd, g.el, g.me, g.lt, g.ft, hn⟩
  refine wpAny_call_entry F.slot_set_add ty F.entry_set_add ?_ (F.args_set_add_2 _ _)
  unfold Builtin.«set.add» Builtin.Frozenset.oneOther
  simp only [List.isEmpty_nil, bind_assoc]
  unfold Builtin.Frozenset.addrOf setAdd
  refine wpAny_bind (wpAny_pure ?_)
  try dsimp only
  refine wpAny_bind (wpAny_pure ?_)
  try dsimp only
  refine wpAny_bind (wpAny_holding (wpAny_bind ((leafKind P w).pyHash hk ?_)))
  have r2 : (ddp ks).length + 1 < scanBound := by have := ddp_le ks; unfold scanBound; omega
  refine addG (s := { s with toks := s.toks + 1 }) hk hs R r2 fun h' sb hS2 => ?_
  have hS3 := hS2.cg (S' := fun j => decide (j ∈ ks ++ [k])) (m := (ddp (ks ++ [k])).length) (fun j => by simp) (by
    rw [ddp_snoc]
    unfold ddpS
    have := ddp_mem ks k
    by_cases e : k ∈ ks
    · rw [if_pos (decide_eq_true e), if_pos (this.mpr e)]
    · rw [if_neg (by simpa using e), if_neg (fun z => e (this.mp z))]; simp)
  show wpAny _ _ (ret Value.none) _ _ _
  exact wpAny_pure ⟨_, rfl, hQ h' sb hS3⟩
end
section
variable {X : Cx}
/-- found.add(v) on the set at D -/
theorem addL_ok {pins : List (Addr × Obj)} {σ : L2.St} {H : Hp} {s : Shared} {E : Value → Shared → Prop} {D : Addr} {ks : List Leaf} {y : V} {k : Leaf} {v : Value} {Q : Value → Shared → Prop} (I : Inv X pins σ H s) (hD : H D = some (SLO X.prog X.w D ks)) (hy : lfV y = some k) (r : RelV y v) (room : ks.length + 1 < 4096)
    (h : ∀ s', Inv X pins σ (upd H D (SLO X.prog X.w D (ks ++ [k]))) s' → Q .none s') : wpAny (model X.prog X.w) X.A (call (.builtin "set.add") [.ref D, v]) Q E s := by
  have R : SetG (leafKind X.prog X.w) s.heap D (fun k => decide (k ∈ ks)) (ddp ks).length := (I.hok D _ hD).1
  obtain ⟨a1, a2⟩ := lfV_is (P := X.prog) (w := X.w) hy r
  refine call_add_leaf a1 a2 R room fun h' sb new => ?_
  have he : ∃ u, h'.get? D = some u := have ⟨o, _, _, _, ho, _⟩ := new; ⟨o, ho⟩
  exact h _ (I.write (e := D) (t' := s.toks + 1) (by rw [hD]; trivial) (.inl rfl) (fun b u hb hu => (sb.2 b hb).trans hu) he (slo_ok new))
/-- the set's turns: the keys gathered stand at D -/
def tScL (P : Program) (wd : World) (wi : TI) (g : TG) (tt : TT) (te : TE) (vs : List Nat) : TE := fun σ H Q => wi σ H fun J H1 => ∀ D, H1 D = none → ∃ W : Nat → Nat → Hp → Prop, (∃ m, W 0 m (upd H1 D (SLO P wd D []))) ∧ ∀ i m H, W i m H →
  (J.stop i H ∧ Q (.ref D) H) ∨ (J.go i H ∧ ∃ Nx : Hp → Prop, (∀ H', Nx H' → ∃ m', m' < m ∧ W (i + 1) m' H') ∧ ∀ x H', J.yld i H x H' → g x (wipe σ vs) H' fun σ2 H2 => wipe σ2 vs = wipe σ vs ∧ tt σ2 H2 fun b H3 =>
    if b = true then te σ2 H3 fun y H4 => ∃ ks k, H4 D = some (SLO P wd D ks) ∧ lfV y = some k ∧ ks.length + 1 < 4096 ∧ Nx (upd H4 D (SLO P wd D (ks ++ [k]))) else Nx H3)
/-- what a turn of the block begins with -/
def TurnAt (X : Cx) (s3 : Shared) (H3 : Hp) (scope : Scope) (ce : Env) (fp : List Addr) (tn : Nat → Heap → Prop) (W : Nat → Nat → Hp → Prop) (σw : L2.St) (n : Nat) (s : Shared) : Prop :=
  ∃ i H, Inv (X.blk s3 H3 scope ce fp) [] σw H s ∧ tn i s.heap ∧ (∀ b ∈ fp, H b = none) ∧ W i n H
theorem pe_scL {elt tg iter : Expr} {ifs : List Expr} {scope : Scope} {own : List (PySem.Str × Nat)} {pos : Pos} {wi : TI} {g : TG} {tt : TT} {te : TE} (hc : X.calm = true) (hN : X.N.Nodup) (hi : PI X tg iter wi) (ok : BlkOk X.N X.env.scope scope own)
    (hg : ∀ (s : Shared) (H : Hp) (C : Addr) (cl : List (PySem.Str × Addr)) (fp : List Addr), PG (X.blk s H scope (compEnvC scope cl C X.env) fp) tg g) (ht : ∀ (s : Shared) (H : Hp) (C : Addr) (cl : List (PySem.Str × Addr)) (fp : List Addr), PTs (X.blk s H scope (compEnvC scope cl C X.env) fp) ifs tt)
    (he : ∀ (s : Shared) (H : Hp) (C : Addr) (cl : List (PySem.Str × Addr)) (fp : List Addr), PE (X.blk s H scope (compEnvC scope cl C X.env) fp) elt te) (hs : ∀ x, foldedSetIterable iter X.env x = pure x := by intro _; rfl) :
    PE X (.SetComp elt [⟨tg, iter, ifs, 0⟩] scope pos) (tScL X.prog X.w wi g tt te (own.map (·.2))) := by
  refine ⟨fun pins s σ H Q I h => ?_⟩
  rw [PpSet.eval_SetComp]
  have fr : ∀ y ∈ scope.names, y.2 = .free → ∃ c, X.env.cells.lookup y.1 = some c := fun y hy e => (ok.free y hy e).elim (fun k => I.ok.has _ (.inl k)) fun k => I.ok.has _ (.inr k)
  refine wpAny_comprehension_free (use := none) rfl hs (closure_ok fr) ok.kind (fun y hy e => by rw [ok.uniq y hy, e]) (thn (hi.run pins s σ H _ I h) fun xv s1 hx => thn hx fun itv s2 h2 => ?_)
  obtain ⟨it, fp, tn, J, H2, rfl, I2, T, st2, f2, q⟩ := h2
  refine PpSet.newSet_ok (newEnv_comp ?_)
  have gone : H2 s2.heap.objs.size = none := I2.hok.fresh (Nat.le_refl _)
  obtain ⟨W, ⟨m0, w0⟩, turn⟩ := q s2.heap.objs.size gone
  have I3 : Inv X pins σ (upd H2 s2.heap.objs.size (SLO X.prog X.w s2.heap.objs.size [])) { s2 with heap := s2.heap.push { cls := .type "set", dict := none, data := .set #[] 0 (.fresh 0 0 (!X.w.params.followText "set-order")) } } :=
    I2.laid (t' := s2.toks) (fun b o e => Heap.get?_push_of_some _ e) (Nat.le_refl _) (slo_ok slo_empty)
  obtain ⟨s3, e3⟩ : ∃ s3 : Shared, s3 = { s2 with heap := s2.heap.push { cls := .type "set", dict := none, data := .set #[] 0 (.fresh 0 0 (!X.w.params.followText "set-order")) } } := ⟨_, rfl⟩
  rw [← e3] at I3
  have up : ∀ b o, s2.heap.get? b = some o → s3.heap.get? b = some o := fun b o e => by rw [e3]; exact Heap.get?_push_of_some _ e
  have f3 : ∀ b ∈ fp, FpOk X pins (upd H2 s2.heap.objs.size (SLO X.prog X.w s2.heap.objs.size [])) b ∧ b < s3.heap.objs.size := fun b hb => by
    obtain ⟨o, e2, _⟩ := T.obj _ _ st2 b hb
    refine ⟨⟨?_, (f2 b hb).2⟩, Heap.lt_size (up b o e2)⟩
    rw [upd_ne fun e => Nat.lt_irrefl _ (by have := Heap.lt_size e2; rw [e] at this; exact this)]
    exact (f2 b hb).1
  have st3 : tn 0 s3.heap := T.keep _ _ _ st2 fun b _ o e => up b o e
  have I4 := block_start I3 ok hN f3
  have pg := hg s3 (upd H2 s2.heap.objs.size (SLO X.prog X.w s2.heap.objs.size [])) s3.heap.objs.size (cellsFrom (s3.heap.objs.size + 1) scope.names (cloFrom X.env.cells scope.names [])) fp
  have pt := ht s3 (upd H2 s2.heap.objs.size (SLO X.prog X.w s2.heap.objs.size [])) s3.heap.objs.size (cellsFrom (s3.heap.objs.size + 1) scope.names (cloFrom X.env.cells scope.names [])) fp
  have pe := he s3 (upd H2 s2.heap.objs.size (SLO X.prog X.w s2.heap.objs.size [])) s3.heap.objs.size (cellsFrom (s3.heap.objs.size + 1) scope.names (cloFrom X.env.cells scope.names [])) fp
  rw [← e3]
  show codeAny _ _ (.compStart (.SetComp elt [⟨tg, iter, ifs, 0⟩] scope pos) 0 (.ref it) (.ref s2.heap.objs.size) (compEnvC scope (cellsFrom (s3.heap.objs.size + 1) scope.names (cloFrom X.env.cells scope.names [])) s3.heap.objs.size X.env)) (compPost (model X.prog X.w) X.A X.xe none (EP X pins σ Q) (.ref s2.heap.objs.size) s3.heap.objs.size) { s3 with heap := pushCells (s3.heap.push { cls := .type "dict", data := .dict #[] }) scope.names }
  have st4 : tn 0 (pushCells (s3.heap.push { cls := .type "dict", data := .dict #[] }) scope.names) := T.keep _ _ _ st3 fun b _ o e => pushCells_keeps _ _ _ _ (Heap.get?_push_of_some _ e)
  have loc : (compEnvC scope (cellsFrom (s3.heap.objs.size + 1) scope.names (cloFrom X.env.cells scope.names [])) s3.heap.objs.size X.env).locals = s3.heap.objs.size := rfl
  generalize compEnvC scope (cellsFrom (s3.heap.objs.size + 1) scope.names (cloFrom X.env.cells scope.names [])) s3.heap.objs.size X.env = ce at I4 pg pt pe loc ⊢
  generalize hs4 : ({ s3 with heap := pushCells (s3.heap.push { cls := .type "dict", data := .dict #[] }) scope.names } : Shared) = s4 at I4 ⊢
  have st4 : tn 0 s4.heap := by rw [← hs4]; exact st4
  generalize s2.heap.objs.size = D at gone w0 turn I3 f3 I4 pg pt pe ⊢
  generalize upd H2 D (SLO X.prog X.w D []) = H3 at w0 I3 f3 I4 pg pt pe
  have foot : ∀ {σ' : L2.St} {H' : Hp} {s' : Shared}, Inv (X.blk s3 H3 scope ce fp) [] σ' H' s' → (∀ b ∈ fp, H' b = none) → ∀ b ∈ fp, FpOk (X.blk s3 H3 scope ce fp) [] H' b := fun I' hn b hb =>
    ⟨hn b hb, (I'.ok.exf b hb).1, I'.ok.exfs b hb, .inl hb, fun x c e => (I'.ok.exf b hb).2 x c e, fun p hp => absurd (show p ∈ ([] : List (Addr × Obj)) ++ [] from hp) (by simp)⟩
  have loop : codeAny (model X.prog X.w) X.A (.compLoop (.SetComp elt [⟨tg, iter, ifs, 0⟩] scope pos) 0 (.ref it) (.ref D) ce) (compPost (model X.prog X.w) X.A X.xe none (EP X pins σ Q) (.ref D) s3.heap.objs.size) s4 := by
    refine PpSet.compLoopS_any (TurnAt X s3 H3 scope ce fp tn W (wipe σ (own.map (·.2)))) ?_ m0 ⟨0, H3, I4, st4, fun b hb => (f3 b hb).1.1, w0⟩
    rintro n s5 ⟨i, H5, I5, st5, n5, w5⟩
    rcases turn i n H5 w5 with ⟨stop, qq⟩ | ⟨go, Nx, hNx, step⟩
    · refine thnF (T.done (X.blk s3 H3 scope ce fp) rfl rfl rfl hc i [] s5 _ H5 (fun _ _ => False) I5 (foot I5 n5) st5 stop) fun r s6 ⟨hr, I6⟩ => ?_
      subst hr
      have I7 : Inv X pins σ H5 s6 := I3.call' (ch := fp) I6.os I6.base I6.hok I6.bare fun b hb => ⟨(f3 b hb).1.2.2.2.1, (f3 b hb).1.2.1, (f3 b hb).1.2.2.2.2.1, (f3 b hb).1.2.2.2.2.2⟩
      have nC : H5 ce.locals = none := I6.free
      obtain ⟨m, hm, _⟩ := I6.loc
      have hm : s6.heap.Ns ce.locals m := hm
      rw [loc] at nC hm
      obtain ⟨f0, f1, f2', f3', f4, f5⟩ := I3.fpOk (Nat.le_refl _) nC
      exact ⟨m, hm, fun h'' sb => ⟨.ref D, H5, I7.turned (t' := s6.toks) (fun b o hb e => (sb.2 b hb).trans e) f0 f1 f3' f4 f5, rfl, qq⟩⟩
    · refine thnF (T.item (X.blk s3 H3 scope ce fp) rfl rfl rfl hc i [] s5 _ H5 (fun _ _ => False) I5 (foot I5 n5) st5 go) fun r s6 ⟨u, hr, h6⟩ => ?_
      subst hr
      refine thnF h6 fun _ s7 ⟨x, H7, I7, r7, y7, st7, n7⟩ => ?_
      have ob := T.obj _ _ st7
      refine thnF (pg.run _ s7 _ H7 x u _ (I7.pinned (foot I7 n7) ob) r7 (step x H7 y7)) fun _ s8 ⟨σ8, H8, I8, hw8, q8⟩ => ?_
      refine thnF (pt.run _ s8 σ8 H8 _ I8 q8) fun b s9 ⟨H9, I9, q9⟩ => ?_
      have next : ∀ {s' : Shared} {H' : Hp}, Inv (X.blk s3 H3 scope ce fp) ([] ++ pinsAt fp s7.heap) σ8 H' s' → Nx H' → ∃ m, m < n ∧ TurnAt X s3 H3 scope ce fp tn W (wipe σ (own.map (·.2))) m s' := fun {s' H'} I' nx => by
        obtain ⟨m', hm, w'⟩ := hNx H' nx
        have kept : ∀ b ∈ fp, ∀ o, s7.heap.get? b = some o → s'.heap.get? b = some o ∧ H' b = none := fun b hb o e =>
          let z := I'.pin (b, o) (List.mem_append_right _ (List.mem_append_right _ (mem_pinsAt hb e)))
          ⟨z.1, z.2.1⟩
        refine ⟨m', hm, i + 1, H', (I'.unpinned (pins := [])).weak (by rw [← hw8, wipe_length]) (fun j v e => ?_), T.keep _ _ _ st7 fun b hb o e => (kept b hb o e).1, fun b hb => ?_, w'⟩
        · rw [← hw8] at e
          exact (wipe_some e).1
        · obtain ⟨o, e, _⟩ := ob b hb
          exact (kept b hb o e).2
      cases b with
      | false =>
        simp only [Bool.false_eq_true, if_false] at q9 ⊢
        exact next I9 q9
      | true =>
        simp only [if_true] at q9 ⊢
        refine thnF (pe.run _ s9 σ8 H9 _ I9 q9) fun z s10 ⟨yv, H10, I10, r10, ks, k, hD, hy, room, nx⟩ => ?_
        exact addL_ok (X := X.blk s3 H3 scope ce fp) I10 hD hy r10 room fun s11 I11 => next I11 nx
  exact PpSet.codeAny_compStart_set loop (T.self X.A 0 _ _ _ st4 loop)
def tLenK (P : Program) (wd : World) (ta : TE) : TE := fun σ H Q => ta σ H fun x H1 => ∃ l ks, x = .ref l ∧ H1 l = some (SLO P wd l ks) ∧ Q (.int (ddp ks).length) H1
theorem pe_lenK {a : Expr} {ta : TE} {p pos : Pos} (hg : Gl X "len") (hm : X.mg "len" = none) (ha : PE X a ta)
    (na : starEach [a] X.env = (false, eval a X.env) :: starEach [] X.env := by rfl) : PE X (.Call (.Name "len" p) [a] [] pos) (tLenK X.prog X.w ta) := by
  refine ⟨fun pins s σ H Q I h => ?_⟩
  refine Call_ (ld_blt I hg hm boot_len ?_)
  refine PyProof.Rows.callWith_builtin1 (PyProof.Rows.args_cons (thn (ha.run pins s σ H _ I h) fun v s1 ⟨x, H1, I1, r1, q1⟩ => PyProof.Rows.args_nil ?_) na) na rfl
  obtain ⟨l, ks, rfl, hl, q1⟩ := q1
  cases r1
  exact len_setG (I1.hok l _ hl).1 ⟨.int (ddp ks).length, H1, I1.tok _, ⟨_, rfl⟩, q1⟩
end
section
variable {P : Program} {wd : World} {K : PySem.W.Frag} {mg : Str → Option Value} {base : Heap} {k : Nat} {N : List Str} {sc : SC} {W : WX}
/-- the keys come one by one; their number in the end -/
def scL (g : GM) (mt me : EM) : List D → DEnv → Store → List Leaf → ER
  | [], _, st, ks => .ok (.int (ddp ks).length) st
  | d :: ds, Γ, st, ks => match g d Γ with
    | none => .no
    | some Γ1 => match mt Γ1 st with
      | .ok (.bl true) s1 => match me Γ1 s1 with
        | .ok x s2 => match lfD x with
          | some k => if ks.length + 1 < 4096 then scL g mt me ds Γ s2 (ks ++ [k]) else .no
          | none => .no
        | _ => .no
      | .ok (.bl false) s1 => scL g mt me ds Γ s1 ks
      | _ => .no
def eLenSc (vs : List Nat) (mi : EM) (g : GM) (mt me : EM) : EM := fun Γ st => (mi Γ st).bind fun d s => match d with | .tup ds => scL g mt me ds (wipeE Γ vs) s [] | _ => .no
/-- the set under way at p -/
structure KS (P : Program) (wd : World) (K : PySem.W.Frag) (w' : Wd) (p : Addr) (w1 : Wd) (ks : List Leaf) : Prop where
  ev : Evo w' w1
  ok : Ok K w1
  hp : w1.H p = some (SLO P wd p ks)
  mp : w1.M p = none
  rp : ∀ l, l < w1.st.length → w1.ρ l ≠ p
theorem SLO_ne {p : Addr} {ks : List Leaf} {u : HO} (e : some (SLO P wd p ks) = some u) : u = SLO P wd p ks := (Option.some.inj e).symm
theorem KS.step {w' w3 w4 : Wd} {p : Addr} {ks : List Leaf} (h : KS P wd K w' p w3 ks) (e : Evo w3 w4) (k : Ok K w4) : KS P wd K w' p w4 ks := by
  refine ⟨h.ev.trans h.ok e, k, e.keep p _ h.hp h.mp h.rp, ?_, fun l hl z => ?_⟩
  · cases z : w4.M p with
    | none => rfl
    | some u => have y := e.newM p u z h.mp; rw [h.hp] at y; cases y
  · by_cases z2 : l < w3.st.length
    · exact h.rp l z2 ((e.rho l z2).symm.trans z)
    · have y := e.newR l (Nat.le_of_not_lt z2) hl
      rw [z, h.hp] at y; cases y
theorem KS.put {w' w4 : Wd} {p : Addr} {ks ks2 : List Leaf} (h : KS P wd K w' p w4 ks) (hD : w'.H p = none) : KS P wd K w' p (w4.al p (SLO P wd p ks2)) ks2 where
  ev := ⟨h.ev.mono, h.ev.rho, h.ev.le, h.ev.newM, h.ev.newR, fun b u hb hmb hrb => by
    show upd w4.H p _ b = _
    rw [upd_ne (ne_of_none hb hD)]; exact h.ev.keep b u hb hmb hrb⟩
  ok := ok_al h.ok _ h.mp h.rp
  hp := upd_same
  mp := h.mp
  rp := h.rp
theorem rt_lensc {wi : TI} {g : TG} {tt : TT} {te : TE} {mi mt me : EM} {mg' : GM} {is vs : List Nat} (hi : RTI K W wi mi) (hg : RTG K g mg' is) (his : ∀ i ∈ is, i ∈ vs) (ht : RTT K WF tt mt) (he : RT K WF te me) :
    RT K W (tLenK P wd (tScL P wd wi g tt te vs)) (eLenSc vs mi mg' mt me) := by
  intro H0 w Γ σ ok f Q p
  refine hi H0 w Γ σ ok f _ ?_
  have p' : PostE K w ((mi Γ w.st).bind _) Q (at_ W σ) := p
  cases h : mi Γ w.st with
  | no => rw [h] at p'; exact p'
  | err x st => rw [h] at p'; exact p'
  | ok d st =>
    rw [h] at p'
    cases d with
    | tup ds =>
      intro J w' ev k' s it
      subst s
      have p1 : PostE K w' (scL mg' mt me ds (wipeE Γ vs) w'.st []) Q (at_ W σ) := PostE.shift ev k' p'
      have f' := f.evo ev
      intro D hD
      refine ⟨fun i m H => ∃ (w1 : Wd) (ks : List Leaf), H = w1.H ∧ KS P wd K w' D w1 ks ∧ m = ds.length - i ∧ i ≤ ds.length ∧ PostE K w' (scL mg' mt me (ds.drop i) (wipeE Γ vs) w1.st ks) Q (at_ W σ),
        ⟨ds.length, w'.al D (SLO P wd D []), [], rfl, ⟨evo_al k' _ hD, ok_al k' _ (k'.none hD) (k'.noR hD), upd_same, k'.none hD, k'.noR hD⟩, rfl, Nat.zero_le _, p1⟩, ?_⟩
      rintro i m H ⟨w1, ks, rfl, L1, rfl, hle, q⟩
      obtain ⟨go, stop⟩ := it i w1 L1.ev.ext L1.ok
      cases hd : ds[i]? with
      | none =>
        refine .inl ⟨stop hd, D, ks, rfl, L1.hp, ?_⟩
        rw [List.drop_eq_nil_of_le (List.getElem?_eq_none_iff.mp hd)] at q
        exact q _ w1 L1.ev L1.ok rfl .int
      | some d =>
        obtain ⟨g1', g2⟩ := go d hd
        have hl := getElem?_lt hd
        refine .inr ⟨g1', fun H => ∃ (w1 : Wd) (ks : List Leaf), H = w1.H ∧ KS P wd K w' D w1 ks ∧ PostE K w' (scL mg' mt me (ds.drop (i + 1)) (wipeE Γ vs) w1.st ks) Q (at_ W σ), ?_, fun x H2 y => ?_⟩
        · rintro H' ⟨w3, ks3, rfl, b1, b2⟩
          exact ⟨ds.length - (i + 1), by omega, w3, ks3, rfl, b1, rfl, hl, b2⟩
        · obtain ⟨w2, rfl, s2, e2, k2, r2⟩ := g2 x H2 y
          rw [List.drop_eq_getElem_cons hl] at q
          have hd' : ds[i] = d := by rw [List.getElem?_eq_getElem hl] at hd; exact Option.some.inj hd
          rw [hd'] at q
          unfold scL at q
          have fw : Fr K H0 w2 (wipeE Γ vs) (wipe σ vs) := ((fr_wipe f' vs).evo L1.ev).evo e2
          have L2' := L1.step e2 k2
          cases h1 : mg' d (wipeE Γ vs) with
          | none => rw [h1] at q; exact q.elim
          | some Γ2 =>
            rw [h1] at q
            dsimp only at q
            refine hg H0 w2 _ Γ2 _ x d k2 fw r2 h1 _ fun σ2 f2 wp => ⟨(wp vs his).trans (wipe_wipe vs), ?_⟩
            refine ht H0 w2 Γ2 σ2 k2 f2 _ ?_
            rw [s2]
            cases h2 : mt Γ2 w1.st with
            | no => rw [h2] at q; exact q.elim
            | err x st => rw [h2] at q; exact q.elim
            | ok b s1 =>
              rw [h2] at q
              cases b with
              | bl b =>
                intro w3 e3 k3 s3
                have L3 := L2'.step e3 k3
                cases b with
                | false =>
                  refine iteF ⟨w3, ks, rfl, L3, ?_⟩
                  rw [s3]; exact q
                | true =>
                  refine iteT ?_
                  refine he H0 w3 Γ2 σ2 k3 (f2.evo e3) _ ?_
                  rw [s3]
                  dsimp only at q
                  cases h3 : me Γ2 s1 with
                  | no => rw [h3] at q; exact q.elim
                  | err x st => rw [h3] at q; exact q.elim
                  | ok x' s4 =>
                    rw [h3] at q
                    dsimp only at q
                    intro v w4 e4 k4 s4' rv
                    have L4 := L3.step e4 k4
                    cases hx : lfD x' with
                    | none => rw [hx] at q; exact q.elim
                    | some kk =>
                      rw [hx] at q
                      dsimp only at q
                      by_cases hlen : ks.length + 1 < 4096
                      · rw [if_pos hlen] at q
                        refine ⟨ks, kk, L4.hp, lf_rep rv hx, hlen, w4.al D (SLO P wd D (ks ++ [kk])), ks ++ [kk], rfl, L4.put hD, ?_⟩
                        show PostE K w' (scL _ _ _ _ _ w4.st _) Q _
                        rw [s4']; exact q
                      · rw [if_neg hlen] at q; exact q.elim
              | _ => exact q.elim
    | _ => exact p'.elim
theorem pr_lensc {elt tg iter : Expr} {ifs : List Expr} {scope : Scope} {own : List (Str × Nat)} {p pos pos' : Pos} {mi mt me : EM} {mg' : GM} {is : List Nat} (hm : mg "len" = none) (nd : N.Nodup) (ok : BlkOk N sc.s scope own) (hi : PIt P wd K mg base k N sc W tg iter mi) (hg : PGt P wd K mg base k N (blkS scope sc) WF tg mg' is)
    (ht : PTj P wd K mg base k N (blkS scope sc) WF ifs mt) (he : PR P wd K mg base k N (blkS scope sc) WF elt me) (his : ∀ i ∈ is, i ∈ own.map (·.2) := by decide) (hs : ∀ env x, foldedSetIterable iter env x = pure x := by intro _ _; rfl) (hgl : sc.s.names.lookup ("len" : Str) = some .globalImplicit := by rfl)
    (na : ∀ env, starEach [.SetComp elt [⟨tg, iter, ifs, 0⟩] scope pos] env = (false, eval (.SetComp elt [⟨tg, iter, ifs, 0⟩] scope pos) env) :: starEach [] env := by intro _; rfl) :
    PR P wd K mg base k N sc W (.Call (.Name "len" p) [.SetComp elt [⟨tg, iter, ifs, 0⟩] scope pos] [] pos') (eLenSc (own.map (·.2)) mi mg' mt me) := by
  obtain ⟨ti, pi, ri⟩ := hi
  obtain ⟨tg', pg, rg⟩ := hg
  obtain ⟨tt, pt, rt⟩ := ht
  obtain ⟨te, pe, re⟩ := he
  refine ⟨_, fun X g => ?_, rt_lensc (P := P) (wd := wd) ri rg his rt re⟩
  have z := pe_scL (own := own) (pos := pos) g.calm (by rw [g.nn]; exact nd) (pi X g) (by rw [g.nn, g.scp]; exact ok) (fun s H C cl fp => pg _ (g_blk g)) (fun s H C cl fp => pt _ (g_blk g)) (fun s H C cl fp => pe _ (g_blk g)) (hs X.env)
  have y := pe_lenK (p := p) (pos := pos') (g.gl hgl) (g.none hm) z (na X.env)
  rw [g.prog, g.wd] at y
  exact y
end
end DL
/-! y = {k: v for ..} on one line -/
namespace DL
open PySem L2
theorem sw_trueD {kx vx : Expr} {gs : List Comprehension} {scope : Scope} {pos py : Pos} {y : Str} {l : Nat} {env : PySem.Env} (hk : env.scope.kind = .function) (hy : env.scope.names.lookup y = some .local) (hl : (py.line == pos.line) = true)
    (ha : (scope.names.any fun (n, k) => n == y && (k == .local || k == .cell)) = false) : swapsWith (.DictComp kx vx gs scope pos) (some (.Name y py)) l env = pure true := by
  have e1 : env.kindOf y = some .local := hy
  have e2 : env.blockKind = .function := by unfold PySem.Env.blockKind; rw [hk]; rfl
  unfold swapsWith
  simp only [e2, e1, ha, Expr.pos, hl]
  rfl
theorem ps_setDcX {X : Cx} {i : Nat} {y : Str} {py : Pos} {kx vx tg iter : Expr} {ifs : List Expr} {scope : Scope} {own : List (Str × Nat)} {pos spos : Pos} {wi : TI} {g : TG} {tt : TT} {tk tv : TE} (hc : X.calm = true) (hN : X.N.Nodup) (hy : X.N[i]? = some y) (hyl : X.env.scope.names.lookup y = some .local)
    (hsw : swapsWith (.DictComp kx vx [⟨tg, iter, ifs, 0⟩] scope pos) (some (.Name y py)) spos.line X.env = pure true) (hi : PI X tg iter wi) (ok : BlkOk X.N X.env.scope scope own)
    (hg : ∀ (s : Shared) (H : Hp) (C : Addr) (cl : List (Str × Addr)) (fp : List Addr), PG (X.blk s H scope (compEnvC scope cl C X.env) fp) tg g) (ht : ∀ (s : Shared) (H : Hp) (C : Addr) (cl : List (Str × Addr)) (fp : List Addr), PTs (X.blk s H scope (compEnvC scope cl C X.env) fp) ifs tt)
    (hk : ∀ (s : Shared) (H : Hp) (C : Addr) (cl : List (Str × Addr)) (fp : List Addr), PE (X.blk s H scope (compEnvC scope cl C X.env) fp) kx tk)
    (he : ∀ (s : Shared) (H : Hp) (C : Addr) (cl : List (Str × Addr)) (fp : List Addr), PE (X.blk s H scope (compEnvC scope cl C X.env) fp) vx tv) (hs : ∀ x, foldedSetIterable iter X.env x = pure x) :
    PS X (.Assign [.Name y py] (.DictComp kx vx [⟨tg, iter, ifs, 0⟩] scope pos) spos) (tAsg (lk (tDc wi g tt tk tv (own.map (·.2)))) (gName i)) := by
  refine ⟨fun pins s σ H D I h => ?_⟩
  rw [exec_Assign_Name_used _ _ _ _ hsw]
  refine wpAny_bind (wpAny_standAt (wpAny_bind ?_))
  show wpAny _ X.A (do let _ ← comprehension (.DictComp kx vx [⟨tg, iter, ifs, 0⟩] scope pos) scope X.env (firstIterPos [⟨tg, iter, ifs, 0⟩] pos) newDict false (eval iter X.env) (some (assign (.Name y py) X.env))) _ _ s
  have h : tDc wi g tt tk tv (own.map (·.2)) σ H (fun v H' => gName i v σ H' D.nx ∨ ∃ d kvs, v = .ref d ∧ H' d = some (.dK kvs) ∧ ∀ od, gName i v σ (upd H' d (.frz od (.dK kvs))) D.nx) := h
  refine wpAny_bind (thn (dc_core (Qf := fun _ s' => SP X pins D .next s') hc hN I hi ok hg ht hk he hs h fun L C s' m H' I' q hn f => ?_) fun _ s' hq => wpAny_pure (wpAny_pure hq))
  have fin : ∀ H2, Inv X pins σ H2 s' → FpOk X pins H2 C → gName i (.ref L) σ H2 D.nx → compPost (model X.prog X.w) X.A X.xe (some (assign (.Name y py) X.env)) (fun _ s' => SP X pins D .next s') (.ref L) C (.ok .next) s' := fun H2 I2 f q => by
    show wpAny _ _ (assign (.Name y py) X.env (.ref L)) _ _ _
    refine wpAny_assign_Name (store_ok2 (v := V.ref L) I2 hN hy (.inl hyl) rfl (fun s2 I3 ⟨a, sb, ha⟩ => ?_) (.inr hyl))
    obtain ⟨f0, f1, f2, f3, f4, f5⟩ := f
    have ne : C ≠ a := ha.elim (fun z => by rw [z]; exact f1) fun z e => f4 y a z e.symm
    exact ⟨m, hn.sameBut sb ne, fun h3 sb3 => ⟨_, H2, I3.turned (t' := s2.toks) (fun b o hb e => (sb3.2 b hb).trans e) f0 f1 f3 f4 f5, q⟩⟩
  rcases q with q | ⟨d, kvs, e, hd, q⟩
  · exact fin H' I' f q
  · obtain ⟨od, I2⟩ := I'.lock hd True.intro
    refine fin _ I2 ⟨?_, f.2⟩ (q od)
    rw [upd_ne (ne_of_none hd f.1).symm]
    exact f.1
section
variable {P : Program} {wd : World} {K : PySem.W.Frag} {mg : Str → Option Value} {base : Heap} {k : Nat} {N : List Str} {sc : SC} {W : WX}
theorem ps_setdc (i : Nat) {y : Str} {py : Pos} {kx vx tg iter : Expr} {ifs : List Expr} {scope : Scope} {own : List (Str × Nat)} {pos spos : Pos} {mi mt mk me : EM} {mg' : GM} {is : List Nat} (nd : N.Nodup) (ok : BlkOk N sc.s scope own) (hi : PIt P wd K mg base k N sc W tg iter mi) (hg : PGt P wd K mg base k N (blkS scope sc) WF tg mg' is)
    (ht : PTj P wd K mg base k N (blkS scope sc) WF ifs mt) (hkk : PR P wd K mg base k N (blkS scope sc) WF kx mk) (he : PR P wd K mg base k N (blkS scope sc) WF vx me) (hsw : ∀ env, env.scope = sc.s → swapsWith (.DictComp kx vx [⟨tg, iter, ifs, 0⟩] scope pos) (some (.Name y py)) spos.line env = pure true) (hy : N[i]? = some y := by rfl) (hyl : sc.s.names.lookup y = some .local := by rfl)
    (his : ∀ i ∈ is, i ∈ own.map (·.2) := by decide) (hs : ∀ env x, foldedSetIterable iter env x = pure x := by intro _ _; rfl) :
    PSt P wd K mg base k N sc W (.Assign [.Name y py] (.DictComp kx vx [⟨tg, iter, ifs, 0⟩] scope pos) spos) (sAsg i (eDc (own.map (·.2)) mi mg' mt mk me)) := by
  obtain ⟨ti, pi, ri⟩ := hi
  obtain ⟨tg', pg, rg⟩ := hg
  obtain ⟨tt, pt, rt⟩ := ht
  obtain ⟨tk, pk, rk⟩ := hkk
  obtain ⟨te, pe, re⟩ := he
  refine ⟨_, fun X g => ps_setDcX g.calm (by rw [g.nn]; exact nd) (by rw [g.nn]; exact hy) (by rw [g.scp]; exact hyl) (hsw X.env g.scp) (pi X g) (by rw [g.nn, g.scp]; exact ok) (fun s H C cl fp => pg _ (g_blk g)) (fun s H C cl fp => pt _ (g_blk g)) (fun s H C cl fp => pk _ (g_blk g)) (fun s H C cl fp => pe _ (g_blk g)) (hs X.env), ?_⟩
  have r : RT K W _ _ := (rtn_dc ri rg his rt rk re).fz isNew_dc
  intro w0 w Γ σ e0 ok f Dn q
  exact r.useS e0 ok f q fun d v w1 e1 k1 f1 r1 x1 p1 => p1 w1 _ e1 (Ext.refl w1) k1 rfl (fr_set f1 r1 i)
theorem sw_cellD {kx vx : Expr} {gs : List Comprehension} {scope : Scope} {pos py : Pos} {y : Str} {l : Nat} {env : PySem.Env} (hy : env.scope.names.lookup y = some .cell) : swapsWithSole [.Name y py] (.DictComp kx vx gs scope pos) l env = pure false := by
  have e : (env.kindOf y == some .local) = false := by unfold PySem.Env.kindOf; rw [hy]; rfl
  unfold swapsWithSole swapsWith
  simp [e]
/-- a cell of the frame is set to a dict comprehension -/
theorem ps_asgCD (i : Nat) {x : Str} {kx vx : Expr} {gs : List Comprehension} {scope : Scope} {m : EM} {pos pos' cpos : Pos} (nd : N.Nodup) (h : PR P wd K mg base k N sc W (.DictComp kx vx gs scope cpos) m) (hi : N[i]? = some x := by rfl) (hx : sc.s.names.lookup x = some .cell := by rfl) (hf : sc.fn x = true := by rfl)
    (hw : ∀ env, swappedStores [.Name x pos'] (.DictComp kx vx gs scope cpos) env = pure none := by intro _; rfl) :
    PSt P wd K mg base k N sc W (.Assign [.Name x pos'] (.DictComp kx vx gs scope cpos) pos) (sAsg i m) := by
  obtain ⟨t, p, r⟩ := h
  refine ⟨tAsg t (gName i), fun X g => ps_asg (p X g) (pg_name (by rw [g.nn]; exact nd) (by rw [g.nn]; exact hi) (by rw [g.scp]; exact .inr hx) ?_) (sw_cellD (by rw [g.scp]; exact hx)) (hw X.env), ?_⟩
  · rw [g.fnc]; exact .inl hf
  intro w0 w Γ σ e0 ok f Dn q
  exact r.useS e0 ok f q fun d v w1 e1 k1 f1 r1 x1 p1 => p1 w1 _ e1 (Ext.refl w1) k1 rfl (fr_set f1 r1 i)
end
end DL
/-! a, b = e, e a value -/
namespace DL
open PySem L2
def sTgt (g : GM) (m : EM) : SM := fun Γ st => match m Γ st with
  | .ok d s => match g d Γ with
    | some Γ' => .nx Γ' s
    | none => .no
  | .err x s => .err x Γ s
  | .no => .no
section
variable {P : Program} {wd : World} {K : PySem.W.Frag} {mg : Str → Option Value} {base : Heap} {k : Nat} {N : List Str} {sc : SC} {W : WX}
theorem ps_tgt {tg e : Expr} {m : EM} {g : GM} {is : List Nat} {pos : Pos} (hg : PGt P wd K mg base k N sc W tg g is) (h : PR P wd K mg base k N sc W e m)
    (hw : ∀ env, swappedStores [tg] e env = pure none := by intro _; rfl) (hn : ∀ env, swapsWithSole [tg] e pos.line env = pure false := by intro _; rfl) (h1 : ∀ env, (assignEach [tg] env).map (·.2) = [assign tg env] := by intro _; rfl) :
    PSt P wd K mg base k N sc W (.Assign [tg] e pos) (sTgt g m) := by
  obtain ⟨t, p, r⟩ := h
  obtain ⟨u, pg, rg⟩ := hg
  refine ⟨tAsg t u, fun X g => ps_asg (p X g) (pg X g) (hn X.env) (hw X.env) (h1 X.env), ?_⟩
  intro w0 w Γ σ e0 ok f Dn q
  have q' : PostS K w0 w (sTgt g m Γ w.st) Dn W := q
  refine r w0.H w Γ σ ok f _ ?_
  unfold sTgt at q'
  cases c : m Γ w.st with
  | no => rw [c] at q'; exact q'
  | err x s => rw [c] at q'; exact fun cc dd w' e1 k1 s1 r1 => q' cc dd w' σ (e0.trans ok e1) e1.ext k1 s1 (f.evo e1) r1
  | ok d s =>
    rw [c] at q'
    dsimp only at q'
    cases c2 : g d Γ with
    | none => rw [c2] at q'; exact q'.elim
    | some Γ' =>
      rw [c2] at q'
      intro v w1 e1 k1 s1 r1
      exact rg w0.H w1 Γ Γ' σ v d k1 (f.evo e1) r1 c2 _ fun σ' f1 _ => q' w1 σ' (e0.trans ok e1) e1.ext k1 s1 f1
end
section
variable {Γ Γ' : DEnv} {st s : Store} {w : Ws} {m : EM} {g : GM}
end
end DL
namespace DL
open PySem L2
section
variable {P : Program} {wd : World} {K : PySem.W.Frag} {mg : Str → Option Value} {base : Heap} {k : Nat} {N : List Str} {sc : SC} {W : WX}
/-! ### a, b = x, y -/
def sPar (i j : Nat) (ms : EM) : SM := fun Γ st => (ms Γ st).bs Γ fun d s => match d with
  | .tup [x, y] => .nx ((Γ.set i (.sh x)).set j (.sh y)) s
  | _ => .no
theorem rtas_useS {t : TA} {m : EM} (h : RTA K W t m) {w0 w : Wd} {Γ : DEnv} {σ : L2.St} (e0 : Evo w0 w) (k : Ok K w) (f : Fr K w0.H w Γ σ) {Q : List V → Hp → Prop} {Dn : Ends} {g : D → Store → SR}
    (gn : ∀ d st, (∀ ds, d ≠ .tup ds) → g d st = .no) (p : PostS K w0 w ((m Γ w.st).bs Γ g) Dn W) (q : ∀ ds vs w', Evo w0 w' → Ok K w' → Fr K w0.H w' Γ σ → RepL K w' vs ds → Ext w w' → PostS K w0 w' (g (.tup ds) w'.st) Dn W → Q vs w'.H) : t σ w.H Q := by
  refine h w0.H w Γ σ k f Q ?_
  cases e : m Γ w.st with
  | ok d st =>
    rw [e] at p
    cases d with
    | tup ds => exact fun vs w' ev k' s r => q ds vs w' (e0.trans k ev) k' (f.evo ev) r ev.ext (by subst s; exact p.shift ev.ext)
    | _ => rw [ok_bs, gn _ _ (fun b z => by cases z)] at p; exact p
  | err x st => rw [e] at p; exact fun c dd w' ev k' s r => p c dd w' σ (e0.trans k ev) ev.ext k' s (f.evo ev) r
  | no => rw [e] at p; exact p
theorem ps_par' (i j : Nat) {x y : Str} {a b : Expr} {ms : EM} {px py pt pt2 pos : Pos} {kt k2 : Nat} (nd : N.Nodup) (h : PAr P wd K mg base k N sc W [a, b] ms) (hi : N[i]? = some x := by rfl) (hj : N[j]? = some y := by rfl) (hij : i ≠ j := by decide) (hx : sc.s.names.lookup x = some .local := by rfl) (hy : sc.s.names.lookup y = some .local := by rfl)
    (hw : ∀ env, env.scope = sc.s → swappedStores [.Tuple [.Name x px, .Name y py] kt pt] (.Tuple [a, b] k2 pt2) env = pure (some [x, y])) :
    PSt P wd K mg base k N sc W (.Assign [.Tuple [.Name x px, .Name y py] kt pt] (.Tuple [a, b] k2 pt2) pos) (sPar i j ms) := by
  obtain ⟨t, p, r⟩ := h
  refine ⟨tPar i j t, fun X g => ps_par g.calm (by rw [g.nn]; exact nd) (by rw [g.nn]; exact hi) (by rw [g.nn]; exact hj) hij (by rw [g.scp]; exact hx) (by rw [g.scp]; exact hy) (p X g) (hw X.env g.scp), ?_⟩
  intro w0 w Γ σ e0 ok f Dn q
  refine rtas_useS r e0 ok f (fun d st hd => by cases d <;> first | rfl | exact absurd rfl (hd _)) q fun ds vs w1 e1 k1 f1 r1 x1 p1 => ?_
  match ds, r1, p1 with
  | [dx, dy], r1, p1 =>
    obtain ⟨v, us, rfl, rv, ru⟩ := r1.inv
    obtain ⟨v2, us2, rfl, rv2, ru2⟩ := ru.inv
    rw [ru2.inv0]
    exact ⟨v, v2, rfl, p1 w1 _ e1 (Ext.refl w1) k1 rfl (fr_set (fr_set f1 rv i) rv2 j)⟩
def sPar3 (i j l : Nat) (ms : EM) : SM := fun Γ st => (ms Γ st).bs Γ fun d s => match d with
  | .tup [x, y, z] => .nx (((Γ.set i (.sh x)).set j (.sh y)).set l (.sh z)) s
  | _ => .no
theorem ps_par3' (i j l : Nat) {x y z : Str} {a b c : Expr} {ms : EM} {px py pz pt pt2 pos : Pos} {kt k2 : Nat} (nd : N.Nodup) (h : PAr P wd K mg base k N sc W [a, b, c] ms) (hi : N[i]? = some x := by rfl) (hj : N[j]? = some y := by rfl) (hl : N[l]? = some z := by rfl) (hij : i ≠ j := by decide) (hil : i ≠ l := by decide) (hjl : j ≠ l := by decide)
    (hx : sc.s.names.lookup x = some .local := by rfl) (hy : sc.s.names.lookup y = some .local := by rfl) (hz : sc.s.names.lookup z = some .local := by rfl)
    (hw : ∀ env, env.scope = sc.s → swappedStores [.Tuple [.Name x px, .Name y py, .Name z pz] kt pt] (.Tuple [a, b, c] k2 pt2) env = pure (some [x, y, z]))
    (hs : ∀ env, swapsWithSole [.Tuple [.Name x px, .Name y py, .Name z pz] kt pt] (.Tuple [a, b, c] k2 pt2) pos.line env = pure false := by intro _; rfl) :
    PSt P wd K mg base k N sc W (.Assign [.Tuple [.Name x px, .Name y py, .Name z pz] kt pt] (.Tuple [a, b, c] k2 pt2) pos) (sPar3 i j l ms) := by
  obtain ⟨t, p, r⟩ := h
  refine ⟨tPar3 i j l t, fun X g => ps_par3 g.calm (by rw [g.nn]; exact nd) (by rw [g.nn]; exact hi) (by rw [g.nn]; exact hj) (by rw [g.nn]; exact hl) hij hil hjl (by rw [g.scp]; exact hx) (by rw [g.scp]; exact hy) (by rw [g.scp]; exact hz) (p X g) (hw X.env g.scp) (hs X.env), ?_⟩
  intro w0 w Γ σ e0 ok f Dn q
  refine rtas_useS r e0 ok f (fun d st hd => by cases d <;> first | rfl | exact absurd rfl (hd _)) q fun ds vs w1 e1 k1 f1 r1 x1 p1 => ?_
  match ds, r1, p1 with
  | [dx, dy, dz], r1, p1 =>
    obtain ⟨v, us, rfl, rv, ru⟩ := r1.inv
    obtain ⟨v2, us2, rfl, rv2, ru2⟩ := ru.inv
    obtain ⟨v3, us3, rfl, rv3, ru3⟩ := ru2.inv
    rw [ru3.inv0]
    exact ⟨v, v2, v3, rfl, p1 w1 _ e1 (Ext.refl w1) k1 rfl (fr_set (fr_set (fr_set f1 rv i) rv2 j) rv3 l)⟩
end
end DL
namespace DL
open PySem L2
/-! ### raise -/
structure ExcOK (K : PySem.W.Frag) (mg : Str → Option Value) (C : String) : Prop where
  at_ : mg (Str.ofString C) = some (.ref (cA K C))
  kp : PySem.W.keepIn K (.ref (cA K C)) = true
  ex : ∃ (bmB : List Value) (B newId initId : String), ExcBaseFacts B newId initId bmB ∧ PySem.W.excIn K (cA K C) bmB newId = true
  sub : PySem.W.subIn K (.ref (cA K C)) (.type "BaseException") = some true
  ty : PySem.W.typeIn K (.ref (cA K C)) = some (.type "type")
section
variable {P : Program} {wd : World} {K : PySem.W.Frag} {mg : Str → Option Value} {base : Heap} {k : Nat} {N : List Str} {sc : SC} {W : WX}
def sRaise (C : String) : SM := fun Γ st => .err ⟨true, C, []⟩ Γ st
/-- raise C('m') -/
theorem ps_raise' {C : String} {m : Str} {j : Nat} {p p2 cpos pos : Pos} (T : ExcOK K mg C) (hg : sc.s.names.lookup (Str.ofString C) = some .globalImplicit := by rfl) (hd : (Str.ofString C == ("__debug__" : Str)) = false := by decide) :
    PSt P wd K mg base k N sc W (.Raise (some (.Call (.Name (Str.ofString C) p) [.Constant (.str m) j p2] [] cpos)) none pos) (sRaise C) := by
  obtain ⟨bmB, B, newId, initId, F, q⟩ := T.ex
  refine ⟨fun _ σ H => W (.ref (cA K C)) none σ H, fun X g => ?_, ?_⟩
  · have gl : Gl X (Str.ofString C) := by unfold Gl PySem.Env.kindOf; rw [g.scp]; exact hg
    have tk := g.tk
    exact ps_raise g.calm tk (pmk_own F (by rw [g.kk]; exact q) (by rw [g.mg]; exact T.at_) (by rw [g.kk]; exact T.kp) (raises_own (by rw [g.kk]; exact T.sub) (by rw [g.kk]; exact T.ty)) gl hd)
  · intro w0 w Γ σ e0 ok f Dn p
    exact p _ none w σ e0 (Ext.refl w) ok rfl f ⟨rfl, rfl⟩
end
end DL
namespace DL
open PySem L2
/-! ### exceptions that are kept -/
section
variable {X : Cx} {pins : List (Addr × Obj)} {σ : L2.St} {H : Hp} {s : Shared} {a : Addr} {o : HO}
/-- an object that stands, untracked, new since the entry, is tracked from now on -/
theorem inv_track (I : Inv X pins σ H s) (h0 : X.s_0.heap.get? a = none) (hn : H a = none) (nL : a ≠ X.env.locals) (nC : ∀ x c, X.env.cells.lookup x = some c → c ≠ a) (nP : ∀ p ∈ X.pn ++ pins, p.1 ≠ a) (new : ObjOk X.prog X.w (upd H a o) s.heap a o) : Inv X pins σ (upd H a o) s where
  ok := I.ok
  os := I.os
  bare := I.bare
  base := by
    have u := I.base
    refine ⟨u.keep, u.slot, fun b ob q n hx => ?_, u.there, fun b xs q => ?_, fun b ob v q => ?_, fun b ps q => ?_⟩
    · have ne : b ≠ a := fun z => by rw [z, h0] at q; cases q
      rw [upd_ne ne]; exact u.free b ob q n hx
    · have e := u.tups b xs q
      rw [upd_ne (ne_of_none e hn)]; exact e
    · have e := u.frzs b ob v q
      rw [upd_ne (ne_of_none e hn)]; exact e
    · obtain ⟨more, e⟩ := u.tbls b ps q
      exact ⟨more, by rw [upd_ne (ne_of_none e hn)]; exact e⟩
  loc := I.loc
  cell := I.cell
  free := by rw [upd_ne (Ne.symm nL)]; exact I.free
  freeC := fun x c h => by rw [upd_ne (nC x c h)]; exact I.freeC x c h
  pin := fun p hp => by
    obtain ⟨a1, a2, a3⟩ := I.pin p hp
    exact ⟨a1, by rw [upd_ne (nP p hp)]; exact a2, a3⟩
  hok := I.hok.laidN (fun _ _ h => h) hn new
  len := I.len
end
end DL
namespace DL
open PySem PySem.Spec PyProof.Rows L2
/-- an exception that is kept: its class is known -/
theorem exK_ok {P : Program} {w : World} {H : Hp} {h : Heap} {a : Addr} {cls : Value} {d : Option Addr} {oe : Obj} {vs : Array Value} (e : h.get? a = some oe) (z : Zc cls d oe) (q : oe.data = .fields vs) : ObjOk P w H h a (ExK cls d a) :=
  ⟨⟨oe, vs, e, z, q⟩, ⟨oe, e⟩, fun _ _ ⟨o, v, q, r⟩ k => ⟨o, v, k o q, r⟩⟩
/-- what 'except x as n: y = n' wishes of an exception of the body: slot j is y's -/
def wKeep (K : PySem.W.Frag) (c : Value) (i j : Nat) (Wout : WX) (D : Ends) : WX := fun cls d σ H =>
  ∃ b, PySem.W.exmOne K cls c = some b ∧ (b = true → ∀ a, H a = none → D.nx (((σ.set i (some (.ref a))).set j (some (.ref a))).set i none) (upd H a (ExK cls d a))) ∧ (b = false → Wout cls d σ H)
section
variable {X : Cx} {x n y : Str} {c : Value} {i j : Nat} {body : List Stmt} {np yp vp ap pos pos' : Pos} {tb : WX → TS} {Wout : WX}
theorem ps_try_keep (hs : X.stack = X.env :: X.outer) (hf : X.env.frame = some X.env.locals) (hex : X.ex = []) (hN : X.N.Nodup) (hi : X.N[i]? = some n) (hj : X.N[j]? = some y) (hij : i ≠ j) (hln : X.env.kindOf n = some .local) (hly : X.env.kindOf y = some .local) (hc : Names X x c) (tk : Takes X Wout)
    (hb : ∀ (W : WX) (pn : List (Addr × Obj)) (xe : Value → Shared → Prop), Takes (X.tr pn xe) W → PassesOwn (model X.prog X.w) X.A X.env xe → PSs (X.tr pn xe) body (tb W))
    (hsu : ∀ (a : Addr) (oe : Obj) (pn : List (Addr × Obj)), PSs (X.suite a ((a, oe) :: pn)) [.Assign [.Name y yp] (.Name n vp) ap] (tAsg (tVar i) (gName j))) :
    PS X (.Try body [.ExceptHandler (some (.Name x np)) (some n) [.Assign [.Name y yp] (.Name n vp) ap] pos'] [] [] pos) (fun D σ H => tb (wKeep X.K c i j Wout D) D σ H) := by
  refine ⟨fun pins s σ H D I h => ?_⟩
  have ok := I.ok
  have hfr : X.A.frames = some (X.env :: X.outer) := by rw [ok.frames, hs]
  have hloc : Loc X.env.scope n := .inl hln
  refine wpAny_Try_except ?_
  refine wpAny_mono ((hb (wKeep X.K c i j Wout D) (X.pn ++ pins) (fun e s₁ => wpAny (model X.prog X.w) X.A (noteFrame e X.env) (fun _ s₂ => wpAny (model X.prog X.w) X.A (setFlight e none) (fun _ s₃ =>
    wpAny (model X.prog X.w) X.A (handleBy e X.env [.ExceptHandler (some (.Name x np)) (some n) [.Assign [.Name y yp] (.Name n vp) ap] pos']) (SP X pins D) X.xe s₃) X.xe s₂) X.xe s₁) (fun u s' xx => ?_) PassesOwn.looking).run [] s σ H D (I.toTry _) h) (fun f s1 hsp => ?_) (fun e s1 he => he)
  · obtain ⟨a, B, sI, pins', σ', H', cls, d, rfl, J', nb, up, sky, na, os, ag, b, hb1, hyes, hno⟩ := xx
    have J : Inv X pins σ' H' sI := J'.ofTry ok
    have sky' : Sky B (X.env :: X.outer) a (Zc cls d) X.env.locals s'.heap := by rw [← hs]; exact sky
    show wpAny (model X.prog X.w) X.A (noteFrame (.ref a) X.env) _ _ _
    refine Sky.land Zc.steady hfr hf sky' fun h3 fl3 up3 => ?_
    have J3 : Inv X pins σ' H' { s' with heap := h3 } := J.landed nb fl3.1 (up.trans up3) os ag
    obtain ⟨oe3, vs3, he3, hz3, hd3⟩ := fl3.there
    have notFr : ∀ {h : Heap} {o : Obj} {vs : Array Value}, h.FunFrames B (X.env :: X.outer) → h.get? a = some o → o.data = .fields vs → a ∉ frs (X.env :: X.outer) := fun {h o vs} ff e dd hm => by
      obtain ⟨_, o', e', hnf⟩ := ff.mem hm
      rw [e] at e'; cases e'
      exact hnf _ dd
    have nfr := notFr fl3.2.2.1 he3 hd3
    have nL : a ≠ X.env.locals := fun z => nfr (List.mem_filterMap.mpr ⟨X.env, List.mem_cons_self, by rw [hf, z]⟩)
    have nF : a ∉ X.fs := fun hm => by
      obtain ⟨e, he, q⟩ := List.mem_filterMap.mp hm
      exact nfr (List.mem_filterMap.mpr ⟨e, List.mem_cons_of_mem _ he, q⟩)
    -- a is new since the entry
    have nI : sI.heap.get? a = none := by
      cases q : sI.heap.get? a with
      | none => rfl
      | some o => have := nb a o q (by rw [hs]; exact nfr); rw [fl3.2.1] at this; cases this
    have n0 : X.s_0.heap.get? a = none := by
      cases q : X.s_0.heap.get? a with
      | none => rfl
      | some o => obtain ⟨o', e'⟩ := J.base.there a o q (by rw [hex]; simp); rw [nI] at e'; cases e'
    have nC : ∀ x c, X.env.cells.lookup x = some c → c ≠ a := fun x c e z => by
      obtain ⟨v, o, ho, _⟩ := J.cell x c e
      rw [z, nI] at ho; cases ho
    have nP : ∀ p ∈ X.pn ++ pins, p.1 ≠ a := fun p hp z => by
      have := (J.pin p hp).1
      rw [z, nI] at this; cases this
    have S3 := J3.suite he3 hd3 na nL nF
    refine wpAny_handleBy_cons (codeAny_handlers_test ?_) (by intro q; cases q)
    have LT : PySem.W.Looks (model X.prog X.w) h3 (typeOf (.ref a)) cls := fun A Q E s k q => wpAny_typeOf_ref (k _ _ he3) (by rw [hz3.1]; exact q)
    have LM := PySem.W.exm_one (M := model X.prog X.w) (J3.kIn) LT hb1
    have test : ∀ {Q : Value → Shared → Prop} {E : Value → Shared → Prop}, Q c { s' with heap := h3 } → wpAny (model X.prog X.w) (X.A.mark (some (.ref a))) (eval (.Name x np) X.env) Q E { s' with heap := h3 } := fun {Q E} q => by
      obtain ⟨hg, hdbg, hm | ⟨hm, hv, hnn⟩⟩ := hc
      · exact ld_glob (X := X.suite a ((a, oe3) :: (X.pn ++ pins))) S3 hg hm q hdbg
      · exact ld_blt (X := X.suite a ((a, oe3) :: (X.pn ++ pins))) S3 hg hm hv q hnn hdbg
    refine test (LM.here ?_)
    cases b with
    | true =>
      refine codeAny_handlers_suite_as ?_
      refine HandSPX.lands_againZ fl3 fun h4 fl4 up4 => ?_
      have J4 : Inv X pins σ' H' { s' with heap := h4 } := J.landed nb fl4.1 ((up.trans up3).trans up4) os ag
      obtain ⟨oe4, vs4, he4, hz4, hd4⟩ := fl4.there
      have S4 := J4.suite he4 hd4 na nL nF
      refine store_ok (X := X.suite a ((a, oe4) :: (X.pn ++ pins))) (v := .ref a) S4 hN hi hloc rfl (fun s5 S5 => ?_) (.inr hln)
      have hlen : i < σ'.length := by rw [J.len]; exact (List.getElem?_eq_some_iff.mp hi).1
      have want : tAsg (tVar i) (gName j) { nx := fun σ6 H6 => σ6 = (σ'.set i (some (.ref a))).set j (some (.ref a)) ∧ H6 = H', rt := fun _ _ => False, bk := fun _ _ => False, ct := fun _ _ => False } (σ'.set i (some (.ref a))) H' := ⟨_, List.getElem?_set_self hlen, rfl, rfl⟩
      refine wpAny_mono ((hsu a oe4 (X.pn ++ pins)).run [] s5 _ H' _ S5 want) (fun f s6 hsp => ?_) (fun _ _ z => False.elim z)
      cases f with
      | next =>
        obtain ⟨σ6, H6, S6, rfl, rfl⟩ := hsp
        have pa := S6.pin (a, oe4) (List.mem_append_left _ List.mem_cons_self)
        have T6 := inv_track (o := ExK cls d a) (S6.unsuite ok) n0 na nL nC nP (exK_ok pa.1 hz4 hd4)
        exact gone_ok T6 hN hi hln fun s7 J7 => ⟨_, _, J7, hyes rfl a na⟩
      | brk => obtain ⟨_, _, _, z⟩ := hsp; exact z.elim
      | cont => obtain ⟨_, _, _, z⟩ := hsp; exact z.elim
      | ret u => obtain ⟨_, _, _, _, _, z⟩ := hsp; exact z.elim
    | false =>
      show wpAny _ X.A (handleBy (.ref a) X.env []) _ _ _
      refine wpAny_handleBy_nil ?_
      obtain ⟨k1, k2, k3, oe, vs, T, oT, ts', he, hz, hd, h1, hr⟩ := id fl3
      unfold PySem.passOn
      refine wpAny_bind (wpAny_field he hd h1 ?_)
      rw [if_neg (show ¬ ((Value.ref T == Value.none) = true) from by simp)]
      have fin : wpAny (model X.prog X.w) X.A (setFlight (.ref a) X.env.frame) (fun _ s4 => wpAny (model X.prog X.w) X.A (throw (.ref a) : Sem Flow) (SP X pins D) X.xe s4) X.xe { s' with heap := h3 } := by
        rw [hf]
        refine HandSPX.setFlight_upZ fl3 fun h4 hh4 up4 => wpAny_throw (tk _ _ ?_)
        exact ⟨a, B, sI, pins, σ', H', cls, d, rfl, J, nb, (up.trans up3).trans up4, .inr (.inr (by rw [hs]; exact hh4)), na, os, ag, hno rfl⟩
      first
        | exact wpAny_bind (wpAny_pure (wpAny_bind fin))
        | exact wpAny_bind fin
  · cases f with
    | next =>
      obtain ⟨σ', H', J', q⟩ := hsp
      exact wpAny_execs_nil ⟨σ', H', J'.ofTry ok, q⟩
    | brk =>
      obtain ⟨σ', H', J', q⟩ := hsp
      exact ⟨σ', H', J'.ofTry ok, q⟩
    | cont =>
      obtain ⟨σ', H', J', q⟩ := hsp
      exact ⟨σ', H', J'.ofTry ok, q⟩
    | ret u =>
      obtain ⟨v, σ', H', J', r, q⟩ := hsp
      exact ⟨v, σ', H', J'.ofTry ok, r, q⟩
end
end DL
/-! == and != by an own __eq__ -/
namespace DL
open PySem L2 PySem.W
section
variable {prog : Program} {w : World} {A : Around} {E : Value → Shared → Prop} {s : Shared} {K : Frag} {x C L f : Addr} {h₀ : Heap} {m : Str → Option Value} {ox : Obj} {od : Option Obj} {b tb : Value}
theorem neBound {args : List Value} {Q : Option Value → Shared → Prop} (X : K.In s.heap) (I : InstAt s.heap x ox C od) (hs : findIn K (.ref C) "__ne__" = some (some (.builtin "object.__ne__")))
    (h : wpAny (model prog w) A (call (.builtin "object.__ne__") (.ref x :: args)) (fun v => Q (some v)) E s) : wpAny (model prog w) A (callSpecialIfBound? (.ref x) "__ne__" args) Q E s := by
  simp only [callSpecialIfBound?, bindSpecialIfBound?]
  refine wpAny_holding (wpAny_bind (wpAny_bind (wpAny_bind (I.type.here ((looks_findIn X hs).here ?_)))))
  simp only [F.cmp_object.ne.bind]
  refine wpAny_bind (wpAny_askSetting (wpAny_ite ?_))
  have fin : wpAny (model prog w) A (call (.builtin "object.__ne__") ([.ref x] ++ args) >>= fun v => pure (some v)) Q E s := wpAny_bind (wpAny_mono h (fun v s' h' => wpAny_pure h') fun _ _ h' => h')
  split
  · exact wpAny_bind (wpAny_pure (wpAny_pure (by exact fin)))
  · exact wpAny_tryCatch (wpAny_bind (wpAny_pure (wpAny_pure (by exact fin))))
theorem neCheck {Q : Unit → Shared → Prop} (X : K.In s.heap) (I : InstAt s.heap x ox C od) (hm : subIn K (.ref C) (.type "object") = some true) (hq : Q () s) :
    wpAny (model prog w) A (checkBuiltinCall "object.__ne__" ⟨[.ref x, b], []⟩) Q E s := by
  have ha := F.cmpArgs_ne (.ref x) b
  simp only [checkBuiltinCall, F.cmpKind_ne, F.cmpSplit_ne]
  unfold isInstance
  refine wpAny_bind (wpAny_bind (I.type.here ((looks_subIn X hm).here ?_)))
  simp only [Bool.not_true, Bool.false_eq_true, if_false]
  cases hsig : Manifest.signature? "object.__ne__" with
  | none => exact wpAny_pure hq
  | some sig =>
    simp only [argsOk, hsig] at ha
    have h2 : Bind.checkArgs "object.__ne__" sig ⟨[.ref x, b], []⟩ = pure () := ha
    show wpAny _ A (Bind.checkArgs "object.__ne__" sig ⟨[.ref x, b], []⟩) Q E _
    rw [h2]; exact wpAny_pure hq
def NeBack (Q : Value → Shared → Prop) (v : Value) (s' : Shared) : Prop := ∃ r, v = .bool r ∧ Q (.bool !r) s'
theorem ne_own {Q : Value → Shared → Prop} (hu : A.units + 1 < cLine) (X : K.In s.heap) (I : InstAt s.heap x ox C od) (hb : Looks (model prog w) s.heap (typeOf b) tb) (hn : notFirst K C tb = true)
    (hs : findIn K (.ref C) "__eq__" = some (some (.ref f))) (hf : isFn K (.ref f) = true) (hne : findIn K (.ref C) "__ne__" = some (some (.builtin "object.__ne__"))) (hm : subIn K (.ref C) (.type "object") = some true)
    (h : wpAny (model prog w) A.in1 (call (.ref f) [.ref x, b]) (NeBack Q) E s) : wpAny (model prog w) A (richCompare .NotEq (.ref x) b) Q E s := by
  have hu0 : A.units < cLine := by omega
  have body : ∀ (Post : Fin → Shared → Prop), (∀ r s', Q (.bool !r) s' → Post (.done (.ret (.bool !r))) s') → wpAny (model prog w) A.in1 (Builtin.«object.__ne__» ⟨[.ref x, b], []⟩) Post E s := by
    intro Post hp
    unfold Builtin.«object.__ne__»
    repeat (first | with_reducible refine wpAny_cRoomFor hu ?_ | (with_reducible refine wpAny_bind (ifBound_K X I hs hf (wpAny_mono h (fun v s' hv => ?_) fun _ _ e => e))) | wp_step)
    obtain ⟨r, rfl, q⟩ := hv
    dsimp only
    exact wpAny_bind (wpAny_truthy_bool (wpAny_pure (hp r s' q)))
  have one : wpAny (model prog w) A (tryCompare (.ref x) "__ne__" b) (fun r s' => ∃ v, r = some v ∧ Q v s') E s := by
    unfold tryCompare
    refine wpAny_bind (neBound X I hne ?_)
    refine wpAny_call (codeAny_call_builtin F.cmp_object.ne.plain F.cmpEntry_ne (neCheck X I hm ?_))
    refine body _ fun r s' q => ?_
    dsimp only
    exact wpAny_pure ⟨_, rfl, q⟩
  unfold richCompare
  simp only [oneThing_ref]
  refine wpAny_holding (wpAny_bind (wpAny_cRoomFor hu0 ?_))
  refine wpAny_bind (I.type.here (wpAny_bind (hb.here ?_)))
  split
  · rename_i q
    have e : subIn K tb (.ref C) = some false := by
      rcases Bool.or_eq_true_iff.mp hn with e | e
      · rw [beq_iff_eq.mp e] at q; simp at q
      · exact beq_iff_eq.mp e
    refine wpAny_bind ((looks_subIn X e).here ?_)
    simp only [Bool.false_eq_true, if_false]
    refine wpAny_bind (wpAny_mono one (fun r s' z => ?_) fun _ _ e => e)
    obtain ⟨v, rfl, hq⟩ := z
    exact wpAny_pure hq
  · refine wpAny_bind (wpAny_pure ?_)
    simp only [Bool.false_eq_true, if_false]
    refine wpAny_bind (wpAny_mono one (fun r s' z => ?_) fun _ _ e => e)
    obtain ⟨v, rfl, hq⟩ := z
    exact wpAny_pure hq
end
/-! ### over data -/
/-- what is known of a class with an own ==: the others in os may stand at the right -/
structure EqOK (P : Program) (wd : World) (K : PySem.W.Frag) (mg : Str → Option Value) (base : Heap) (k : Nat) (C : String) (os : List String) (F : DF) : Prop where
  ex : ∃ (f : Addr) (fd : FuncData) (ps : List Str), FnG P wd K mg base k f fd ps (spD K F) ∧ Binds K fd ps [] ∧ findIn K (.ref (cA K C)) "__eq__" = some (some (.ref f)) ∧ isFn K (.ref f) = true
  ne : findIn K (.ref (cA K C)) "__ne__" = some (some (.builtin "object.__ne__"))
  ob : subIn K (.ref (cA K C)) (.type "object") = some true
  nf : ∀ D ∈ os, notFirst K (cA K C) (.ref (cA K D)) = true
abbrev ETab := List (String × List String × DF)
def rOwn (K : PySem.W.Frag) (ne : Bool) (tab : ETab) : R2 := fun x y H Q => ∃ p ∈ tab, ∃ a b D dx dy fs gs, x = .ref a ∧ y = .ref b ∧ D ∈ p.2.1 ∧ H a = some (.ins (cA K p.1) dx fs) ∧ H b = some (.ins (cA K D) dy gs) ∧
  spD K p.2.2 [x, y] H (fun v H' => ∃ r : Bool, v = .bl r ∧ Q (.bl (if ne = true then !r else r)) H') fun _ _ _ => False
def eEqO (ne : Bool) (tab : ETab) (ma mb : EM) : EM := fun Γ st => (ma Γ st).bind fun x s1 => (mb Γ s1).bind fun y s2 => match deref s2 x, deref s2 y with
  | .ins C _, .ins D _ => (match tab.lookup C with
    | some (os, F) => if D ∈ os then (match F [x, y] s2 with | .ok (.bl r) s3 => .ok (.bl (if ne = true then !r else r)) s3 | _ => .no) else .no
    | none => .no)
  | _, _ => .no
section
variable {P : Program} {wd : World} {K : PySem.W.Frag} {mg : Str → Option Value} {base : Heap} {k : Nat} {N : List Str} {sc : SC} {W : WX}
theorem rt_eqO {ne : Bool} {tab : ETab} {ta tb : TE} {ma mb : EM} (ra : RT K W ta ma) (rb : RT K W tb mb) : RT K W (tOp (rOwn K ne tab) ta tb) (eEqO ne tab ma mb) := by
  intro H0 w Γ σ ok f0 Q p
  refine ra.use ok f0 (P := fun w r => PostE K w r Q (at_ W σ)) (fun _ _ e k p => p.shift e k) (fun _ _ p => p) (fun p => p) p fun dx x w1 e1 k1 f1 rx p1 => ?_
  refine rb.use k1 f1 (P := fun w r => PostE K w r Q (at_ W σ)) (fun _ _ e k p => p.shift e k) (fun _ _ p => p) (fun p => p) p1 fun dy y w2 e2 k2 f2 ry p2 => ?_
  have vx := (rx.evo e2).vw k2
  have vy := ry.vw k2
  cases hx : deref w2.st dx with
  | ins C fs =>
    cases hy : deref w2.st dy with
    | ins D gs =>
      rw [hx] at vx p2
      rw [hy] at vy p2
      dsimp only at p2
      cases hF : tab.lookup C with
      | none => rw [hF] at p2; exact p2.elim
      | some q =>
        obtain ⟨os, F⟩ := q
        rw [hF] at p2
        dsimp only at p2
        by_cases hD : D ∈ os
        · rw [if_pos hD] at p2
          obtain ⟨a, da, us, rfl, ha, _⟩ := vx
          obtain ⟨b, db, vs, rfl, hb, _⟩ := vy
          refine ⟨(C, os, F), lookup_mem hF, a, b, D, da, db, us, vs, rfl, rfl, hD, ha, hb, w2, [dx, dy], rfl, k2, .cons (rx.evo e2) (.cons ry .nil), ?_⟩
          show PostE K w2 (F [dx, dy] w2.st) _ _
          cases hr : F [dx, dy] w2.st with
          | ok d s2 =>
            rw [hr] at p2
            cases d with
            | bl r =>
              intro v w3 e3 k3 s3 rv
              cases rv
              exact ⟨r, rfl, p2 _ w3 e3 k3 s3 .bl⟩
            | _ => exact p2.elim
          | err x s2 => rw [hr] at p2; exact p2.elim
          | no => rw [hr] at p2; exact p2.elim
        · rw [if_neg hD] at p2; exact p2.elim
    | _ => rw [hx, hy] at p2; exact p2.elim
  | _ => rw [hx] at p2; exact p2.elim
theorem op_own {ne : Bool} {op : CmpOp} (hop : op = if ne = true then .NotEq else .Eq) {j : Nat} {tab : ETab} (T : ∀ p ∈ tab, EqOK P wd K mg base j p.1 p.2.1 p.2.2) (hk : j + 1 ≤ k) : ∀ X, G P wd K mg base k N sc W X → OpR X (compareOp op) (rOwn K ne tab) := by
  intro X g pins s σ H x y v u Q I rx ry hq
  obtain ⟨p, hp, a, b, D, da, db, fs, gs, rfl, rfl, hD, ha, hb, hq⟩ := hq
  obtain ⟨⟨f, fd, ps, F, bd, hs, hf⟩, hne, hob, hnf⟩ := T p hp
  obtain ⟨rfl, rfl, rfl, rfl, rfl, rfl, hsc, hc, hr, hgd, tk, _, _⟩ := g
  cases rx
  cases ry
  obtain ⟨mA, J, _⟩ := ins_get I.hok ha
  obtain ⟨mB, J', _⟩ := ins_get I.hok hb
  obtain ⟨od, J, _⟩ := J.look
  obtain ⟨od', J', _⟩ := J'.look
  have r2 : Vals [V.ref a, V.ref b] [Value.ref a, Value.ref b] := .cons rfl (.cons rfl .nil)
  have hl := F.len _ _ _ _ hq
  have bdd := bd s [.ref a, .ref b] I.kIn (by simpa using hl)
  rw [List.append_nil] at bdd
  cases ne with
  | false =>
    subst hop
    show wpAny (model X.prog X.w) X.A (richCompare .Eq _ _) _ _ _
    obtain ⟨m, hF⟩ := I.fr
    refine PySem.W.cmp_K (op := .Eq) (tb := .ref (cA X.K D)) (by have := hr.un; omega) hF I.ok.mod.kin J J'.type (hnf D hD) hs hf ?_
    refine wpAny_call (codeAny_mono (F.go (A := X.A) (outer := X.stack) ⟨hr.mono (by omega), hgd⟩ I.env0 bdd r2 hq) fun r s' hq' => ?_)
    cases r with
    | error er => obtain ⟨_, _, _, _, _, _, _, _, _, _, _, _, _, _, _, _, z⟩ := hq'
    | ok fl =>
      cases fl with
      | ret u =>
        obtain ⟨v, H', I3, rv, r, ev, q3⟩ := I.after hq'
        subst ev
        cases rv
        exact ⟨.bl r, H', I3, rfl, q3⟩
      | next => exact False.elim hq'
      | brk => exact False.elim hq'
      | cont => exact False.elim hq'
  | true =>
    subst hop
    show wpAny (model X.prog X.w) X.A (richCompare .NotEq _ _) _ _ _
    refine ne_own (tb := .ref (cA X.K D)) (by have := hr.un; omega) I.kIn J J'.type (hnf D hD) hs hf hne hob ?_
    refine wpAny_call (codeAny_mono (F.go (A := X.A.in1) (outer := X.stack) ⟨(hr.mono hk).in1, hgd⟩ I.env0.in1 bdd r2 hq) fun r s' hq' => ?_)
    cases r with
    | error er => obtain ⟨_, _, _, _, _, _, _, _, _, _, _, _, _, _, _, _, z⟩ := hq'
    | ok fl =>
      cases fl with
      | ret u =>
        obtain ⟨v, H', I3, rv, r, ev, q3⟩ := I.after hq'
        subst ev
        cases rv
        exact ⟨r, rfl, .bl (!r), H', I3, rfl, q3⟩
      | next => exact False.elim hq'
      | brk => exact False.elim hq'
      | cont => exact False.elim hq'
/-- a == b, a != b -/
theorem pr_eqO {op : CmpOp} (ne : Bool) {j : Nat} {tab : ETab} {a b : Expr} {ma mb : EM} {pos : Pos} (T : ∀ p ∈ tab, EqOK P wd K mg base j p.1 p.2.1 p.2.2) (ha : PR P wd K mg base k N sc W a ma) (hb : PR P wd K mg base k N sc W b mb) (hk : j + 1 ≤ k := by omega)
    (hop : op = if ne = true then .NotEq else .Eq := by rfl) (hm : behindInMarks op b = false := by first | exact nomark _ | rfl) : PR P wd K mg base k N sc W (.Compare a [op] [b] pos) (eEqO ne tab ma mb) := by
  obtain ⟨ta, pa, ra⟩ := ha
  obtain ⟨tb, pb, rb⟩ := hb
  exact ⟨_, fun X g => pe_cmpR (op_own hop T hk X g) (pa X g) (pb X g) hm, rt_eqO ra rb⟩
theorem pt_eqO {op : CmpOp} (ne : Bool) {j : Nat} {tab : ETab} {a b : Expr} {ma mb : EM} {pos : Pos} (T : ∀ p ∈ tab, EqOK P wd K mg base j p.1 p.2.1 p.2.2) (ha : PR P wd K mg base k N sc W a ma) (hb : PR P wd K mg base k N sc W b mb) (hk : j + 1 ≤ k := by omega)
    (hop : op = if ne = true then .NotEq else .Eq := by rfl) (hm : behindInMarks op b = false := by first | exact nomark _ | rfl) : PTt P wd K mg base k N sc W (.Compare a [op] [b] pos) (eEqO ne tab ma mb) := by
  obtain ⟨ta, pa, ra⟩ := ha
  obtain ⟨tb, pb, rb⟩ := hb
  exact ⟨_, fun X g => pt_cmpR (op_own hop T hk X g) (pa X g) (pb X g) hm, rtt_test (rt_eqO ra rb)⟩
theorem eqOK {C : String} {os : List String} {f : Addr} {F : DF} {i : Nat} (h : findIn K (.ref (cA K C)) "__eq__" = some (some (.ref f)) ∧ isFn K (.ref f) = true) (ne : findIn K (.ref (cA K C)) "__ne__" = some (some (.builtin "object.__ne__"))) (ob : subIn K (.ref (cA K C)) (.type "object") = some true)
    (nf : ∀ D ∈ os, notFirst K (cA K C) (.ref (cA K D)) = true) (a : FnA P wd K mg base i f F) (hi : i ≤ k := by omega) : EqOK P wd K mg base k C os F :=
  let ⟨fd, ps, a, b⟩ := a.ex; ⟨⟨f, fd, ps, a.mono hi, b, h.1, h.2⟩, ne, ob, nf⟩
end
end DL
namespace DL
open PySem L2 PySem.W
theorem all_nilE {R : String × List String × DF → Prop} : ∀ p ∈ ([] : ETab), R p := fun _ h => by simp at h
theorem all_consE {R : String × List String × DF → Prop} {p : String × List String × DF} {tab : ETab} (h : R p) (t : ∀ p ∈ tab, R p) : ∀ q ∈ p :: tab, R q := fun q hq => by
  rcases List.mem_cons.mp hq with rfl | hq
  · exact h
  · exact t q hq
@[simp] theorem eEqO_ap {ne : Bool} {tab : ETab} {ma mb : EM} {Γ : DEnv} {st : Store} : eEqO ne tab ma mb Γ st = (ma Γ st).bind fun x s1 => (mb Γ s1).bind fun y s2 => match deref s2 x, deref s2 y with
  | .ins C _, .ins D _ => (match tab.lookup C with
    | some (os, F) => if D ∈ os then (match F [x, y] s2 with | .ok (.bl r) s3 => .ok (.bl (if ne = true then !r else r)) s3 | _ => .no) else .no
    | none => .no)
  | _, _ => .no := rfl
/-! ### isinstance by own classes -/
/-- what TyX asks of an own class -/
structure InsQ (K : PySem.W.Frag) (C : Addr) : Prop where
  cl : Cls K C
  ha : findIn K (.ref C) "__class__" = some (some (.builtin "object.__class__"))
  hn : specialIn K (.builtin "object.__class__") "__get__" = some (some (.builtin "getset_descriptor.__get__"))
  tk : takesIn K (.builtin "object.__class__") = some true
  hm : mroIn K C (.type "object") = some true
/-- a class that is asked for -/
structure AskQ (K : PySem.W.Frag) (C : Addr) : Prop where
  ic : isClsIn K C = true
  ty : typeIn K (.ref C) = some (.type "type")
  ss : subIn K (.ref C) (.ref C) = some true
def builtN : List String := ["NoneType", "bool", "int", "str", "list", "tuple", "dict"]
structure NoBt (K : PySem.W.Frag) (C : Addr) : Prop where
  non : subIn K (.type "NoneType") (.ref C) = some false
  bl : subIn K (.type "bool") (.ref C) = some false
  int : subIn K (.type "int") (.ref C) = some false
  str : subIn K (.type "str") (.ref C) = some false
  lst : subIn K (.type "list") (.ref C) = some false
  tup : subIn K (.type "tuple") (.ref C) = some false
  dct : subIn K (.type "dict") (.ref C) = some false
theorem NoBt.of {K : PySem.W.Frag} {C : Addr} (h : NoBt K C) {d : DL.D} {T : String} (e : tyN d = some T) : subIn K (.type T) (.ref C) = some false := by
  cases d <;> cases e
  · exact h.non
  · exact h.bl
  · exact h.int
  · exact h.str
  · exact h.tup
  · exact h.lst
  · exact h.dct
abbrev ITab := List (String × List (String × Bool))
structure IsOK (K : PySem.W.Frag) (C : String) (own : List (String × Bool)) : Prop where
  ask : AskQ K (cA K C)
  bt : NoBt K (cA K C)
  own : ∀ p ∈ own, InsQ K (cA K p.1) ∧ subIn K (.ref (cA K p.1)) (.ref (cA K C)) = some p.2
def bIsiO (tab : ITab) : List DL.D → Store → ER
  | [x, .cls C], st => match tab.lookup C with
    | some own => (match x with
      | .ins D _ => (match own.lookup D with | some b => .ok (.bl b) st | none => .no)
      | x => (match tyN x with | some _ => .ok (.bl false) st | none => .no))
    | none => .no
  | _, _ => .no
theorem kit_own {K : PySem.W.Frag} {t : Value} {C : Addr} {b : Bool} (a : AskQ K C) (h : subIn K t (.ref C) = some b) : kitOne K t (.ref C) = some b := by
  unfold kitOne
  by_cases e : (t == .ref C) = true
  · rw [if_pos e]
    have := eq_of_beq e
    subst this
    rw [a.ss] at h; exact h
  · rw [if_neg e]
    unfold kitCls
    have h1 : (clsIn K C).isSome = true := a.ic
    have : ((clsIn K C).isSome && typeIn K (.ref C) == some (.type "type")) = true := by rw [h1, a.ty]; rfl
    dsimp only
    rw [if_pos this]; exact h
section
variable {P : Program} {wd : World} {K : PySem.W.Frag} {mg : Str → Option Value} {base : Heap} {k : Nat} {N : List Str} {sc : SC} {W : WX}
theorem cd_isiO {tab : ITab} (T : ∀ p ∈ tab, IsOK K p.1 p.2) : CallD K (rIsi K) (bIsiO tab) := fun w vs ds Q E k v p => by
  unfold bIsiO at p
  split at p
  · rename_i x C
    obtain ⟨a, c, rfl, va, vc⟩ := v.two
    obtain rfl := vc
    cases hT : tab.lookup C with
    | none => rw [hT] at p; exact p.elim
    | some own =>
      rw [hT] at p
      dsimp only at p
      have ok := T _ (lookup_mem hT)
      cases x with
      | ins D fs =>
        dsimp only at p
        cases hb : own.lookup D with
        | none => rw [hb] at p; exact p.elim
        | some b =>
          rw [hb] at p
          obtain ⟨q, hs⟩ := ok.own _ (lookup_mem hb)
          obtain ⟨r, dx, us, rfl, m, _⟩ := va
          exact ⟨.ref r, _, .ref (cA K D), _, b, rfl, .own _, .base (.ins m q.cl q.ha q.hn q.tk q.hm), kit_own ok.ask hs, p.now k .bl⟩
      | _ =>
        dsimp only at p
        split at p
        · rename_i T' hT'
          exact ⟨a, _, _, _, false, rfl, .own _, ty_vw va hT', kit_own ok.ask (ok.bt.of hT'), p.now k .bl⟩
        · exact p.elim
  · exact p.elim
theorem pr_isiO {tab : ITab} {e1 e2 : Expr} {ms : EM} {p pos : Pos} (T : ∀ p ∈ tab, IsOK K p.1 p.2) (hm : mg "isinstance" = none) (ha : PAb P wd K mg base k N sc W [e1, e2] ms) (hg : sc.s.names.lookup ("isinstance" : Str) = some .globalImplicit := by rfl) (he : ∀ env, starEach [e1, e2] env = (false, eval e1 env) :: starEach [e2] env := by intro _; rfl)
    (hpl : ∀ env, (backTo pos (starEach [e2] env)).any (·.1) = false := by intro _; rfl) :
    PR P wd K mg base k N sc W (.Call (.Name "isinstance" p) [e1, e2] [] pos) (eB (bIsiO tab) ms) :=
  pr_B (id := "isinstance") (fun X g => by have := call_isi (X := X); rw [g.kk] at this; exact this) (cd_isiO T) hm (by decide +kernel) ha hg (by decide) (by decide) he hpl
end
theorem all_nilI {R : String × List (String × Bool) → Prop} : ∀ p ∈ ([] : ITab), R p := fun _ h => by simp at h
theorem all_consI {R : String × List (String × Bool) → Prop} {p : String × List (String × Bool)} {tab : ITab} (h : R p) (t : ∀ p ∈ tab, R p) : ∀ q ∈ p :: tab, R q := fun q hq => by
  rcases List.mem_cons.mp hq with rfl | hq
  · exact h
  · exact t q hq
theorem all_nilB {R : String × Bool → Prop} : ∀ p ∈ ([] : List (String × Bool)), R p := fun _ h => by simp at h
theorem all_consB {R : String × Bool → Prop} {p : String × Bool} {tab : List (String × Bool)} (h : R p) (t : ∀ p ∈ tab, R p) : ∀ q ∈ p :: tab, R q := fun q hq => by
  rcases List.mem_cons.mp hq with rfl | hq
  · exact h
  · exact t q hq
end DL
/-! try: BODY / except C as n: y = n -/
namespace DL
open PySem L2
/-- how the clause 'except C' answers exceptions of own classes -/
structure CatchOK (K : PySem.W.Frag) (mg : Str → Option Value) (C : String) (tab : List (String × Bool)) : Prop where
  at_ : mg (Str.ofString C) = some (.ref (cA K C))
  kit : ∀ p ∈ tab, PySem.W.exmOne K (.ref (cA K p.1)) (.ref (cA K C)) = some p.2
/-- i: the clause's name, j: where it is kept -/
def sTryK (i j : Nat) (tab : List (String × Bool)) (m : SM) : SM := fun Γ st => match m Γ st with
  | .err x Γ' st' => if x.own = true then (match tab.lookup x.C with
    | some true => .nx ((Γ'.set i .no).set j (.sh (.exc x.C x.fs))) st'
    | some false => .err x Γ' st'
    | none => .no) else .no
  | r => r
section
variable {P : Program} {wd : World} {K : PySem.W.Frag} {mg : Str → Option Value} {base : Heap} {k : Nat} {N : List Str} {sc : SC} {W : WX}
theorem exc_rep {w : Wd} {a : Addr} {c : Value} {dd : Option Addr} {x : Xn} (k : Ok K w) (ha : w.H a = none) (r : RepX K w c dd x) (hx : x.own = true) :
    Rep K (w.fz a (ExK c dd a)) (.ref a) (.exc x.C x.fs) := by
  obtain ⟨rc, rf⟩ := r
  rw [if_pos hx] at rc
  subst rc
  have same : (w.fz a (ExK (.ref (cA K x.C)) dd a)).M a = some (ExK (.ref (cA K x.C)) dd a) := upd_same
  cases hf : x.fs with
  | nil =>
    rw [hf] at rf
    obtain rfl := rf
    exact .exc0 same
  | cons p fs =>
    rw [hf] at rf
    obtain ⟨d, gs, rfl, hd, rp⟩ := rf
    have rp' := rp.evo (evo_fz k (ExK (.ref (cA K x.C)) (some d) a) ha)
    exact .exc1 same ((evo_fz k (ExK (.ref (cA K x.C)) (some d) a) ha).mono d _ hd) (by simp) rp'.1 rp'.2
theorem rts_tryK {i j : Nat} {C : String} {tab : List (String × Bool)} {tb : WX → TS} {m : SM} (T : CatchOK K mg C tab) (hij : i ≠ j) (hb : ∀ W, RTS K W (tb W) m) : RTS K W (fun D σ H => tb (wKeep K (.ref (cA K C)) i j W D) D σ H) (sTryK i j tab m) := by
  intro w0 w Γ σ e0 ok f Dn q
  refine hb _ w0 w Γ σ e0 ok f Dn ?_
  unfold sTryK at q
  cases e : m Γ w.st with
  | nx Γ' st' => rw [e] at q; exact q
  | ret d st' => rw [e] at q; exact q
  | bk Γ' st' => rw [e] at q; exact q
  | ct Γ' st' => rw [e] at q; exact q
  | no => rw [e] at q; exact q
  | err x Γ' st' =>
    rw [e] at q
    dsimp only at q
    intro c dd w' σ' e1 x1 k1 s1 f1 rx
    by_cases hx : x.own = true
    · rw [if_pos hx] at q
      have hc : c = .ref (cA K x.C) := by rw [rx.1, if_pos hx]
      cases ht : tab.lookup x.C with
      | none => rw [ht] at q; exact q.elim
      | some b =>
        rw [ht] at q
        have hk := T.kit _ (lookup_mem ht)
        refine ⟨b, by rw [hc]; exact hk, fun hb' a ha => ?_, fun hb' => ?_⟩
        · subst hb'
          dsimp only at q
          have e2 := evo_fz k1 (ExK c dd a) ha
          have k2 := ok_fz k1 (ExK c dd a) ha
          have rr := exc_rep k1 ha rx hx
          have f2 := fr_set (fr_no (f1.evo e2) i) rr j
          have hσ : (σ'.set i none).set j (some (V.ref a)) = ((σ'.set i (some (.ref a))).set j (some (.ref a))).set i none := by
            symm
            rw [List.set_comm _ _ (Ne.symm hij), List.set_set]
          rw [hσ] at f2
          exact q (w'.fz a (ExK c dd a)) _ (e1.trans k1 e2) (x1.trans e2.ext) k2 s1 f2
        · subst hb'
          exact q c dd w' σ' e1 x1 k1 s1 f1 rx
    · rw [if_neg hx] at q; exact q.elim
theorem ps_tryK {i j : Nat} {n y : Str} {C : String} {tab : List (String × Bool)} {body : List Stmt} {m : SM} {np yp vp ap pos pos' : Pos} (T : CatchOK K mg C tab) (nd : N.Nodup) (hb : ∀ W, PSl P wd K mg base k N sc W body m)
    (hi : N[i]? = some n := by rfl) (hj : N[j]? = some y := by rfl) (hij : i ≠ j := by decide) (hln : sc.s.names.lookup n = some .local := by rfl) (hly : sc.s.names.lookup y = some .local := by rfl)
    (hg : sc.s.names.lookup (Str.ofString C) = some .globalImplicit := by rfl) (hd : (Str.ofString C == ("__debug__" : Str)) = false := by decide) (hfn : sc.fn = (fun _ => true) := by rfl)
    (hnd : (n == ("__debug__" : Str)) = false := by decide) (hncd : (n == ("__classdict__" : Str)) = false := by decide) :
    PSt P wd K mg base k N sc W (.Try body [.ExceptHandler (some (.Name (Str.ofString C) np)) (some n) [.Assign [.Name y yp] (.Name n vp) ap] pos'] [] [] pos) (sTryK i j tab m) := by
  refine ⟨fun D σ H => (hb (wKeep K (.ref (cA K C)) i j W D)).choose D σ H, fun X g => ?_, rts_tryK (tb := fun W => (hb W).choose) T hij fun W => (hb W).choose_spec.2⟩
  obtain ⟨h1, h2, h3⟩ := g.top (g.fnc.trans hfn)
  have hkn : X.env.kindOf n = some .local := by unfold PySem.Env.kindOf; rw [g.scp]; exact hln
  have hky : X.env.kindOf y = some .local := by unfold PySem.Env.kindOf; rw [g.scp]; exact hly
  have gl : Gl X (Str.ofString C) := by unfold Gl PySem.Env.kindOf; rw [g.scp]; exact hg
  have hp := ps_try_keep (X := X) (x := Str.ofString C) (n := n) (y := y) (c := .ref (cA K C)) (i := i) (j := j) (body := body) (np := np) (yp := yp) (vp := vp) (ap := ap) (pos := pos) (pos' := pos') (tb := fun W => (hb W).choose) (Wout := W) h1 h2 h3 (by rw [g.nn]; exact nd) (by rw [g.nn]; exact hi) (by rw [g.nn]; exact hj) hij hkn hky ⟨gl, hd, .inl (by rw [g.mg]; exact T.at_)⟩ g.tk
    (fun W pn xe tk ps => (hb W).choose_spec.1 _ { prog := g.prog, wd := g.wd, kk := g.kk, mg := g.mg, bs := g.bs, nn := g.nn, scp := g.scp, calm := g.calm, room := g.room, grd := g.grd, tk := tk, pass := ps, fnc := g.fnc, top := g.top })
    (fun a oe pn => pss_one (ps_asg (pe_var (by show X.N[i]? = _; rw [g.nn]; exact hi) (.inl (by show X.env.scope.names.lookup n = _; rw [g.scp]; exact hln)) hnd hncd) (pg_name (by show X.N.Nodup; rw [g.nn]; exact nd) (by show X.N[j]? = _; rw [g.nn]; exact hj) (.inl (by show X.env.scope.names.lookup y = _; rw [g.scp]; exact hly)) ?_) ?_ ?_))
  · rw [g.kk] at hp; exact hp
  · exact .inr (by show X.env.scope.names.lookup y = _; rw [g.scp]; exact hly)
  · rfl
  · rfl
@[simp] theorem sTryK_ap {i j : Nat} {tab : List (String × Bool)} {m : SM} {Γ : DEnv} {st : Store} : sTryK i j tab m Γ st = (match m Γ st with
  | .err x Γ' st' => if x.own = true then (match tab.lookup x.C with
    | some true => .nx ((Γ'.set i .no).set j (.sh (.exc x.C x.fs))) st'
    | some false => .err x Γ' st'
    | none => .no) else .no
  | r => r) := rfl
end
end DL
/-! isinstance: of kept exceptions, by tuples of classes -/
namespace DL
open PySem L2 PySem.W
structure ExcQ (K : PySem.W.Frag) (C : Addr) : Prop where
  cl : isClsIn K C = true
  ga : findIn K (.ref C) "__getattribute__" = some (some (.builtin "BaseException.__getattribute__"))
  gt : findIn K (.ref C) "__getattr__" = some none
  sub : subIn K (.ref C) (.type "BaseException") = some true
  ha : findIn K (.ref C) "__class__" = some (some (.builtin "object.__class__"))
  hn : specialIn K (.builtin "object.__class__") "__get__" = some (some (.builtin "getset_descriptor.__get__"))
  tk : takesIn K (.builtin "object.__class__") = some true
  hm : mroIn K C (.type "object") = some true
/-- a value and its type -/
inductive TyZ (K : PySem.W.Frag) (H : Hp) : V → Value → Prop where
  | base {x : V} {t : Value} (h : TyX K H x t) : TyZ K H x t
  | exc0 {a C : Addr} (e : H a = some (ExK (.ref C) none a)) (q : ExcQ K C) : TyZ K H (.ref a) (.ref C)
  | exc1 {a d C : Addr} {vs : List (Str × V)} (e : H a = some (ExK (.ref C) (some d) a)) (hd : H d = some (.xd vs)) (q : ExcQ K C) : TyZ K H (.ref a) (.ref C)
section
variable {X : Cx} {pins : List (Addr × Obj)} {σ : St} {H : Hp} {s : Shared}
theorem kit_exc {a C : Addr} {oe : Obj} {od : Option Obj} (q : ExcQ X.K C) : KitX X.K (.ref a) (.ref C) (fun h => InstAt h a oe C od) :=
  kitx_exc (show (clsIn X.K C).isSome = true from q.cl) q.ga q.gt q.sub q.ha q.hn q.tk q.hm
theorem kit_z {x : V} {u t : Value} (I : Inv X pins σ H s) (rx : RelV x u) (ty : TyZ X.K H x t) : ∃ P : Heap → Prop, KitX X.K u t P ∧ P s.heap ∧ u ≠ .builtin "__main__.__loader__#opaque" := by
  cases ty with
  | base h => exact kit_of I rx h
  | @exc0 a C e q =>
    cases (show u = Value.ref a from rx)
    obtain ⟨⟨oe, vs, h1, z, h2⟩, _⟩ := I.hok a _ e
    refine ⟨_, kit_exc (oe := oe) (od := none) q, ⟨h1, z.1, by unfold notCls; rw [h2], by rw [z.2]; trivial⟩, fun z => nomatch z⟩
  | @exc1 a d C fs e hd q =>
    cases (show u = Value.ref a from rx)
    obtain ⟨⟨oe, vs, h1, z, h2⟩, _⟩ := I.hok a _ e
    obtain ⟨mA, ⟨od, es, ep, h3, _⟩, _⟩ := I.hok d _ hd
    refine ⟨_, kit_exc (oe := oe) (od := some od) q, ⟨h1, z.1, by unfold notCls; rw [h2], by rw [z.2]; exact h3⟩, fun z => nomatch z⟩
end
def rIsiZ (K : PySem.W.Frag) : List V → Hp → VK → Prop := fun xs H Q => (∃ (x c : V) (t u : Value) (b : Bool), xs = [x, c] ∧ ClsV c u ∧ TyZ K H x t ∧ kitOne K t u = some b ∧ Q (.bl b) H) ∨
  ∃ (x : V) (tp : Addr) (cs : List V) (t : Value) (us : List Value) (b : Bool), xs = [x, .ref tp] ∧ SqT K H tp cs ∧ Paired ClsV cs us ∧ TyZ K H x t ∧ kitAny K t us = some b ∧ Q (.bl b) H
theorem call_isiZ {X : Cx} : CallR X (.builtin "isinstance") (rIsiZ X.K) := by
  intro pins s σ H xs us Q I r h
  rcases h with ⟨x, c, t, u, b, rfl, k, ty, e, q⟩ | ⟨x, tp, cs, t, ws, b, rfl, hT, k, ty, e, q⟩
  · obtain ⟨u1, u2, rfl, r1, r2⟩ := vals2 r
    have e2 := k.eq r2
    subst e2
    obtain ⟨P, Z, p, hx⟩ := kit_z I r1 ty
    exact kia_one Z I.kIn p e hx fun tk => ⟨.bl b, H, I.tok tk, rfl, q⟩
  · obtain ⟨u1, u2, rfl, r1, r2⟩ := vals2 r
    cases (show u2 = Value.ref tp from r2)
    obtain ⟨P, Z, p, hx⟩ := kit_z I r1 ty
    obtain ⟨its, rv, ⟨o, h1, h2, n, h3⟩, _⟩ := I.tuple hT
    have e3 := ClsV.all k rv
    subst e3
    obtain ⟨oc, od, dt, sl⟩ := o
    simp only at h2 h3
    subst h2 h3
    exact kia_tup Z I.kIn p h1 e hx fun tk => ⟨.bl b, H, I.tok tk, rfl, q⟩
/-! ### over data -/
/-- what is known: own classes, exceptions, the answers for own classes and for built-in ones -/
structure ZT where
  ins : List String
  exc : List String
  c : ITab
  t : ITab
def isAns (z : ZT) (x c : DL.D) : Option Bool := match c with
  | .cls C => (z.c.lookup C).bind fun own => match x with
    | .ins D _ => if D ∈ z.ins then own.lookup D else none
    | .exc D _ => if D ∈ z.exc then own.lookup D else none
    | x => (tyN x).map fun _ => false
  | .ty U => match x with
    | .exc D _ => (z.t.lookup U).bind fun own => if D ∈ z.exc then own.lookup D else none
    | x => (tyN x).bind fun T => kitB T U
  | _ => none
def isAny (z : ZT) (x : DL.D) : List DL.D → Option Bool
  | [] => some false
  | c :: r => match isAns z x c with
    | some true => some true
    | some false => isAny z x r
    | none => none
/-- classes -/
def clsD (c : DL.D) : Bool := match c with | .cls _ => true | .ty _ => true | _ => false
def bIsiZ (z : ZT) : List DL.D → Store → ER
  | [x, .tup cs], st => if cs.all clsD = true ∧ cs ≠ [] then (match isAny z x cs with | some b => .ok (.bl b) st | none => .no) else .no
  | [x, c], st => match isAns z x c with | some b => .ok (.bl b) st | none => .no
  | _, _ => .no
structure AllZ (K : PySem.W.Frag) (z : ZT) : Prop where
  c : ∀ p ∈ z.c, AskQ K (cA K p.1) ∧ NoBt K (cA K p.1) ∧ ∀ q ∈ p.2, subIn K (.ref (cA K q.1)) (.ref (cA K p.1)) = some q.2
  t : ∀ p ∈ z.t, kitMeta p.1 = true ∧ ∀ q ∈ p.2, subIn K (.ref (cA K q.1)) (.type p.1) = some q.2
  ins : ∀ D ∈ z.ins, InsQ K (cA K D)
  exc : ∀ D ∈ z.exc, ExcQ K (cA K D)
section
variable {P : Program} {wd : World} {K : PySem.W.Frag} {mg : Str → Option Value} {base : Heap} {k : Nat} {N : List Str} {sc : SC} {W : WX}
theorem exc_vw {w : Wd} {v : V} {D : String} {fs : List (Str × DL.D)} (h : Vw K w v (.exc D fs)) (q : ExcQ K (cA K D)) : TyZ K w.H v (.ref (cA K D)) := by
  obtain ⟨a, dd, rfl, ha, hf⟩ := h
  cases fs with
  | nil => obtain rfl := hf; exact .exc0 ha q
  | cons p fs => obtain ⟨d, vs, rfl, hd, _⟩ := hf; exact .exc1 ha hd q
/-- the type of x, as far as it is known -/
def xT (K : PySem.W.Frag) (z : ZT) (x : DL.D) : Option Value := match x with
  | .ins D _ => if D ∈ z.ins then some (.ref (cA K D)) else none
  | .exc D _ => if D ∈ z.exc then some (.ref (cA K D)) else none
  | x => (tyN x).map .type
def cvZ (K : PySem.W.Frag) (c : DL.D) : Value := match c with
  | .cls C => .ref (cA K C)
  | .ty U => .type U
  | _ => .none
theorem ty_ok {z : ZT} (A : AllZ K z) {w : Wd} {v : V} {x : DL.D} {t : Value} (vx : Vw K w v x) (h : xT K z x = some t) : TyZ K w.H v t := by
  have other : ∀ T, tyN x = some T → TyZ K w.H v (.type T) := fun T e => .base (ty_vw vx e)
  cases x with
  | ins D fs =>
    unfold xT at h
    dsimp only at h
    split at h
    · rename_i hD
      cases h
      have q := A.ins D hD
      obtain ⟨r, dx, us, rfl, m, _⟩ := vx
      exact .base (.base (.ins m q.cl q.ha q.hn q.tk q.hm))
    · cases h
  | exc D fs =>
    unfold xT at h
    dsimp only at h
    split at h
    · rename_i hD
      cases h
      exact exc_vw vx (A.exc D hD)
    · cases h
  | _ =>
    unfold xT at h
    dsimp only at h
    obtain ⟨T, e, rfl⟩ := Option.map_eq_some_iff.mp h
    exact other T e
theorem kit_ref_ty {K : PySem.W.Frag} {D : Addr} {U : String} {b : Bool} (hm : kitMeta U = true) (h : subIn K (.ref D) (.type U) = some b) : kitOne K (.ref D) (.type U) = some b := by
  unfold kitOne
  rw [if_neg (by simp)]
  unfold kitCls
  dsimp only
  rw [if_pos hm]; exact h
theorem ans_t {z : ZT} (A : AllZ K z) {x c : DL.D} {b : Bool} (h : isAns z x c = some b) : ((∃ C, c = .cls C) ∨ ∃ U, c = .ty U) ∧ ∃ t, xT K z x = some t ∧ kitOne K t (cvZ K c) = some b := by
  cases c with
  | cls C =>
    refine ⟨.inl ⟨C, rfl⟩, ?_⟩
    unfold isAns at h
    dsimp only at h
    obtain ⟨own, h1, h2⟩ := Option.bind_eq_some_iff.mp h
    obtain ⟨ak, nb, ow⟩ := A.c _ (lookup_mem h1)
    cases x with
    | ins D fs =>
      dsimp only at h2
      split at h2
      · rename_i hD
        exact ⟨_, by unfold xT; exact if_pos hD, kit_own ak (ow _ (lookup_mem h2))⟩
      · cases h2
    | exc D fs =>
      dsimp only at h2
      split at h2
      · rename_i hD
        exact ⟨_, by unfold xT; exact if_pos hD, kit_own ak (ow _ (lookup_mem h2))⟩
      · cases h2
    | _ =>
      dsimp only at h2
      obtain ⟨T, e, rfl⟩ := Option.map_eq_some_iff.mp h2
      exact ⟨.type T, by unfold xT; dsimp only; rw [e]; rfl, kit_own ak (nb.of e)⟩
  | ty U =>
    refine ⟨.inr ⟨U, rfl⟩, ?_⟩
    unfold isAns at h
    cases x with
    | exc D fs =>
      dsimp only at h
      obtain ⟨own, h1, h2⟩ := Option.bind_eq_some_iff.mp h
      obtain ⟨hm, ow⟩ := A.t _ (lookup_mem h1)
      split at h2
      · rename_i hD
        exact ⟨_, by unfold xT; exact if_pos hD, kit_ref_ty hm (ow _ (lookup_mem h2))⟩
      · cases h2
    | ins D fs => cases h
    | _ =>
      dsimp only at h
      obtain ⟨T, e, h2⟩ := Option.bind_eq_some_iff.mp h
      exact ⟨.type T, by unfold xT; dsimp only; rw [e]; rfl, kit_ty h2⟩
  | _ => cases h
theorem any_t {z : ZT} (A : AllZ K z) {x : DL.D} : ∀ {cs : List DL.D} {b : Bool}, cs ≠ [] → isAny z x cs = some b → ∃ t, xT K z x = some t ∧ kitAny K t (cs.map (cvZ K)) = some b
  | [], b, hn, h => absurd rfl hn
  | c :: r, b, _, h => by
    unfold isAny at h
    cases e : isAns z x c with
    | none => rw [e] at h; cases h
    | some b' =>
      rw [e] at h
      obtain ⟨_, t, ht, hk⟩ := ans_t A e
      refine ⟨t, ht, ?_⟩
      rw [List.map_cons]
      unfold kitAny
      rw [hk]
      cases b' with
      | true => cases h; rfl
      | false =>
        dsimp only at h ⊢
        cases r with
        | nil => cases h; rfl
        | cons c2 r2 =>
          obtain ⟨t2, ht2, hk2⟩ := any_t A (by simp) h
          rw [ht] at ht2; cases ht2
          exact hk2
theorem cls_v {w : Wd} {v : V} {c : DL.D} (r : Rep K w v c) (h : clsD c = true) : ClsV v (cvZ K c) := by
  cases r <;> first | exact .ty _ | exact .own _ | cases h
theorem cls_vs {w : Wd} : ∀ {cs : List DL.D} {vs : List V}, RepL K w vs cs → (∀ c ∈ cs, clsD c = true) → Paired ClsV vs (cs.map (cvZ K))
  | [], vs, r, _ => by rw [r.inv0]; exact .nil
  | c :: cs, vs, r, h => by
    obtain ⟨v, us, rfl, r1, r2⟩ := r.inv
    exact .cons (cls_v r1 (h c List.mem_cons_self)) (cls_vs r2 fun d hd => h d (List.mem_cons_of_mem _ hd))
theorem cd_isiZ {z : ZT} (A : AllZ K z) : CallD K (rIsiZ K) (bIsiZ z) := fun w vs ds Q E k v p => by
  unfold bIsiZ at p
  split at p
  · rename_i x cs
    obtain ⟨a, c, rfl, va, vc⟩ := v.two
    split at p
    · rename_i hc
      cases h : isAny z x cs with
      | none => rw [h] at p; exact p.elim
      | some b =>
        rw [h] at p
        obtain ⟨t, ht, hk⟩ := any_t A hc.2 h
        obtain ⟨tp, us, rfl, hT, ru⟩ := vc
        exact .inr ⟨a, tp, us, t, cs.map (cvZ K), b, rfl, hT, cls_vs ru (fun c hc' => List.all_eq_true.mp hc.1 c hc'), ty_ok A va ht, hk, p.now k .bl⟩
    · exact p.elim
  · rename_i x c hne
    obtain ⟨a, cv, rfl, va, vc⟩ := v.two
    cases h : isAns z x c with
    | none => rw [h] at p; exact p.elim
    | some b =>
      rw [h] at p
      obtain ⟨hc, t, ht, hk⟩ := ans_t A h
      refine .inl ⟨a, cv, t, cvZ K c, b, rfl, ?_, ty_ok A va ht, hk, p.now k .bl⟩
      rcases hc with ⟨C, rfl⟩ | ⟨U, rfl⟩
      · obtain rfl := vc; exact .own _
      · obtain rfl := vc; exact .ty _
  · exact p.elim
theorem pr_isiZ {z : ZT} {e1 e2 : Expr} {ms : EM} {p pos : Pos} (A : AllZ K z) (hm : mg "isinstance" = none) (ha : PAb P wd K mg base k N sc W [e1, e2] ms) (hg : sc.s.names.lookup ("isinstance" : Str) = some .globalImplicit := by rfl) (he : ∀ env, starEach [e1, e2] env = (false, eval e1 env) :: starEach [e2] env := by intro _; rfl)
    (hpl : ∀ env, (backTo pos (starEach [e2] env)).any (·.1) = false := by intro _; rfl) :
    PR P wd K mg base k N sc W (.Call (.Name "isinstance" p) [e1, e2] [] pos) (eB (bIsiZ z) ms) :=
  pr_B (id := "isinstance") (fun X g => by have := call_isiZ (X := X); rw [g.kk] at this; exact this) (cd_isiZ A) hm (by decide +kernel) ha hg (by decide) (by decide) he hpl
end
end DL
/-! facts for except and isinstance -/
namespace DL
open PySem L2 PySem.W
theorem exm_own {K : PySem.W.Frag} {D C : Addr} {b : Bool} (ak : AskQ K C) (hb : subIn K (.ref C) (.type "BaseException") = some true) (h : subIn K (.ref D) (.ref C) = some b) : exmOne K (.ref D) (.ref C) = some b := by
  unfold exmOne
  rw [hb, if_pos (beq_self_eq_true _)]
  unfold kitCls
  dsimp only
  have h1 : (clsIn K C).isSome = true := ak.ic
  have : ((clsIn K C).isSome && typeIn K (.ref C) == some (.type "type")) = true := by rw [h1, ak.ty]; rfl
  rw [if_pos this]; exact h
theorem all_nilS {R : String → Prop} : ∀ p ∈ ([] : List String), R p := fun _ h => by simp at h
theorem all_consS {R : String → Prop} {p : String} {tab : List String} (h : R p) (t : ∀ p ∈ tab, R p) : ∀ q ∈ p :: tab, R q := fun q hq => by
  rcases List.mem_cons.mp hq with rfl | hq
  · exact h
  · exact t q hq
end DL
/-! == and != of dicts, both answers -/
namespace DL
open PySem L2
section
variable {X : Cx} {pins : List (Addr × Obj)} {σ : L2.St} {H : Hp} {s : Shared} {K : PySem.W.Frag} {w : Wd}
theorem dct_of (I : Inv X pins σ H s) {a : Addr} {vs : List (Key × V)} (h : Rd H a (.dK vs)) : ∃ us, KV vs us ∧ s.heap.DictOf (mixKind X.prog X.w) a us ∧ (a == sysModules) = false := by
  obtain ⟨_, hne, us, kv, d⟩ := dk_rd I.hok h
  exact ⟨us, kv, d, hne⟩
/-- the pairs of a, one by one, in b -/
def dctEq (kb : List (Key × D)) : List (Key × D) → Option Bool
  | [] => some true
  | (k, v) :: r => match valD kb k with
    | none => some false
    | some u => match pyEq v u, dctEq kb r with
      | some e, some b => some (e && b)
      | _, _ => none
def dEqX (x y : D) : Option Bool := match x, y with
  | .dct a, .dct b => if a.length = b.length then dctEq b a else some false
  | x, y => dEq x y
def oEqX : D → D → Store → ER := fun x y st => match dEqX x y with
  | some b => .ok (.bl b) st
  | none => .no
def oNeX : D → D → Store → ER := fun x y st => match dEqX x y with
  | some b => .ok (.bl !b) st
  | none => .no
theorem pyEq_at (I : Inv X pins σ w.H s) (k : Ok X.K w) {A : Around} (hu : A.units + 64 < cLine) {d e : D} {v u : V} {x y : Value} {b : Bool} (rv : Rep X.K w v d) (ru : Rep X.K w u e) (h : pyEq d e = some b) (rx : RelV v x) (ry : RelV u y) : SeqAt.EqAt A s x y b := by
  obtain ⟨p, q, hp, hq, sp, sq, rfl⟩ := pyEq_inv h
  obtain ⟨as, r1⟩ := Dp.reads I p v x (rep_dp k d v p rv hp) rx
  obtain ⟨bs, r2⟩ := Dp.reads I q u y (rep_dp k e u q ru hq) ry
  unfold SeqAt.shaped at sp sq
  simp only [Bool.and_eq_true, decide_eq_true_eq] at sp sq
  exact PySem.SeqAt.eqAt_plain p q A s x y as bs r1 r2 (PySem.PyData.plain_of_canLay0 p sp.1) (PySem.PyData.plain_of_canLay0 q sq.1) (by omega)
theorem hits_of (I : Inv X pins σ w.H s) (k : Ok X.K w) {A : Around} (hu : A.units + 64 < cLine) {ws : List (Key × V)} {ys : List (Key × D)} {zs : List (Key × Value)} (rb : RepP X.K w ws ys) (kb : KV ws zs) :
    ∀ (xs : List (Key × D)) (vs : List (Key × V)) (us : List (Key × Value)) (r : Bool), RepP X.K w vs xs → KV vs us → dctEq ys xs = some r → PySem.W.KeqHits A s zs us r
  | [], vs, us, r, ra, ka, h => by
    obtain rfl := ra.inv0
    cases ka
    cases h
    exact .nil
  | (ky, d) :: xs, vs, us, r, ra, ka, h => by
    obtain ⟨v, vs', rfl, rv, ra'⟩ := ra.inv
    cases ka with
    | @cons p q ps qs h1 h2 =>
      obtain ⟨hk, hr⟩ := h1
      obtain ⟨ky', x⟩ := q
      obtain rfl : ky = ky' := hk
      unfold dctEq at h
      cases hv : valD ys ky with
      | none =>
        rw [hv] at h
        cases h
        refine .miss ?_
        have rr : RelO (valV ws ky) (valueAt zs ky) := kb.val ky
        have hn : valV ws ky = none := by
          have := valV_has rb ky
          cases e : valV ws ky with
          | none => rfl
          | some z =>
            rw [e] at this
            have hh : hasK ys ky = true := this.symm
            unfold hasK at hh
            unfold valD at hv
            rw [Option.map_eq_none_iff, List.find?_eq_none] at hv
            rw [List.any_eq_true] at hh
            obtain ⟨q, hq, hq2⟩ := hh
            exact absurd hq2 (hv q hq)
        rw [hn] at rr
        cases e : valueAt zs ky with
        | none => rfl
        | some z => rw [e] at rr; exact rr.elim
      | some u =>
        rw [hv] at h
        dsimp only at h
        cases he : pyEq d u with
        | none => rw [he] at h; cases h
        | some e =>
          cases hb : dctEq ys xs with
          | none => rw [he, hb] at h; cases h
          | some b =>
            rw [he, hb] at h
            cases h
            obtain ⟨vu, hvu, ru⟩ := repP_val rb ky hv
            have rr : RelO (some vu) (valueAt zs ky) := by rw [← hvu]; exact kb.val ky
            obtain ⟨y, hy, ry⟩ := rr.some_of
            exact .hit hy (pyEq_at I k hu rv ru he hr ry) (hits_of I k hu rb kb xs vs' qs b ra' h2 hb)
end
section
variable {X : Cx} {K : PySem.W.Frag}
def rDctE (K : PySem.W.Frag) (ne : Bool) : R2 := fun x y H Q => ∃ (w : Wd) (a b : Addr) (vs ws : List (Key × V)) (xs ys : List (Key × D)) (r : Bool), w.H = H ∧ Ok K w ∧ x = .ref a ∧ y = .ref b ∧ Rd H a (.dK vs) ∧ Rd H b (.dK ws) ∧ RepP K w vs xs ∧ RepP K w ws ys ∧
  (if xs.length = ys.length then dctEq ys xs else some false) = some r ∧ Q (.bl (if ne = true then !r else r)) H
theorem op_dctE {ne : Bool} {op : CmpOp} (hop : op = if ne = true then .NotEq else .Eq) (hu : X.A.units + 66 < cLine) : OpR X (compareOp op) (rDctE X.K ne) := by
  intro pins s σ H x y v u Q I rx ry h
  obtain ⟨w, a, b, vs, ws, xs, ys, r, rfl, k, rfl, rfl, ha, hb, ra, rb, hr, q⟩ := h
  cases rx
  cases ry
  obtain ⟨us, ka, da, na⟩ := dct_of I ha
  obtain ⟨zs, kb, db, nb⟩ := dct_of I hb
  have l1 : us.length = xs.length := by rw [← ka.length]; simpa using congrArg List.length ra.1
  have l2 : zs.length = ys.length := by rw [← kb.length]; simpa using congrArg List.length rb.1
  have hits : ∃ r', (us.length = zs.length → PySem.W.KeqHits X.A.in1 s zs us r') ∧ (us.length == zs.length && r') = r := by
    by_cases e : xs.length = ys.length
    · rw [if_pos e] at hr
      refine ⟨r, fun _ => hits_of I k (by show X.A.units + 1 + 64 < cLine; omega) rb kb xs vs us r ra ka hr, ?_⟩
      rw [show us.length = zs.length by omega]; simp
    · rw [if_neg e] at hr
      cases hr
      refine ⟨false, fun e' => absurd (by omega) e, ?_⟩
      simp
  obtain ⟨r', h1, h2⟩ := hits
  cases ne with
  | false => subst hop; exact PySem.W.keq_eq na nb da db (by omega) h1 (by rw [h2]; exact ⟨.bl r, _, I, rfl, q⟩)
  | true => subst hop; exact PySem.W.keq_ne na nb da db (by omega) h1 (by rw [h2]; exact ⟨.bl !r, _, I, rfl, q⟩)
end
section
variable {P : Program} {wd : World} {K : PySem.W.Frag} {mg : Str → Option Value} {base : Heap} {k : Nat} {N : List Str} {sc : SC} {W : WX} {a b : Expr} {ma mb : EM} {pos : Pos}
theorem dEqX_cases (x y : D) : (∃ p q, x = .dct p ∧ y = .dct q) ∨ dEqX x y = dEq x y := by
  cases x <;> try exact .inr rfl
  cases y <;> first | exact .inr rfl | exact .inl ⟨_, _, rfl, rfl⟩
theorem vw_dct {w : Wd} {v : V} {p : List (Key × D)} (h : Vw K w v (.dct p)) : ∃ a vs, v = .ref a ∧ Rd w.H a (.dK vs) ∧ RepP K w vs p := by
  obtain ⟨a, vs, rfl, m, z⟩ := h
  exact ⟨a, vs, rfl, m, z⟩
theorem od_eqX : OpD K (rOr (rOr rEq (rEqD K)) (rDctE K false)) oEqX := fun w x y dx dy Q E k vx vy p => by
  rcases dEqX_cases dx dy with ⟨p', q', rfl, rfl⟩ | e
  · unfold oEqX dEqX at p
    dsimp only at p
    cases hr : (if p'.length = q'.length then dctEq q' p' else some false) with
    | none => rw [hr] at p; exact p.elim
    | some r =>
      rw [hr] at p
      obtain ⟨a, vs, rfl, h1, z1⟩ := vw_dct vx
      obtain ⟨b, ws, rfl, h2, z2⟩ := vw_dct vy
      exact .inr ⟨w, a, b, vs, ws, p', q', r, rfl, k, rfl, rfl, h1, h2, z1, z2, hr, p.now k .bl⟩
  · unfold oEqX at p
    rw [e] at p
    exact .inl (od_eq w x y dx dy Q E k vx vy p)
theorem od_neX : OpD K (rOr (rOr rNe (rNeD K)) (rDctE K true)) oNeX := fun w x y dx dy Q E k vx vy p => by
  rcases dEqX_cases dx dy with ⟨p', q', rfl, rfl⟩ | e
  · unfold oNeX dEqX at p
    dsimp only at p
    cases hr : (if p'.length = q'.length then dctEq q' p' else some false) with
    | none => rw [hr] at p; exact p.elim
    | some r =>
      rw [hr] at p
      obtain ⟨a, vs, rfl, h1, z1⟩ := vw_dct vx
      obtain ⟨b, ws, rfl, h2, z2⟩ := vw_dct vy
      exact .inr ⟨w, a, b, vs, ws, p', q', r, rfl, k, rfl, rfl, h1, h2, z1, z2, hr, p.now k .bl⟩
  · unfold oNeX at p
    rw [e] at p
    exact .inl (od_ne w x y dx dy Q E k vx vy p)
theorem G.u66 {X : Cx} (g : G P wd K mg base k N sc W X) : X.A.units + 66 < cLine := by have := g.room.un; omega
theorem pr_eqX (ha : PB P wd K mg base k N sc W a ma) (hb : PB P wd K mg base k N sc W b mb) : PR P wd K mg base k N sc W (.Compare a [.Eq] [b] pos) (eOp oEqX ma mb) := pr_cmp (fun X g => OpR.or' (OpR.or' op_eq (by rw [← g.kk]; exact op_eqD g.room.units)) (by rw [← g.kk]; exact op_dctE (ne := false) rfl g.u66)) od_eqX ha hb
theorem pr_neX (ha : PB P wd K mg base k N sc W a ma) (hb : PB P wd K mg base k N sc W b mb) : PR P wd K mg base k N sc W (.Compare a [.NotEq] [b] pos) (eOp oNeX ma mb) := pr_cmp (fun X g => OpR.or' (OpR.or' op_ne (by rw [← g.kk]; exact op_neD g.room.units)) (by rw [← g.kk]; exact op_dctE (ne := true) rfl g.u66)) od_neX ha hb
theorem pt_eqX (ha : PB P wd K mg base k N sc W a ma) (hb : PB P wd K mg base k N sc W b mb) : PTt P wd K mg base k N sc W (.Compare a [.Eq] [b] pos) (eOp oEqX ma mb) := pt_cmp' (fun X g => OpR.or' (OpR.or' op_eq (by rw [← g.kk]; exact op_eqD g.room.units)) (by rw [← g.kk]; exact op_dctE (ne := false) rfl g.u66)) od_eqX ha hb
theorem pt_neX (ha : PB P wd K mg base k N sc W a ma) (hb : PB P wd K mg base k N sc W b mb) : PTt P wd K mg base k N sc W (.Compare a [.NotEq] [b] pos) (eOp oNeX ma mb) := pt_cmp' (fun X g => OpR.or' (OpR.or' op_ne (by rw [← g.kk]; exact op_neD g.room.units)) (by rw [← g.kk]; exact op_dctE (ne := true) rfl g.u66)) od_neX ha hb
end
section
variable {st : Store} {x y : D}
@[simp] theorem oEqX_ap : oEqX x y st = (match dEqX x y with | some b => .ok (.bl b) st | none => .no) := rfl
@[simp] theorem oNeX_ap : oNeX x y st = (match dEqX x y with | some b => .ok (.bl !b) st | none => .no) := rfl
@[simp] theorem dEqX_i {i : Int} : dEqX (.int i) y = dEq (.int i) y := by cases y <;> rfl
@[simp] theorem dEqX_s {i : Str} : dEqX (.str i) y = dEq (.str i) y := by cases y <;> rfl
@[simp] theorem dEqX_b {i : Bool} : dEqX (.bl i) y = dEq (.bl i) y := by cases y <;> rfl
@[simp] theorem dEqX_n : dEqX .non y = dEq .non y := by cases y <;> rfl
@[simp] theorem dEqX_l {i : List D} : dEqX (.lst i) y = dEq (.lst i) y := by cases y <;> rfl
@[simp] theorem dEqX_t {i : List D} : dEqX (.tup i) y = dEq (.tup i) y := by cases y <;> rfl
theorem dEqX_d {a b : List (Key × D)} : dEqX (.dct a) (.dct b) = if a.length = b.length then dctEq b a else some false := rfl
end
end DL
namespace DL
open PySem L2
def top (i : Nat) : Stmt := PySem.Challenge.pw_keptroutes_k22_pairs_of_other_widths.main.body.getD i (.Pass ⟨0, 0, 0, 0⟩)
def Zt : ZT := ⟨["PrefixMap", "Table"], ["InvalidMap", "InvalidPair", "InvalidPrefix"], [("InvalidAddress", [("PrefixMap", false), ("Table", false), ("InvalidMap", false), ("InvalidPair", false), ("InvalidPrefix", false)]), ("InvalidMap", [("PrefixMap", false), ("Table", false), ("InvalidMap", true), ("InvalidPair", false), ("InvalidPrefix", false)]), ("InvalidPair", [("PrefixMap", false), ("Table", false), ("InvalidMap", false), ("InvalidPair", true), ("InvalidPrefix", false)]), ("InvalidPrefix", [("PrefixMap", false), ("Table", false), ("InvalidMap", false), ("InvalidPair", false), ("InvalidPrefix", true)])], []⟩
structure Txt (K : PySem.W.Frag) (mg : Str → Option Value) : Prop where
  b_all : mg "all" = none
  b_bool : mg "bool" = none
  b_dict : mg "dict" = none
  b_int : mg "int" = none
  b_isinstance : mg "isinstance" = none
  b_len : mg "len" = none
  b_list : mg "list" = none
  b_min : mg "min" = none
  b_range : mg "range" = none
  b_repr : mg "repr" = none
  b_sorted : mg "sorted" = none
  b_str : mg "str" = none
  c_LETTERS : ∃ u, mg "LETTERS" = some u ∧ RelV (.str "abcdefghijklmnopqrstuvwxyz") u
  c_MAX_TARGET : ∃ u, mg "MAX_TARGET" = some u ∧ RelV (.int 8) u
  c_MAX_WIDTH : ∃ u, mg "MAX_WIDTH" = some u ∧ RelV (.int 32) u
  cls_PrefixMap : Cls K (cA K "PrefixMap")
  cls_Table : Cls K (cA K "Table")
  mk_InvalidAddress : mg (Str.ofString "InvalidAddress") = some (.ref (cA K "InvalidAddress"))
  mk_InvalidMap : mg (Str.ofString "InvalidMap") = some (.ref (cA K "InvalidMap"))
  mk_InvalidPair : mg (Str.ofString "InvalidPair") = some (.ref (cA K "InvalidPair"))
  mk_InvalidPrefix : mg (Str.ofString "InvalidPrefix") = some (.ref (cA K "InvalidPrefix"))
  mk_PrefixMap : mg (Str.ofString "PrefixMap") = some (.ref (cA K "PrefixMap"))
  mk_RouteError : mg (Str.ofString "RouteError") = some (.ref (cA K "RouteError"))
  mk_Table : mg (Str.ofString "Table") = some (.ref (cA K "Table"))
  ask_InvalidAddress : AskQ K (cA K "InvalidAddress")
  nb_InvalidAddress : NoBt K (cA K "InvalidAddress")
  ask_InvalidMap : AskQ K (cA K "InvalidMap")
  nb_InvalidMap : NoBt K (cA K "InvalidMap")
  ask_InvalidPair : AskQ K (cA K "InvalidPair")
  nb_InvalidPair : NoBt K (cA K "InvalidPair")
  ask_InvalidPrefix : AskQ K (cA K "InvalidPrefix")
  nb_InvalidPrefix : NoBt K (cA K "InvalidPrefix")
  ask_PrefixMap : AskQ K (cA K "PrefixMap")
  nb_PrefixMap : NoBt K (cA K "PrefixMap")
  ask_RouteError : AskQ K (cA K "RouteError")
  nb_RouteError : NoBt K (cA K "RouteError")
  bx_RouteError : PySem.W.subIn K (.ref (cA K "RouteError")) (.type "BaseException") = some true
  eq_PrefixMap : PySem.W.findIn K (.ref (cA K "PrefixMap")) "__eq__" = some (some (.ref (cM K "PrefixMap" "__eq__"))) ∧ PySem.W.isFn K (.ref (cM K "PrefixMap" "__eq__")) = true
  en_PrefixMap : PySem.W.findIn K (.ref (cA K "PrefixMap")) "__ne__" = some (some (.builtin "object.__ne__"))
  eo_PrefixMap : PySem.W.subIn K (.ref (cA K "PrefixMap")) (.type "object") = some true
  eq_Table : PySem.W.findIn K (.ref (cA K "Table")) "__eq__" = some (some (.ref (cM K "PrefixMap" "__eq__"))) ∧ PySem.W.isFn K (.ref (cM K "PrefixMap" "__eq__")) = true
  en_Table : PySem.W.findIn K (.ref (cA K "Table")) "__ne__" = some (some (.builtin "object.__ne__"))
  eo_Table : PySem.W.subIn K (.ref (cA K "Table")) (.type "object") = some true
  iq_PrefixMap : InsQ K (cA K "PrefixMap")
  iq_Table : InsQ K (cA K "Table")
  me_PrefixMap_is_same : Meth K (cA K "PrefixMap") "is_same" (cM K "PrefixMap" "is_same")
  me_PrefixMap_is_value : Meth K (cA K "PrefixMap") "is_value" (cM K "PrefixMap" "is_value")
  me_PrefixMap_kept_value : Meth K (cA K "PrefixMap") "kept_value" (cM K "PrefixMap" "kept_value")
  me_PrefixMap_longest : Meth K (cA K "PrefixMap") "longest" (cM K "PrefixMap" "longest")
  me_PrefixMap_sort_of_map : Meth K (cA K "PrefixMap") "sort_of_map" (cM K "PrefixMap" "sort_of_map")
  me_Table_is_same : Meth K (cA K "Table") "is_same" (cM K "PrefixMap" "is_same")
  me_Table_is_value : Meth K (cA K "Table") "is_value" (cM K "Table" "is_value")
  me_Table_kept_value : Meth K (cA K "Table") "kept_value" (cM K "PrefixMap" "kept_value")
  me_Table_longest : Meth K (cA K "Table") "longest" (cM K "PrefixMap" "longest")
  me_Table_sort_of_map : Meth K (cA K "Table") "sort_of_map" (cM K "Table" "sort_of_map")
  me_Table_target_of : Meth K (cA K "Table") "target_of" (cM K "Table" "target_of")
  mi_Table : Mk K (cA K "Table") (cM K "PrefixMap" "__init__")
  na_PrefixMap_bits : NoAttr K (cA K "PrefixMap") "bits"
  na_PrefixMap_held : NoAttr K (cA K "PrefixMap") "held"
  na_Table_bits : NoAttr K (cA K "Table") "bits"
  na_Table_held : NoAttr K (cA K "Table") "held"
  nf_PrefixMap_PrefixMap : PySem.W.notFirst K (cA K "PrefixMap") (.ref (cA K "PrefixMap")) = true
  nf_Table_PrefixMap : PySem.W.notFirst K (cA K "Table") (.ref (cA K "PrefixMap")) = true
  nf_Table_Table : PySem.W.notFirst K (cA K "Table") (.ref (cA K "Table")) = true
  pr_PrefixMap_rows : PropOf K (cA K "PrefixMap") "rows" (cM K "PrefixMap" "rows") (cG K "PrefixMap" "rows")
  pr_PrefixMap_width : PropOf K (cA K "PrefixMap") "width" (cM K "PrefixMap" "width") (cG K "PrefixMap" "width")
  pr_Table_rows : PropOf K (cA K "Table") "rows" (cM K "PrefixMap" "rows") (cG K "PrefixMap" "rows")
  pr_Table_width : PropOf K (cA K "Table") "width" (cM K "PrefixMap" "width") (cG K "PrefixMap" "width")
  sb_InvalidMap_InvalidAddress : PySem.W.subIn K (.ref (cA K "InvalidMap")) (.ref (cA K "InvalidAddress")) = some false
  sb_InvalidMap_InvalidMap : PySem.W.subIn K (.ref (cA K "InvalidMap")) (.ref (cA K "InvalidMap")) = some true
  sb_InvalidMap_InvalidPair : PySem.W.subIn K (.ref (cA K "InvalidMap")) (.ref (cA K "InvalidPair")) = some false
  sb_InvalidMap_InvalidPrefix : PySem.W.subIn K (.ref (cA K "InvalidMap")) (.ref (cA K "InvalidPrefix")) = some false
  sb_InvalidMap_RouteError : PySem.W.subIn K (.ref (cA K "InvalidMap")) (.ref (cA K "RouteError")) = some true
  sb_InvalidPair_InvalidAddress : PySem.W.subIn K (.ref (cA K "InvalidPair")) (.ref (cA K "InvalidAddress")) = some false
  sb_InvalidPair_InvalidMap : PySem.W.subIn K (.ref (cA K "InvalidPair")) (.ref (cA K "InvalidMap")) = some false
  sb_InvalidPair_InvalidPair : PySem.W.subIn K (.ref (cA K "InvalidPair")) (.ref (cA K "InvalidPair")) = some true
  sb_InvalidPair_InvalidPrefix : PySem.W.subIn K (.ref (cA K "InvalidPair")) (.ref (cA K "InvalidPrefix")) = some false
  sb_InvalidPair_RouteError : PySem.W.subIn K (.ref (cA K "InvalidPair")) (.ref (cA K "RouteError")) = some true
  sb_InvalidPrefix_InvalidAddress : PySem.W.subIn K (.ref (cA K "InvalidPrefix")) (.ref (cA K "InvalidAddress")) = some false
  sb_InvalidPrefix_InvalidMap : PySem.W.subIn K (.ref (cA K "InvalidPrefix")) (.ref (cA K "InvalidMap")) = some false
  sb_InvalidPrefix_InvalidPair : PySem.W.subIn K (.ref (cA K "InvalidPrefix")) (.ref (cA K "InvalidPair")) = some false
  sb_InvalidPrefix_InvalidPrefix : PySem.W.subIn K (.ref (cA K "InvalidPrefix")) (.ref (cA K "InvalidPrefix")) = some true
  sb_InvalidPrefix_RouteError : PySem.W.subIn K (.ref (cA K "InvalidPrefix")) (.ref (cA K "RouteError")) = some true
  sb_PrefixMap_InvalidAddress : PySem.W.subIn K (.ref (cA K "PrefixMap")) (.ref (cA K "InvalidAddress")) = some false
  sb_PrefixMap_InvalidMap : PySem.W.subIn K (.ref (cA K "PrefixMap")) (.ref (cA K "InvalidMap")) = some false
  sb_PrefixMap_InvalidPair : PySem.W.subIn K (.ref (cA K "PrefixMap")) (.ref (cA K "InvalidPair")) = some false
  sb_PrefixMap_InvalidPrefix : PySem.W.subIn K (.ref (cA K "PrefixMap")) (.ref (cA K "InvalidPrefix")) = some false
  sb_PrefixMap_PrefixMap : PySem.W.subIn K (.ref (cA K "PrefixMap")) (.ref (cA K "PrefixMap")) = some true
  sb_Table_InvalidAddress : PySem.W.subIn K (.ref (cA K "Table")) (.ref (cA K "InvalidAddress")) = some false
  sb_Table_InvalidMap : PySem.W.subIn K (.ref (cA K "Table")) (.ref (cA K "InvalidMap")) = some false
  sb_Table_InvalidPair : PySem.W.subIn K (.ref (cA K "Table")) (.ref (cA K "InvalidPair")) = some false
  sb_Table_InvalidPrefix : PySem.W.subIn K (.ref (cA K "Table")) (.ref (cA K "InvalidPrefix")) = some false
  sb_Table_PrefixMap : PySem.W.subIn K (.ref (cA K "Table")) (.ref (cA K "PrefixMap")) = some true
  st_Table_is_target : SMet K (cA K "Table") "is_target" (cM K "Table" "is_target") (cS K "Table" "is_target")
  xq_InvalidMap : ExcQ K (cA K "InvalidMap")
  xq_InvalidPair : ExcQ K (cA K "InvalidPair")
  xq_InvalidPrefix : ExcQ K (cA K "InvalidPrefix")
  ex_InvalidMap : ExcOK K mg "InvalidMap"
  ex_InvalidPair : ExcOK K mg "InvalidPair"
  ex_InvalidPrefix : ExcOK K mg "InvalidPrefix"
theorem AZ {K : PySem.W.Frag} {mg : Str → Option Value} (T : Txt K mg) : AllZ K Zt := ⟨(all_consI ⟨T.ask_InvalidAddress, T.nb_InvalidAddress, (all_consB T.sb_PrefixMap_InvalidAddress (all_consB T.sb_Table_InvalidAddress (all_consB T.sb_InvalidMap_InvalidAddress (all_consB T.sb_InvalidPair_InvalidAddress (all_consB T.sb_InvalidPrefix_InvalidAddress all_nilB)))))⟩ (all_consI ⟨T.ask_InvalidMap, T.nb_InvalidMap, (all_consB T.sb_PrefixMap_InvalidMap (all_consB T.sb_Table_InvalidMap (all_consB T.sb_InvalidMap_InvalidMap (all_consB T.sb_InvalidPair_InvalidMap (all_consB T.sb_InvalidPrefix_InvalidMap all_nilB)))))⟩ (all_consI ⟨T.ask_InvalidPair, T.nb_InvalidPair, (all_consB T.sb_PrefixMap_InvalidPair (all_consB T.sb_Table_InvalidPair (all_consB T.sb_InvalidMap_InvalidPair (all_consB T.sb_InvalidPair_InvalidPair (all_consB T.sb_InvalidPrefix_InvalidPair all_nilB)))))⟩ (all_consI ⟨T.ask_InvalidPrefix, T.nb_InvalidPrefix, (all_consB T.sb_PrefixMap_InvalidPrefix (all_consB T.sb_Table_InvalidPrefix (all_consB T.sb_InvalidMap_InvalidPrefix (all_consB T.sb_InvalidPair_InvalidPrefix (all_consB T.sb_InvalidPrefix_InvalidPrefix all_nilB)))))⟩ all_nilI)))), all_nilI, (all_consS T.iq_PrefixMap (all_consS T.iq_Table all_nilS)), (all_consS T.xq_InvalidMap (all_consS T.xq_InvalidPair (all_consS T.xq_InvalidPrefix all_nilS)))⟩
theorem CA_RouteError {K : PySem.W.Frag} {mg : Str → Option Value} (T : Txt K mg) : CatchOK K mg "RouteError" [("InvalidMap", true), ("InvalidPair", true), ("InvalidPrefix", true)] := ⟨T.mk_RouteError, (all_consB (exm_own T.ask_RouteError T.bx_RouteError T.sb_InvalidMap_RouteError) (all_consB (exm_own T.ask_RouteError T.bx_RouteError T.sb_InvalidPair_RouteError) (all_consB (exm_own T.ask_RouteError T.bx_RouteError T.sb_InvalidPrefix_RouteError) all_nilB)))⟩

section
variable {P : Program} {wd : World} {K : PySem.W.Frag} {mg : Str → Option Value} {base : Heap}
/-! _law_pen -/
abbrev s__law_pen : Stmt := top 26
theorem sc__law_pen : FnScope ["script"] ["script"] (defScope s__law_pen) := ⟨rfl, rfl, rfl, by decide +kernel, rfl, by decide +kernel, by decide +kernel⟩
def m__law_pen : SM :=
    (sRetSt (eLst (eCons (eB bListX (eCons (eSl (eVarB 0) (eC .non) (eInt (eC (.int 60)))) eNil)) (eCons (eC (.int 0)) (eCons (eC (.int 0)) eNil)))))
def D__law_pen : DF := run ["script"] ["script"] m__law_pen
theorem bd__law_pen (T : Txt K mg)  (W : WX) : PSl P wd K mg base 0 ["script"] ⟨defScope s__law_pen, fun _ => true⟩ W (defBody s__law_pen) m__law_pen :=
    (ps_one' (ps_retSt (pn_lst (pa_cons' (pr_listx T.b_list (pb_cons (PR.b (pr_sl (pb_var 0) po_none' (po_some' pr_int))) pb_nil)) (pa_cons' pr_int (pa_cons' pr_int pa_nil'))))))
theorem fn__law_pen (T : Txt K mg) (h : HF K mg "_law_pen" s__law_pen)  : Fn P wd K mg base 1 "_law_pen" D__law_pen :=
  fn_ok h sc__law_pen (fun _ _ _ _ _ _ us hl => match us, hl with | [_], _ => rfl) (fun W => bd__law_pen T  W)

/-! PrefixMap_kept_value -/
abbrev s_PrefixMap_kept_value : Stmt := inClass (top 11) 2
theorem sc_PrefixMap_kept_value : FnScope ["self", "thing"] ["self", "thing"] (defScope s_PrefixMap_kept_value) := ⟨rfl, rfl, rfl, by decide +kernel, rfl, by decide +kernel, by decide +kernel⟩
def m_PrefixMap_kept_value : SM :=
    (sRet (eVar 1))
def D_PrefixMap_kept_value : DF := run ["self", "thing"] ["self", "thing"] m_PrefixMap_kept_value
theorem bd_PrefixMap_kept_value (T : Txt K mg)  (W : WX) : PSl P wd K mg base 0 ["self", "thing"] ⟨defScope s_PrefixMap_kept_value, fun _ => true⟩ W (defBody s_PrefixMap_kept_value) m_PrefixMap_kept_value :=
    (ps_one' (ps_ret' (pr_var 1)))
theorem fn_PrefixMap_kept_value (T : Txt K mg) {fa : Addr} (h : HM K "kept_value" "PrefixMap.kept_value" s_PrefixMap_kept_value fa)  : FnA P wd K mg base 1 fa D_PrefixMap_kept_value :=
  fn_okM h sc_PrefixMap_kept_value (fun _ _ _ _ _ _ us hl => match us, hl with | [_, _], _ => rfl) (fun W => bd_PrefixMap_kept_value T  W)

/-! is_integer -/
abbrev s_is_integer : Stmt := top 9
theorem sc_is_integer : FnScope ["thing", "low", "high"] ["thing", "low", "high"] (defScope s_is_integer) := ⟨rfl, rfl, rfl, by decide +kernel, rfl, by decide +kernel, by decide +kernel⟩
def m_is_integer : SM :=
    (sRet (eAnd (eB bIsi (eCons (eVarB 0) (eCons (eC (.ty "int")) eNil))) (eAnd (eNot (eB bIsi (eCons (eVarB 0) (eCons (eC (.ty "bool")) eNil)))) (eChain oLe oLe (eVarB 1) (eVarB 0) (eVarB 2)))))
def D_is_integer : DF := run ["thing", "low", "high"] ["thing", "low", "high"] m_is_integer
theorem bd_is_integer (T : Txt K mg)  (W : WX) : PSl P wd K mg base 0 ["thing", "low", "high"] ⟨defScope s_is_integer, fun _ => true⟩ W (defBody s_is_integer) m_is_integer :=
    (ps_one' (ps_ret' (pr_and (pr_isi T.b_isinstance (pb_cons (pb_var 0) (pb_cons (PR.b (pr_ty T.b_int)) pb_nil))) (pr_and (pr_not (pr_isi T.b_isinstance (pb_cons (pb_var 0) (pb_cons (PR.b (pr_ty T.b_bool)) pb_nil)))) (pr_one (pr_chain X_le od_le X_le od_le (pb_var 1) (pb_var 0) (pb_var 2)))))))
theorem fn_is_integer (T : Txt K mg) (h : HF K mg "is_integer" s_is_integer)  : Fn P wd K mg base 1 "is_integer" D_is_integer :=
  fn_ok h sc_is_integer (fun _ _ _ _ _ _ us hl => match us, hl with | [_, _, _], _ => rfl) (fun W => bd_is_integer T  W)

/-! PrefixMap___len__ -/
abbrev s_PrefixMap___len__ : Stmt := inClass (top 11) 12
theorem sc_PrefixMap___len__ : FnScope ["self"] ["self"] (defScope s_PrefixMap___len__) := ⟨rfl, rfl, rfl, by decide +kernel, rfl, by decide +kernel, by decide +kernel⟩
def m_PrefixMap___len__ : SM :=
    (sRet (eB bLen (eCons (eFld ["PrefixMap", "Table"] "held" (eVarB 0)) eNil)))
def D_PrefixMap___len__ : DF := run ["self"] ["self"] m_PrefixMap___len__
theorem bd_PrefixMap___len__ (T : Txt K mg)  (W : WX) : PSl P wd K mg base 0 ["self"] ⟨defScope s_PrefixMap___len__, fun _ => true⟩ W (defBody s_PrefixMap___len__) m_PrefixMap___len__ :=
    (ps_one' (ps_ret' (pr_len T.b_len (pb_cons (PR.b (pr_fld (fld_cons ⟨T.cls_PrefixMap, T.na_PrefixMap_held⟩ (fld_cons ⟨T.cls_Table, T.na_Table_held⟩ fld_nil)) (pb_var 0))) pb_nil))))
theorem fn_PrefixMap___len__ (T : Txt K mg) {fa : Addr} (h : HM K "__len__" "PrefixMap.__len__" s_PrefixMap___len__ fa)  : FnA P wd K mg base 1 fa D_PrefixMap___len__ :=
  fn_okM h sc_PrefixMap___len__ (fun _ _ _ _ _ _ us hl => match us, hl with | [_], _ => rfl) (fun W => bd_PrefixMap___len__ T  W)

/-! is_prefix -/
abbrev s_is_prefix : Stmt := top 10
theorem sc_is_prefix : FnScope ["thing", "width", "bit"] ["thing", "width"] (defScope s_is_prefix) := ⟨rfl, rfl, rfl, by decide +kernel, rfl, by decide +kernel, by decide +kernel⟩
def C_is_prefix_1 : EM :=
    (eLc [2] (eIterX (eVar 0)) (gN 2) eYes (eOp oIn (eVarB 2) (eTup (eCons (eC (.str "0")) (eCons (eC (.str "1")) eNil)))))
def m_is_prefix : SM :=
    (sRet (eAnd (eB bIsi (eCons (eVarB 0) (eCons (eC (.ty "str")) eNil))) (eAnd (eOp oLe (eB bLen (eCons (eVarB 0) eNil)) (eVarB 1)) (eB bAll (eCons C_is_prefix_1 eNil)))))
def D_is_prefix : DF := run ["thing", "width", "bit"] ["thing", "width"] m_is_prefix
theorem bd_is_prefix (T : Txt K mg)  (W : WX) : PSl P wd K mg base 0 ["thing", "width", "bit"] ⟨defScope s_is_prefix, fun _ => true⟩ W (defBody s_is_prefix) m_is_prefix :=
    (ps_one' (ps_ret' (pr_and (pr_isi T.b_isinstance (pb_cons (pb_var 0) (pb_cons (PR.b (pr_ty T.b_str)) pb_nil))) (pr_and (pr_le (PR.b (pr_len T.b_len (pb_cons (pb_var 0) pb_nil))) (pb_var 1)) (pr_one (pr_all T.b_all (pb_cons (PR.b (pr_lc (own := [("bit", 2)]) sc_is_prefix.nd (blkOk_by (by decide +kernel)) (pi_anyx (pr_var 0)) (pg_name' 2 sc_is_prefix.nd) pj_nil (pr_in (pb_var 2) (PR.b (pr_tup (pa_cons' pr_str (pa_cons' pr_str pa_nil'))))))) pb_nil)))))))
theorem fn_is_prefix (T : Txt K mg) (h : HF K mg "is_prefix" s_is_prefix)  : Fn P wd K mg base 1 "is_prefix" D_is_prefix :=
  fn_ok h sc_is_prefix (fun _ _ _ _ _ _ us hl => match us, hl with | [_, _], _ => rfl) (fun W => bd_is_prefix T  W)

/-! Table_is_target -/
abbrev s_Table_is_target : Stmt := inClass (top 15) 1
theorem sc_Table_is_target : FnScope ["thing", "sign"] ["thing"] (defScope s_Table_is_target) := ⟨rfl, rfl, rfl, by decide +kernel, rfl, by decide +kernel, by decide +kernel⟩
def C_Table_is_target_1 : EM :=
    (eLc [1] (eIterX (eVar 0)) (gN 1) eYes (eOp oIn (eVarB 1) (eC (.str "abcdefghijklmnopqrstuvwxyz"))))
def m_Table_is_target : SM :=
    (sRet (eAnd (eB bIsi (eCons (eVarB 0) (eCons (eC (.ty "str")) eNil))) (eAnd (eChain oLe oLe (eC (.int 1)) (eB bLen (eCons (eVarB 0) eNil)) (eC (.int 8))) (eB bAll (eCons C_Table_is_target_1 eNil)))))
def D_Table_is_target : DF := run ["thing", "sign"] ["thing"] m_Table_is_target
theorem bd_Table_is_target (T : Txt K mg)  (W : WX) : PSl P wd K mg base 0 ["thing", "sign"] ⟨defScope s_Table_is_target, fun _ => true⟩ W (defBody s_Table_is_target) m_Table_is_target :=
    (ps_one' (ps_ret' (pr_and (pr_isi T.b_isinstance (pb_cons (pb_var 0) (pb_cons (PR.b (pr_ty T.b_str)) pb_nil))) (pr_and (pr_chain X_le od_le X_le od_le (PR.b pr_int) (PR.b (pr_len T.b_len (pb_cons (pb_var 0) pb_nil))) (PR.b (pr_glob T.c_MAX_TARGET (fun _ => .int)))) (pr_one (pr_all T.b_all (pb_cons (PR.b (pr_lc (own := [("sign", 1)]) sc_Table_is_target.nd (blkOk_by (by decide +kernel)) (pi_anyx (pr_var 0)) (pg_name' 1 sc_Table_is_target.nd) pj_nil (pr_in (pb_var 1) (PR.b (pr_glob T.c_LETTERS (fun _ => .str)))))) pb_nil)))))))
theorem fn_Table_is_target (T : Txt K mg) {fa : Addr} (h : HM K "is_target" "Table.is_target" s_Table_is_target fa)  : FnA P wd K mg base 1 fa D_Table_is_target :=
  fn_okM h sc_Table_is_target (fun _ _ _ _ _ _ us hl => match us, hl with | [_], _ => rfl) (fun W => bd_Table_is_target T  W)

/-! Table_is_value -/
abbrev s_Table_is_value : Stmt := inClass (top 15) 2
theorem sc_Table_is_value : FnScope ["self", "thing"] ["self", "thing"] (defScope s_Table_is_value) := ⟨rfl, rfl, rfl, by decide +kernel, rfl, by decide +kernel, by decide +kernel⟩
def m_Table_is_value : SM :=
    (sRet (eCall D_Table_is_target (eCons (eVar 1) eNil)))
def D_Table_is_value : DF := run ["self", "thing"] ["self", "thing"] m_Table_is_value
theorem bd_Table_is_value (T : Txt K mg) (c_Table_is_target : FnA P wd K mg base 1 (cS K "Table" "is_target") D_Table_is_target) (W : WX) : PSl P wd K mg base 2 ["self", "thing"] ⟨defScope s_Table_is_value, fun _ => true⟩ W (defBody s_Table_is_value) m_Table_is_value :=
    (ps_one' (ps_ret' (pr_stat T.mk_Table (statOK (k := 1) T.st_Table_is_target c_Table_is_target) (pa_cons' (pr_var 1) pa_nil'))))
theorem fn_Table_is_value (T : Txt K mg) {fa : Addr} (h : HM K "is_value" "Table.is_value" s_Table_is_value fa) (c_Table_is_target : FnA P wd K mg base 1 (cS K "Table" "is_target") D_Table_is_target) : FnA P wd K mg base 3 fa D_Table_is_value :=
  fn_okM h sc_Table_is_value (fun _ _ _ _ _ _ us hl => match us, hl with | [_, _], _ => rfl) (fun W => bd_Table_is_value T c_Table_is_target W)

/-! PrefixMap_is_value -/
abbrev s_PrefixMap_is_value : Stmt := inClass (top 11) 1
theorem sc_PrefixMap_is_value : FnScope ["self", "thing"] ["self", "thing"] (defScope s_PrefixMap_is_value) := ⟨rfl, rfl, rfl, by decide +kernel, rfl, by decide +kernel, by decide +kernel⟩
def m_PrefixMap_is_value : SM :=
    (sRet (eAnd (eB bIsi (eCons (eVarB 1) (eCons (eC (.ty "int")) eNil))) (eNot (eB bIsi (eCons (eVarB 1) (eCons (eC (.ty "bool")) eNil))))))
def D_PrefixMap_is_value : DF := run ["self", "thing"] ["self", "thing"] m_PrefixMap_is_value
theorem bd_PrefixMap_is_value (T : Txt K mg)  (W : WX) : PSl P wd K mg base 0 ["self", "thing"] ⟨defScope s_PrefixMap_is_value, fun _ => true⟩ W (defBody s_PrefixMap_is_value) m_PrefixMap_is_value :=
    (ps_one' (ps_ret' (pr_and (pr_isi T.b_isinstance (pb_cons (pb_var 1) (pb_cons (PR.b (pr_ty T.b_int)) pb_nil))) (pr_one (pr_not (pr_isi T.b_isinstance (pb_cons (pb_var 1) (pb_cons (PR.b (pr_ty T.b_bool)) pb_nil))))))))
theorem fn_PrefixMap_is_value (T : Txt K mg) {fa : Addr} (h : HM K "is_value" "PrefixMap.is_value" s_PrefixMap_is_value fa)  : FnA P wd K mg base 1 fa D_PrefixMap_is_value :=
  fn_okM h sc_PrefixMap_is_value (fun _ _ _ _ _ _ us hl => match us, hl with | [_, _], _ => rfl) (fun W => bd_PrefixMap_is_value T  W)

/-! PrefixMap___init__ -/
abbrev s_PrefixMap___init__ : Stmt := inClass (top 11) 0
theorem sc_PrefixMap___init__ : FnScope ["self", "width", "rows", "prefix"] ["self", "width", "rows"] (defScope s_PrefixMap___init__) := ⟨rfl, rfl, rfl, by decide +kernel, rfl, by decide +kernel, by decide +kernel⟩
def C_PrefixMap___init___1 : EM :=
    (eLc [3] (eIterX (eVar 2)) (gN 3) eYes (eAnd (eCall D_is_prefix (eCons (eVar 3) (eCons (eVar 1) eNil))) (eMeth [("PrefixMap", D_PrefixMap_is_value), ("Table", D_Table_is_value)] "is_value" (eVar 0) (eCons (eOp oIxX (eVarB 2) (eVarB 3)) eNil))))
def C_PrefixMap___init___2 : EM :=
    (eDc [3] (eIterX (eB bSortedX (eCons (eVarB 2) eNil))) (gN 3) eYes (eVar 3) (eMeth [("PrefixMap", D_PrefixMap_kept_value), ("Table", D_PrefixMap_kept_value)] "kept_value" (eVar 0) (eCons (eOp oIxX (eVarB 2) (eVarB 3)) eNil)))
def m_PrefixMap___init__ : SM :=
    (sSeq (sIf (eOr (eNot (eCall D_is_integer (eCons (eVar 1) (eCons (eC (.int 1)) (eCons (eC (.int 32)) eNil))))) (eNot (eB bIsi (eCons (eVarB 2) (eCons (eC (.ty "dict")) eNil))))) (sRaise "InvalidMap") sSkip)
    (sSeq (sIf (eNot (eB bAll (eCons C_PrefixMap___init___1 eNil))) (sRaise "InvalidMap") sSkip)
    (sSeq (sFldR ["PrefixMap", "Table"] "bits" (eVar 0) (eVar 1))
    (sFldR ["PrefixMap", "Table"] "held" (eVar 0) C_PrefixMap___init___2))))
def D_PrefixMap___init__ : DF := run ["self", "width", "rows", "prefix"] ["self", "width", "rows"] m_PrefixMap___init__
theorem bd_PrefixMap___init__ (T : Txt K mg) (c_is_integer : Fn P wd K mg base 1 "is_integer" D_is_integer) (c_is_prefix : Fn P wd K mg base 1 "is_prefix" D_is_prefix) (c_Table_is_value : FnA P wd K mg base 3 (cM K "Table" "is_value") D_Table_is_value) (c_PrefixMap_is_value : FnA P wd K mg base 1 (cM K "PrefixMap" "is_value") D_PrefixMap_is_value) (c_PrefixMap_kept_value : FnA P wd K mg base 1 (cM K "PrefixMap" "kept_value") D_PrefixMap_kept_value) (W : WX) : PSl P wd K mg base 4 ["self", "width", "rows", "prefix"] ⟨defScope s_PrefixMap___init__, fun _ => true⟩ W (defBody s_PrefixMap___init__) m_PrefixMap___init__ :=
    (ps_cons' (ps_if' (pt_w (pw_or' (pt_not'' (pt_val' (pr_call c_is_integer (pa_cons' (pr_var 1) (pa_cons' pr_int (pa_cons' (pr_glob T.c_MAX_WIDTH (fun _ => .int)) pa_nil'))) (hk := by omega)))) (pw_or1' (pt_not'' (pt_val' (pr_isi T.b_isinstance (pb_cons (pb_var 2) (pb_cons (PR.b (pr_ty T.b_dict)) pb_nil)))))))) (ps_one' (ps_raise' T.ex_InvalidMap)) ps_nil')
    (ps_cons' (ps_if' (pt_not'' (pt_val' (pr_all T.b_all (pb_cons (PR.b (pr_lc (own := [("prefix", 3)]) sc_PrefixMap___init__.nd (blkOk_by (by decide +kernel)) (pi_anyx (pr_var 2)) (pg_name' 3 sc_PrefixMap___init__.nd) pj_nil (pr_and (pr_call c_is_prefix (pa_cons' (pr_var 3) (pa_cons' (pr_var 1) pa_nil')) (hk := by omega)) (pr_one (pr_meth (j := 3) (all_cons (methOK T.cls_PrefixMap T.me_PrefixMap_is_value c_PrefixMap_is_value) (all_cons (methOK T.cls_Table T.me_Table_is_value c_Table_is_value) all_nil)) (pr_var 0) (pa_cons' (pr_ixx (pb_var 2) (pb_var 3)) pa_nil')))))) pb_nil)))) (ps_one' (ps_raise' T.ex_InvalidMap)) ps_nil')
    (ps_cons' (ps_fldR (fld_cons ⟨T.cls_PrefixMap, T.na_PrefixMap_bits⟩ (fld_cons ⟨T.cls_Table, T.na_Table_bits⟩ fld_nil)) (pr_var 0) (pr_var 1) (fun _ => rfl))
    (ps_one' (ps_fldR (fld_cons ⟨T.cls_PrefixMap, T.na_PrefixMap_held⟩ (fld_cons ⟨T.cls_Table, T.na_Table_held⟩ fld_nil)) (pr_var 0) (pr_dc (own := [("prefix", 3)]) sc_PrefixMap___init__.nd (blkOk_by (by decide +kernel)) (pi_anyx (pr_sortedX T.b_sorted (pb_cons (pb_var 2) pb_nil))) (pg_name' 3 sc_PrefixMap___init__.nd) pj_nil (pr_var 3) (pr_meth (j := 1) (all_cons (methOK T.cls_PrefixMap T.me_PrefixMap_kept_value c_PrefixMap_kept_value) (all_cons (methOK T.cls_Table T.me_Table_kept_value c_PrefixMap_kept_value) all_nil)) (pr_var 0) (pa_cons' (pr_ixx (pb_var 2) (pb_var 3)) pa_nil'))) (fun _ => rfl))))))
theorem fn_PrefixMap___init__ (T : Txt K mg) {fa : Addr} (h : HM K "__init__" "PrefixMap.__init__" s_PrefixMap___init__ fa) (c_is_integer : Fn P wd K mg base 1 "is_integer" D_is_integer) (c_is_prefix : Fn P wd K mg base 1 "is_prefix" D_is_prefix) (c_Table_is_value : FnA P wd K mg base 3 (cM K "Table" "is_value") D_Table_is_value) (c_PrefixMap_is_value : FnA P wd K mg base 1 (cM K "PrefixMap" "is_value") D_PrefixMap_is_value) (c_PrefixMap_kept_value : FnA P wd K mg base 1 (cM K "PrefixMap" "kept_value") D_PrefixMap_kept_value) : FnA P wd K mg base 5 fa D_PrefixMap___init__ :=
  fn_okM h sc_PrefixMap___init__ (fun _ _ _ _ _ _ us hl => match us, hl with | [_, _, _], _ => rfl) (fun W => bd_PrefixMap___init__ T c_is_integer c_is_prefix c_Table_is_value c_PrefixMap_is_value c_PrefixMap_kept_value W)

/-! PrefixMap_is_same -/
abbrev s_PrefixMap_is_same : Stmt := inClass (top 11) 11
theorem sc_PrefixMap_is_same : FnScope ["self", "other"] ["self", "other"] (defScope s_PrefixMap_is_same) := ⟨rfl, rfl, rfl, by decide +kernel, rfl, by decide +kernel, by decide +kernel⟩
def m_PrefixMap_is_same : SM :=
    (sRet (eAnd (eOp oEqX (eFld ["PrefixMap", "Table"] "bits" (eVarB 0)) (eFld ["PrefixMap", "Table"] "bits" (eVarB 1))) (eOp oEqX (eFld ["PrefixMap", "Table"] "held" (eVarB 0)) (eFld ["PrefixMap", "Table"] "held" (eVarB 1)))))
def D_PrefixMap_is_same : DF := run ["self", "other"] ["self", "other"] m_PrefixMap_is_same
theorem bd_PrefixMap_is_same (T : Txt K mg)  (W : WX) : PSl P wd K mg base 0 ["self", "other"] ⟨defScope s_PrefixMap_is_same, fun _ => true⟩ W (defBody s_PrefixMap_is_same) m_PrefixMap_is_same :=
    (ps_one' (ps_ret' (pr_and (pr_eqX (PR.b (pr_fld (fld_cons ⟨T.cls_PrefixMap, T.na_PrefixMap_bits⟩ (fld_cons ⟨T.cls_Table, T.na_Table_bits⟩ fld_nil)) (pb_var 0))) (PR.b (pr_fld (fld_cons ⟨T.cls_PrefixMap, T.na_PrefixMap_bits⟩ (fld_cons ⟨T.cls_Table, T.na_Table_bits⟩ fld_nil)) (pb_var 1)))) (pr_one (pr_eqX (PR.b (pr_fld (fld_cons ⟨T.cls_PrefixMap, T.na_PrefixMap_held⟩ (fld_cons ⟨T.cls_Table, T.na_Table_held⟩ fld_nil)) (pb_var 0))) (PR.b (pr_fld (fld_cons ⟨T.cls_PrefixMap, T.na_PrefixMap_held⟩ (fld_cons ⟨T.cls_Table, T.na_Table_held⟩ fld_nil)) (pb_var 1))))))))
theorem fn_PrefixMap_is_same (T : Txt K mg) {fa : Addr} (h : HM K "is_same" "PrefixMap.is_same" s_PrefixMap_is_same fa)  : FnA P wd K mg base 1 fa D_PrefixMap_is_same :=
  fn_okM h sc_PrefixMap_is_same (fun _ _ _ _ _ _ us hl => match us, hl with | [_, _], _ => rfl) (fun W => bd_PrefixMap_is_same T  W)

/-! Table_sort_of_map -/
abbrev s_Table_sort_of_map : Stmt := inClass (top 15) 3
theorem sc_Table_sort_of_map : FnScope ["self"] ["self"] (defScope s_Table_sort_of_map) := ⟨rfl, rfl, rfl, by decide +kernel, rfl, by decide +kernel, by decide +kernel⟩
def m_Table_sort_of_map : SM :=
    (sRet (eC (.str "table")))
def D_Table_sort_of_map : DF := run ["self"] ["self"] m_Table_sort_of_map
theorem bd_Table_sort_of_map (T : Txt K mg)  (W : WX) : PSl P wd K mg base 0 ["self"] ⟨defScope s_Table_sort_of_map, fun _ => true⟩ W (defBody s_Table_sort_of_map) m_Table_sort_of_map :=
    (ps_one' (ps_ret' pr_str))
theorem fn_Table_sort_of_map (T : Txt K mg) {fa : Addr} (h : HM K "sort_of_map" "Table.sort_of_map" s_Table_sort_of_map fa)  : FnA P wd K mg base 1 fa D_Table_sort_of_map :=
  fn_okM h sc_Table_sort_of_map (fun _ _ _ _ _ _ us hl => match us, hl with | [_], _ => rfl) (fun W => bd_Table_sort_of_map T  W)

/-! PrefixMap_sort_of_map -/
abbrev s_PrefixMap_sort_of_map : Stmt := inClass (top 11) 3
theorem sc_PrefixMap_sort_of_map : FnScope ["self"] ["self"] (defScope s_PrefixMap_sort_of_map) := ⟨rfl, rfl, rfl, by decide +kernel, rfl, by decide +kernel, by decide +kernel⟩
def m_PrefixMap_sort_of_map : SM :=
    (sRet (eC (.str "map")))
def D_PrefixMap_sort_of_map : DF := run ["self"] ["self"] m_PrefixMap_sort_of_map
theorem bd_PrefixMap_sort_of_map (T : Txt K mg)  (W : WX) : PSl P wd K mg base 0 ["self"] ⟨defScope s_PrefixMap_sort_of_map, fun _ => true⟩ W (defBody s_PrefixMap_sort_of_map) m_PrefixMap_sort_of_map :=
    (ps_one' (ps_ret' pr_str))
theorem fn_PrefixMap_sort_of_map (T : Txt K mg) {fa : Addr} (h : HM K "sort_of_map" "PrefixMap.sort_of_map" s_PrefixMap_sort_of_map fa)  : FnA P wd K mg base 1 fa D_PrefixMap_sort_of_map :=
  fn_okM h sc_PrefixMap_sort_of_map (fun _ _ _ _ _ _ us hl => match us, hl with | [_], _ => rfl) (fun W => bd_PrefixMap_sort_of_map T  W)

/-! PrefixMap___eq__ -/
abbrev s_PrefixMap___eq__ : Stmt := inClass (top 11) 13
theorem sc_PrefixMap___eq__ : FnScope ["self", "other"] ["self", "other"] (defScope s_PrefixMap___eq__) := ⟨rfl, rfl, rfl, by decide +kernel, rfl, by decide +kernel, by decide +kernel⟩
def m_PrefixMap___eq__ : SM :=
    (sRet (eAnd (eB (bIsiO [("PrefixMap", [("PrefixMap", true), ("Table", true)])]) (eCons (eVarB 1) (eCons (eC (.cls "PrefixMap")) eNil))) (eAnd (eOp oEqX (eMeth [("PrefixMap", D_PrefixMap_sort_of_map), ("Table", D_Table_sort_of_map)] "sort_of_map" (eVar 0) eNil) (eMeth [("PrefixMap", D_PrefixMap_sort_of_map), ("Table", D_Table_sort_of_map)] "sort_of_map" (eVar 1) eNil)) (eMeth [("PrefixMap", D_PrefixMap_is_same), ("Table", D_PrefixMap_is_same)] "is_same" (eVar 0) (eCons (eVar 1) eNil)))))
def D_PrefixMap___eq__ : DF := run ["self", "other"] ["self", "other"] m_PrefixMap___eq__
theorem bd_PrefixMap___eq__ (T : Txt K mg) (c_Table_sort_of_map : FnA P wd K mg base 1 (cM K "Table" "sort_of_map") D_Table_sort_of_map) (c_PrefixMap_sort_of_map : FnA P wd K mg base 1 (cM K "PrefixMap" "sort_of_map") D_PrefixMap_sort_of_map) (c_PrefixMap_is_same : FnA P wd K mg base 1 (cM K "PrefixMap" "is_same") D_PrefixMap_is_same) (W : WX) : PSl P wd K mg base 2 ["self", "other"] ⟨defScope s_PrefixMap___eq__, fun _ => true⟩ W (defBody s_PrefixMap___eq__) m_PrefixMap___eq__ :=
    (ps_one' (ps_ret' (pr_and (pr_isiO (all_consI ⟨T.ask_PrefixMap, T.nb_PrefixMap, (all_consB ⟨T.iq_PrefixMap, T.sb_PrefixMap_PrefixMap⟩ (all_consB ⟨T.iq_Table, T.sb_Table_PrefixMap⟩ all_nilB))⟩ all_nilI) T.b_isinstance (pb_cons (pb_var 1) (pb_cons (PR.b (pr_cls T.mk_PrefixMap)) pb_nil))) (pr_and (pr_eqX (PR.b (pr_meth0 (j := 1) (all_cons (methOK T.cls_PrefixMap T.me_PrefixMap_sort_of_map c_PrefixMap_sort_of_map) (all_cons (methOK T.cls_Table T.me_Table_sort_of_map c_Table_sort_of_map) all_nil)) (pr_var 0))) (PR.b (pr_meth0 (j := 1) (all_cons (methOK T.cls_PrefixMap T.me_PrefixMap_sort_of_map c_PrefixMap_sort_of_map) (all_cons (methOK T.cls_Table T.me_Table_sort_of_map c_Table_sort_of_map) all_nil)) (pr_var 1)))) (pr_one (pr_meth (j := 1) (all_cons (methOK T.cls_PrefixMap T.me_PrefixMap_is_same c_PrefixMap_is_same) (all_cons (methOK T.cls_Table T.me_Table_is_same c_PrefixMap_is_same) all_nil)) (pr_var 0) (pa_cons' (pr_var 1) pa_nil')))))))
theorem fn_PrefixMap___eq__ (T : Txt K mg) {fa : Addr} (h : HM K "__eq__" "PrefixMap.__eq__" s_PrefixMap___eq__ fa) (c_Table_sort_of_map : FnA P wd K mg base 1 (cM K "Table" "sort_of_map") D_Table_sort_of_map) (c_PrefixMap_sort_of_map : FnA P wd K mg base 1 (cM K "PrefixMap" "sort_of_map") D_PrefixMap_sort_of_map) (c_PrefixMap_is_same : FnA P wd K mg base 1 (cM K "PrefixMap" "is_same") D_PrefixMap_is_same) : FnA P wd K mg base 3 fa D_PrefixMap___eq__ :=
  fn_okM h sc_PrefixMap___eq__ (fun _ _ _ _ _ _ us hl => match us, hl with | [_, _], _ => rfl) (fun W => bd_PrefixMap___eq__ T c_Table_sort_of_map c_PrefixMap_sort_of_map c_PrefixMap_is_same W)

/-! _law_next -/
abbrev s__law_next : Stmt := top 27
theorem sc__law_next : FnScope ["pen", "index", "cell", "low", "mid", "top"] ["pen"] (defScope s__law_next) := ⟨rfl, rfl, rfl, by decide +kernel, rfl, by decide +kernel, by decide +kernel⟩
def m__law_next : SM :=
    (sSeq (sAsg 1 (eOp oIxX (eVarB 0) (eC (.int 1))))
    (sSeq (sSub (eVar 0) (eC (.int 1)) (eOp oAdd (eVarB 1) (eC (.int 1))))
    (sSeq (sAsg 2 (eOp oAdd (eOp oMulX (eVarB 1) (eC (.int 1049))) (eC (.int 29))))
    (sSeq (sIf (eOp oNeX (eOp oIxX (eVarB 0) (eC (.int 0))) (eLst eNil)) (sAsg 2 (eOp oIxX (eOp oIxX (eVarB 0) (eC (.int 0))) (eOp oMod (eVarB 1) (eB bLen (eCons (eOp oIxX (eVarB 0) (eC (.int 0))) eNil))))) sSkip)
    (sSeq (sIf (eAnd (eOp oLt (eVarB 1) (eB bLen (eCons (eOp oIxX (eVarB 0) (eC (.int 0))) eNil))) (eOp oGe (eVarB 2) (eOp oPow (eC (.int 10)) (eC (.int 18))))) (sRet (eVar 2)) sSkip)
    (sSeq (sAsg 3 (eOp oMod (eOp oAdd (eOp oAdd (eOp oMod (eVarB 2) (eC (.int 2147483587))) (eOp oMulX (eVarB 1) (eC (.int 70061)))) (eC (.int 53))) (eC (.int 2147483587))))
    (sSeq (sAsg 4 (eOp oMod (eOp oAdd (eOp oAdd (eOp oMulX (eVarB 3) (eVarB 3)) (eOp oMulX (eVarB 1) (eC (.int 30011)))) (eC (.int 37))) (eC (.int 2147483563))))
    (sSeq (sAsg 5 (eOp oMod (eOp oAdd (eOp oAdd (eOp oMulX (eVarB 4) (eVarB 4)) (eVarB 3)) (eOp oMulX (eOp oMulX (eVarB 1) (eVarB 1)) (eC (.int 13)))) (eC (.int 2147483549))))
    (sRet (eOp oAdd (eOp oMulX (eOp oAdd (eOp oMulX (eVarB 5) (eC (.int 2147483587))) (eVarB 4)) (eC (.int 2147483563))) (eVarB 3)))))))))))
def D__law_next : DF := run ["pen", "index", "cell", "low", "mid", "top"] ["pen"] m__law_next
theorem bd__law_next (T : Txt K mg)  (W : WX) : PSl P wd K mg base 0 ["pen", "index", "cell", "low", "mid", "top"] ⟨defScope s__law_next, fun _ => true⟩ W (defBody s__law_next) m__law_next :=
    (ps_cons' (ps_asg' 1 sc__law_next.nd (pr_ixx (pb_var 0) (PR.b pr_int)))
    (ps_cons' (ps_sub' (pr_add (pb_var 1) (PR.b pr_int)) (pr_var 0) pr_int)
    (ps_cons' (ps_asg' 2 sc__law_next.nd (pr_add (PR.b (pr_mulx (pb_var 1) (PR.b pr_int))) (PR.b pr_int)))
    (ps_cons' (ps_if' (pt_neX (PR.b (pr_ixx (pb_var 0) (PR.b pr_int))) (PR.b (pr_lst pa_nil'))) (ps_one' (ps_asg' 2 sc__law_next.nd (pr_ixx (PR.b (pr_ixx (pb_var 0) (PR.b pr_int))) (PR.b (pr_mod (pb_var 1) (PR.b (pr_len T.b_len (pb_cons (PR.b (pr_ixx (pb_var 0) (PR.b pr_int))) pb_nil)))))))) ps_nil')
    (ps_cons' (ps_if' (pt_w (pw_and' (pt_lt (pb_var 1) (PR.b (pr_len T.b_len (pb_cons (PR.b (pr_ixx (pb_var 0) (PR.b pr_int))) pb_nil)))) (pw_and1' (pt_ge (pb_var 2) (PR.b (pr_pow (PR.b pr_int) (PR.b pr_int))))))) (ps_one' (ps_ret' (pr_var 2))) ps_nil')
    (ps_cons' (ps_asg' 3 sc__law_next.nd (pr_mod (PR.b (pr_add (PR.b (pr_add (PR.b (pr_mod (pb_var 2) (PR.b pr_int))) (PR.b (pr_mulx (pb_var 1) (PR.b pr_int))))) (PR.b pr_int))) (PR.b pr_int)))
    (ps_cons' (ps_asg' 4 sc__law_next.nd (pr_mod (PR.b (pr_add (PR.b (pr_add (PR.b (pr_mulx (pb_var 3) (pb_var 3))) (PR.b (pr_mulx (pb_var 1) (PR.b pr_int))))) (PR.b pr_int))) (PR.b pr_int)))
    (ps_cons' (ps_asg' 5 sc__law_next.nd (pr_mod (PR.b (pr_add (PR.b (pr_add (PR.b (pr_mulx (pb_var 4) (pb_var 4))) (pb_var 3))) (PR.b (pr_mulx (PR.b (pr_mulx (pb_var 1) (pb_var 1))) (PR.b pr_int))))) (PR.b pr_int)))
    (ps_one' (ps_ret' (pr_add (PR.b (pr_mulx (PR.b (pr_add (PR.b (pr_mulx (pb_var 5) (PR.b pr_int))) (pb_var 4))) (PR.b pr_int))) (pb_var 3))))))))))))
theorem fn__law_next (T : Txt K mg) (h : HF K mg "_law_next" s__law_next)  : Fn P wd K mg base 1 "_law_next" D__law_next :=
  fn_ok h sc__law_next (fun _ _ _ _ _ _ us hl => match us, hl with | [_], _ => rfl) (fun W => bd__law_next T  W)

/-! _law_draw -/
abbrev s__law_draw : Stmt := top 28
theorem sc__law_draw : FnScope ["pen", "below", "digit"] ["pen", "below"] (defScope s__law_draw) := ⟨rfl, rfl, rfl, by decide +kernel, rfl, by decide +kernel, by decide +kernel⟩
def m__law_draw : SM :=
    (sSeq (sIf (eOp oLt (eOp oIxX (eVarB 0) (eC (.int 2))) (eVarB 1)) (sSub (eVar 0) (eC (.int 2)) (eCall D__law_next (eCons (eVar 0) eNil))) sSkip)
    (sSeq (sAsg 2 (eOp oMod (eOp oIxX (eVarB 0) (eC (.int 2))) (eVarB 1)))
    (sSeq (sSub (eVar 0) (eC (.int 2)) (eOp oFdiv (eOp oIxX (eVarB 0) (eC (.int 2))) (eVarB 1)))
    (sRet (eVar 2)))))
def D__law_draw : DF := run ["pen", "below", "digit"] ["pen", "below"] m__law_draw
theorem bd__law_draw (T : Txt K mg) (c__law_next : Fn P wd K mg base 1 "_law_next" D__law_next) (W : WX) : PSl P wd K mg base 1 ["pen", "below", "digit"] ⟨defScope s__law_draw, fun _ => true⟩ W (defBody s__law_draw) m__law_draw :=
    (ps_cons' (ps_if' (pt_lt (PR.b (pr_ixx (pb_var 0) (PR.b pr_int))) (pb_var 1)) (ps_one' (ps_sub' (pr_call c__law_next (pa_cons' (pr_var 0) pa_nil') (hk := by omega)) (pr_var 0) pr_int)) ps_nil')
    (ps_cons' (ps_asg' 2 sc__law_draw.nd (pr_mod (PR.b (pr_ixx (pb_var 0) (PR.b pr_int))) (pb_var 1)))
    (ps_cons' (ps_sub' (pr_fdiv (PR.b (pr_ixx (pb_var 0) (PR.b pr_int))) (pb_var 1)) (pr_var 0) pr_int)
    (ps_one' (ps_ret' (pr_var 2))))))
theorem fn__law_draw (T : Txt K mg) (h : HF K mg "_law_draw" s__law_draw) (c__law_next : Fn P wd K mg base 1 "_law_next" D__law_next) : Fn P wd K mg base 2 "_law_draw" D__law_draw :=
  fn_ok h sc__law_draw (fun _ _ _ _ _ _ us hl => match us, hl with | [_, _], _ => rfl) (fun W => bd__law_draw T c__law_next W)

/-! _law_bits -/
abbrev s__law_bits : Stmt := top 29
theorem sc__law_bits : FnScope ["pen", "size", "turn"] ["pen", "size"] (defScope s__law_bits) := ⟨rfl, rfl, rfl, by decide +kernel, rfl, by decide +kernel, by decide +kernel⟩
def C__law_bits_1 : EM :=
    (eLc [2] (eRng1 (eCons (eCall D__law_draw (eCons (eVar 0) (eCons (eOp oAdd (eVarB 1) (eC (.int 1))) eNil))) eNil)) (gN 2) eYes (eOp oIxX (eC (.str "01")) (eCall D__law_draw (eCons (eVar 0) (eCons (eC (.int 2)) eNil)))))
def m__law_bits : SM :=
    (sRet (eM1 oJoin (eC (.str "")) C__law_bits_1))
def D__law_bits : DF := run ["pen", "size", "turn"] ["pen", "size"] m__law_bits
theorem bd__law_bits (T : Txt K mg) (c__law_draw : Fn P wd K mg base 2 "_law_draw" D__law_draw) (W : WX) : PSl P wd K mg base 2 ["pen", "size", "turn"] ⟨defScope s__law_bits, fun _ => true⟩ W (defBody s__law_bits) m__law_bits :=
    (ps_one' (ps_ret' (pr_join pr_str (PR.b (pr_lc (own := [("turn", 2)]) sc__law_bits.nd (blkOk_by (by decide +kernel)) (pi_rng1 T.b_range (pa_cons' (pr_call c__law_draw (pa_cons' (pr_var 0) (pa_cons' (pr_add (pb_var 1) (PR.b pr_int)) pa_nil')) (hk := by omega)) pa_nil')) (pg_name' 2 sc__law_bits.nd) pj_nil (pr_ixx (PR.b pr_str) (PR.b (pr_call c__law_draw (pa_cons' (pr_var 0) (pa_cons' pr_int pa_nil')) (hk := by omega)))))))))
theorem fn__law_bits (T : Txt K mg) (h : HF K mg "_law_bits" s__law_bits) (c__law_draw : Fn P wd K mg base 2 "_law_draw" D__law_draw) : Fn P wd K mg base 3 "_law_bits" D__law_bits :=
  fn_ok h sc__law_bits (fun _ _ _ _ _ _ us hl => match us, hl with | [_, _], _ => rfl) (fun W => bd__law_bits T c__law_draw W)

/-! _law_prefixes -/
abbrev s__law_prefixes : Stmt := top 30
theorem sc__law_prefixes : FnScope ["pen", "size", "most", "found", "turn", "start", "prefix"] ["pen", "size", "most"] (defScope s__law_prefixes) := ⟨rfl, rfl, rfl, by decide +kernel, rfl, by decide +kernel, by decide +kernel⟩
def B__law_prefixes_1 : SM :=
    (sSeq (sAsg 5 (eIf (eAnd (eOp oNeX (eVarB 3) (eLst eNil)) (eOp oEqX (eCall D__law_draw (eCons (eVar 0) (eCons (eC (.int 2)) eNil))) (eC (.int 0)))) (eOp oIxX (eVarB 3) (eCall D__law_draw (eCons (eVar 0) (eCons (eB bLen (eCons (eVarB 3) eNil)) eNil)))) (eC (.str ""))))
    (sSeq (sAsg 6 (eSl (eOp oAdd (eVarB 5) (eCall D__law_bits (eCons (eVar 0) (eCons (eB bMin2 (eCons (eVarB 1) (eCons (eC (.int 5)) eNil))) eNil)))) (eC .non) (eInt (eVar 1))))
    (sIf (eOp oNotIn (eVarB 6) (eVarB 3)) (sApp 3 (eVar 6)) sSkip)))
def m__law_prefixes : SM :=
    (sSeq (sNew 3 (eLst eNil))
    (sSeq (sFor (eRng1 (eCons (eCall D__law_draw (eCons (eVar 0) (eCons (eOp oAdd (eVarB 2) (eC (.int 1))) eNil))) eNil)) (gN 4)
    B__law_prefixes_1)
    (sFrzX 3 (sRet (eVar 3)))))
def D__law_prefixes : DF := run ["pen", "size", "most", "found", "turn", "start", "prefix"] ["pen", "size", "most"] m__law_prefixes
theorem bd__law_prefixes (T : Txt K mg) (c__law_draw : Fn P wd K mg base 2 "_law_draw" D__law_draw) (c__law_bits : Fn P wd K mg base 3 "_law_bits" D__law_bits) (W : WX) : PSl P wd K mg base 3 ["pen", "size", "most", "found", "turn", "start", "prefix"] ⟨defScope s__law_prefixes, fun _ => true⟩ W (defBody s__law_prefixes) m__law_prefixes :=
    (ps_cons' (ps_new' 3 sc__law_prefixes.nd (pn_lst pa_nil'))
    (ps_cons' (ps_for' (pi_rng1 T.b_range (pa_cons' (pr_call c__law_draw (pa_cons' (pr_var 0) (pa_cons' (pr_add (pb_var 2) (PR.b pr_int)) pa_nil')) (hk := by omega)) pa_nil')) (pg_name' 4 sc__law_prefixes.nd)
    (ps_cons' (ps_asg' 5 sc__law_prefixes.nd (pr_if (pt_w (pw_and' (pt_neX (pb_var 3) (PR.b (pr_lst pa_nil'))) (pw_and1' (pt_eqX (PR.b (pr_call c__law_draw (pa_cons' (pr_var 0) (pa_cons' pr_int pa_nil')) (hk := by omega))) (PR.b pr_int))))) (pr_ixx (pb_var 3) (PR.b (pr_call c__law_draw (pa_cons' (pr_var 0) (pa_cons' (pr_len T.b_len (pb_cons (pb_var 3) pb_nil)) pa_nil')) (hk := by omega)))) pr_str))
    (ps_cons' (ps_asg' 6 sc__law_prefixes.nd (pr_sl (PR.b (pr_add (pb_var 5) (PR.b (pr_call c__law_bits (pa_cons' (pr_var 0) (pa_cons' (pr_min2 T.b_min (pb_cons (pb_var 1) (pb_cons (PR.b pr_int) pb_nil))) pa_nil')) (hk := by omega))))) po_none' (po_some' (pr_var 1))))
    (ps_one' (ps_if' (pt_notin (pb_var 6) (pb_var 3)) (ps_one' (ps_app' 3 (pr_var 6) {})) ps_nil')))))
    (ps_frzX 3 (ps_one' (ps_ret' (pr_var 3))))))
theorem fn__law_prefixes (T : Txt K mg) (h : HF K mg "_law_prefixes" s__law_prefixes) (c__law_draw : Fn P wd K mg base 2 "_law_draw" D__law_draw) (c__law_bits : Fn P wd K mg base 3 "_law_bits" D__law_bits) : Fn P wd K mg base 4 "_law_prefixes" D__law_prefixes :=
  fn_ok h sc__law_prefixes (fun _ _ _ _ _ _ us hl => match us, hl with | [_, _, _], _ => rfl) (fun W => bd__law_prefixes T c__law_draw c__law_bits W)

/-! _law_lines -/
abbrev s__law_lines : Stmt := top 31
theorem sc__law_lines : FnScope ["pen", "size", "most", "names_used", "prefix"] ["pen", "size", "most"] (defScope s__law_lines) := ⟨rfl, rfl, rfl, by decide +kernel, rfl, by decide +kernel, by decide +kernel⟩
def C__law_lines_1 : EM :=
    (eLc [4] (eIterX (eCall D__law_prefixes (eCons (eVar 0) (eCons (eVar 1) (eCons (eVar 2) eNil))))) (gN 4) eYes (eTup (eCons (eVar 4) (eCons (eOp oIxX (eVarB 3) (eCall D__law_draw (eCons (eVar 0) (eCons (eC (.int 4)) eNil)))) eNil))))
def m__law_lines : SM :=
    (sSeq (sAsg 3 (eLst (eCons (eC (.str "a")) (eCons (eC (.str "ab")) (eCons (eC (.str "b")) (eCons (eC (.str "any")) eNil))))))
    (sRet (eB bDictX (eCons C__law_lines_1 eNil))))
def D__law_lines : DF := run ["pen", "size", "most", "names_used", "prefix"] ["pen", "size", "most"] m__law_lines
theorem bd__law_lines (T : Txt K mg) (c__law_prefixes : Fn P wd K mg base 4 "_law_prefixes" D__law_prefixes) (c__law_draw : Fn P wd K mg base 2 "_law_draw" D__law_draw) (W : WX) : PSl P wd K mg base 4 ["pen", "size", "most", "names_used", "prefix"] ⟨defScope s__law_lines, fun _ => true⟩ W (defBody s__law_lines) m__law_lines :=
    (ps_cons' (ps_asg' 3 sc__law_lines.nd (pr_lst (pa_cons' pr_str (pa_cons' pr_str (pa_cons' pr_str (pa_cons' pr_str pa_nil'))))))
    (ps_one' (ps_ret' (pr_dictx T.b_dict (pb_cons (PR.b (pr_lc (own := [("prefix", 4)]) sc__law_lines.nd (blkOk_by (by decide +kernel)) (pi_anyx (pr_call c__law_prefixes (pa_cons' (pr_var 0) (pa_cons' (pr_var 1) (pa_cons' (pr_var 2) pa_nil'))) (hk := by omega))) (pg_name' 4 sc__law_lines.nd) pj_nil (pr_tup (pa_cons' (pr_var 4) (pa_cons' (pr_ixx (pb_var 3) (PR.b (pr_call c__law_draw (pa_cons' (pr_var 0) (pa_cons' pr_int pa_nil')) (hk := by omega)))) pa_nil'))))) pb_nil)))))
theorem fn__law_lines (T : Txt K mg) (h : HF K mg "_law_lines" s__law_lines) (c__law_prefixes : Fn P wd K mg base 4 "_law_prefixes" D__law_prefixes) (c__law_draw : Fn P wd K mg base 2 "_law_draw" D__law_draw) : Fn P wd K mg base 5 "_law_lines" D__law_lines :=
  fn_ok h sc__law_lines (fun _ _ _ _ _ _ us hl => match us, hl with | [_, _, _], _ => rfl) (fun W => bd__law_lines T c__law_prefixes c__law_draw W)

/-! PrefixMap_width -/
abbrev s_PrefixMap_width : Stmt := inClass (top 11) 5
theorem sc_PrefixMap_width : FnScope ["self"] ["self"] (defScope s_PrefixMap_width) := ⟨rfl, rfl, rfl, by decide +kernel, rfl, by decide +kernel, by decide +kernel⟩
def m_PrefixMap_width : SM :=
    (sRet (eFld ["PrefixMap", "Table"] "bits" (eVarB 0)))
def D_PrefixMap_width : DF := run ["self"] ["self"] m_PrefixMap_width
theorem bd_PrefixMap_width (T : Txt K mg)  (W : WX) : PSl P wd K mg base 0 ["self"] ⟨defScope s_PrefixMap_width, fun _ => true⟩ W (defBody s_PrefixMap_width) m_PrefixMap_width :=
    (ps_one' (ps_ret' (pr_fld (fld_cons ⟨T.cls_PrefixMap, T.na_PrefixMap_bits⟩ (fld_cons ⟨T.cls_Table, T.na_Table_bits⟩ fld_nil)) (pb_var 0))))
theorem fn_PrefixMap_width (T : Txt K mg) {fa : Addr} (h : HM K "width" "PrefixMap.width" s_PrefixMap_width fa)  : FnA P wd K mg base 1 fa D_PrefixMap_width :=
  fn_okM h sc_PrefixMap_width (fun _ _ _ _ _ _ us hl => match us, hl with | [_], _ => rfl) (fun W => bd_PrefixMap_width T  W)

/-! check_widths -/
abbrev s_check_widths : Stmt := top 21
theorem sc_check_widths : FnScope ["some", "table"] ["some"] (defScope s_check_widths) := ⟨rfl, rfl, rfl, by decide +kernel, rfl, by decide +kernel, by decide +kernel⟩
def C_check_widths_1 : EM :=
    (eLenSc [1] (eIterX (eVar 0)) (gN 1) eYes (eProp [("PrefixMap", D_PrefixMap_width), ("Table", D_PrefixMap_width)] (eVar 1)))
def m_check_widths : SM :=
    (sIf (eOp oGt C_check_widths_1 (eC (.int 1))) (sRaise "InvalidPair") sSkip)
def D_check_widths : DF := run ["some", "table"] ["some"] m_check_widths
theorem bd_check_widths (T : Txt K mg) (c_PrefixMap_width : FnA P wd K mg base 1 (cG K "PrefixMap" "width") D_PrefixMap_width) (W : WX) : PSl P wd K mg base 2 ["some", "table"] ⟨defScope s_check_widths, fun _ => true⟩ W (defBody s_check_widths) m_check_widths :=
    (ps_one' (ps_if' (pt_gt (PR.b (pr_lensc T.b_len (own := [("table", 1)]) sc_check_widths.nd (blkOk_by (by decide +kernel)) (pi_anyx (pr_var 0)) (pg_name' 1 sc_check_widths.nd) pj_nil (pr_prop (j := 1) (all_cons (propOK T.cls_PrefixMap T.pr_PrefixMap_width c_PrefixMap_width) (all_cons (propOK T.cls_Table T.pr_Table_width c_PrefixMap_width) all_nil)) (pr_var 1)))) (PR.b pr_int)) (ps_one' (ps_raise' T.ex_InvalidPair)) ps_nil'))
theorem fn_check_widths (T : Txt K mg) (h : HF K mg "check_widths" s_check_widths) (c_PrefixMap_width : FnA P wd K mg base 1 (cG K "PrefixMap" "width") D_PrefixMap_width) : FnS P wd K mg base 3 "check_widths" (starD 0 D_check_widths) :=
  fn_okS (ps := []) (pv := "some") h sc_check_widths (fun _ _ _ _ _ _ us rest hl => match us, rest, hl with | [], [], _ => rfl | [], _ :: _, _ => rfl) (fun W => bd_check_widths T c_PrefixMap_width W)

/-! leaves_of -/
abbrev s_leaves_of : Stmt := top 18
theorem sc_leaves_of : FnScope ["nodes", "known", "node"] ["nodes"] (defScope s_leaves_of) := ⟨rfl, rfl, rfl, by decide +kernel, rfl, by decide +kernel, by decide +kernel⟩
def C_leaves_of_1 : EM :=
    (eDc [2] (eIterX (eVar 0)) (gN 2) eYes (eVar 2) (eC (.bl true)))
def C_leaves_of_2 : EM :=
    (eLc [2] (eIterX (eVar 0)) (gN 2) (eOp oNotIn (eOp oAdd (eVarB 2) (eC (.str "0"))) (eVarB 1)) (eVar 2))
def m_leaves_of : SM :=
    (sSeq (sAsg 1 C_leaves_of_1)
    (sRet C_leaves_of_2))
def D_leaves_of : DF := run ["nodes", "known", "node"] ["nodes"] m_leaves_of
theorem bd_leaves_of (T : Txt K mg)  (W : WX) : PSl P wd K mg base 0 ["nodes", "known", "node"] ⟨defScope s_leaves_of, fun _ => true⟩ W (defBody s_leaves_of) m_leaves_of :=
    (ps_cons' (ps_asgCD 1 sc_leaves_of.nd (pr_dc (own := [("node", 2)]) sc_leaves_of.nd (blkOk_by (by decide +kernel)) (pi_anyx (pr_var 0)) (pg_name' 2 sc_leaves_of.nd) pj_nil (pr_var 2) pr_bl))
    (ps_one' (ps_ret' (pr_lc (own := [("node", 2)]) sc_leaves_of.nd (blkOk_by (by decide +kernel)) (pi_anyx (pr_var 0)) (pg_name' 2 sc_leaves_of.nd) (pj_one (pt_notin (PR.b (pr_add (pb_var 2) (PR.b pr_str))) (pb_var 1))) (pr_var 2)))))
theorem fn_leaves_of (T : Txt K mg) (h : HF K mg "leaves_of" s_leaves_of)  : Fn P wd K mg base 1 "leaves_of" D_leaves_of :=
  fn_ok h sc_leaves_of (fun _ _ _ _ _ _ us hl => match us, hl with | [_], _ => rfl) (fun W => bd_leaves_of T  W)

/-! closed -/
abbrev s_closed : Stmt := top 17
theorem sc_closed : FnScope ["prefixes", "found", "prefix", "size"] ["prefixes"] (defScope s_closed) := ⟨rfl, rfl, rfl, by decide +kernel, rfl, by decide +kernel, by decide +kernel⟩
def B_closed_1 : SM :=
    (sSeq (sSubO 1 (eOp oAdd (eSl (eVarB 2) (eC .non) (eInt (eOp oSub (eVarB 3) (eC (.int 1))))) (eC (.str "0"))) (eC (.bl true)))
    (sSubO 1 (eOp oAdd (eSl (eVarB 2) (eC .non) (eInt (eOp oSub (eVarB 3) (eC (.int 1))))) (eC (.str "1"))) (eC (.bl true))))
def B_closed_2 : SM :=
    (sFor (eRng2 (eCons (eC (.int 1)) (eCons (eOp oAdd (eB bLen (eCons (eVarB 2) eNil)) (eC (.int 1))) eNil))) (gN 3)
    B_closed_1)
def m_closed : SM :=
    (sSeq (sNew 1 (eDisp [((eC (.str "")), (eC (.bl true)))]))
    (sSeq (sFor (eIterX (eVar 0)) (gN 2)
    B_closed_2)
    (sRet (eB bSortedX (eCons (eVarB 1) eNil)))))
def D_closed : DF := run ["prefixes", "found", "prefix", "size"] ["prefixes"] m_closed
theorem bd_closed (T : Txt K mg)  (W : WX) : PSl P wd K mg base 0 ["prefixes", "found", "prefix", "size"] ⟨defScope s_closed, fun _ => true⟩ W (defBody s_closed) m_closed :=
    (ps_cons' (ps_new' 1 sc_closed.nd (pn_disp (.cons pr_str pr_bl .nil)))
    (ps_cons' (ps_for' (pi_anyx (pr_var 0)) (pg_name' 2 sc_closed.nd)
    (ps_one' (ps_for' (pi_rng2 T.b_range (pa_cons' pr_int (pa_cons' (pr_add (PR.b (pr_len T.b_len (pb_cons (pb_var 2) pb_nil))) (PR.b pr_int)) pa_nil'))) (pg_name' 3 sc_closed.nd)
    (ps_cons' (ps_subO 1 pr_bl (pr_add (PR.b (pr_sl (pb_var 2) po_none' (po_some' (pr_sub (pb_var 3) (PR.b pr_int))))) (PR.b pr_str)))
    (ps_one' (ps_subO 1 pr_bl (pr_add (PR.b (pr_sl (pb_var 2) po_none' (po_some' (pr_sub (pb_var 3) (PR.b pr_int))))) (PR.b pr_str))))))))
    (ps_one' (ps_ret' (pr_sortedX T.b_sorted (pb_cons (pb_var 1) pb_nil))))))
theorem fn_closed (T : Txt K mg) (h : HF K mg "closed" s_closed)  : Fn P wd K mg base 1 "closed" D_closed :=
  fn_ok h sc_closed (fun _ _ _ _ _ _ us hl => match us, hl with | [_], _ => rfl) (fun W => bd_closed T  W)

/-! PrefixMap_rows -/
abbrev s_PrefixMap_rows : Stmt := inClass (top 11) 6
theorem sc_PrefixMap_rows : FnScope ["self"] ["self"] (defScope s_PrefixMap_rows) := ⟨rfl, rfl, rfl, by decide +kernel, rfl, by decide +kernel, by decide +kernel⟩
def m_PrefixMap_rows : SM :=
    (sRet (eB bDictX (eCons (eFld ["PrefixMap", "Table"] "held" (eVarB 0)) eNil)))
def D_PrefixMap_rows : DF := run ["self"] ["self"] m_PrefixMap_rows
theorem bd_PrefixMap_rows (T : Txt K mg)  (W : WX) : PSl P wd K mg base 0 ["self"] ⟨defScope s_PrefixMap_rows, fun _ => true⟩ W (defBody s_PrefixMap_rows) m_PrefixMap_rows :=
    (ps_one' (ps_ret' (pr_dictx T.b_dict (pb_cons (PR.b (pr_fld (fld_cons ⟨T.cls_PrefixMap, T.na_PrefixMap_held⟩ (fld_cons ⟨T.cls_Table, T.na_Table_held⟩ fld_nil)) (pb_var 0))) pb_nil))))
theorem fn_PrefixMap_rows (T : Txt K mg) {fa : Addr} (h : HM K "rows" "PrefixMap.rows" s_PrefixMap_rows fa)  : FnA P wd K mg base 1 fa D_PrefixMap_rows :=
  fn_okM h sc_PrefixMap_rows (fun _ _ _ _ _ _ us hl => match us, hl with | [_], _ => rfl) (fun W => bd_PrefixMap_rows T  W)

/-! common_leaves -/
abbrev s_common_leaves : Stmt := top 22
theorem sc_common_leaves : FnScope ["some", "table", "prefix"] ["some"] (defScope s_common_leaves) := ⟨rfl, rfl, rfl, by decide +kernel, rfl, by decide +kernel, by decide +kernel⟩
def C_common_leaves_1 : EM :=
    (eLc2 [1, 2] [2] (eIterX (eVar 0)) (gN 1) eYes (eIterX (eProp [("PrefixMap", D_PrefixMap_rows), ("Table", D_PrefixMap_rows)] (eVar 1))) (gN 2) eYes (eVar 2))
def m_common_leaves : SM :=
    (sRet (eCall D_leaves_of (eCons (eCall D_closed (eCons C_common_leaves_1 eNil)) eNil)))
def D_common_leaves : DF := run ["some", "table", "prefix"] ["some"] m_common_leaves
theorem bd_common_leaves (T : Txt K mg) (c_leaves_of : Fn P wd K mg base 1 "leaves_of" D_leaves_of) (c_closed : Fn P wd K mg base 1 "closed" D_closed) (c_PrefixMap_rows : FnA P wd K mg base 1 (cG K "PrefixMap" "rows") D_PrefixMap_rows) (W : WX) : PSl P wd K mg base 2 ["some", "table", "prefix"] ⟨defScope s_common_leaves, fun _ => true⟩ W (defBody s_common_leaves) m_common_leaves :=
    (ps_one' (ps_ret' (pr_call c_leaves_of (pa_cons' (pr_call c_closed (pa_cons' (pr_lc2 [2] (own := [("table", 1), ("prefix", 2)]) sc_common_leaves.nd (blkOk_by (by decide +kernel)) (pi_anyx (pr_var 0)) (pg_name' 1 sc_common_leaves.nd) pj_nil (pi_anyx (pr_prop (j := 1) (all_cons (propOK T.cls_PrefixMap T.pr_PrefixMap_rows c_PrefixMap_rows) (all_cons (propOK T.cls_Table T.pr_Table_rows c_PrefixMap_rows) all_nil)) (pr_var 1))) (pg_name' 2 sc_common_leaves.nd) pj_nil (pr_var 2)) pa_nil') (hk := by omega)) pa_nil') (hk := by omega))))
theorem fn_common_leaves (T : Txt K mg) (h : HF K mg "common_leaves" s_common_leaves) (c_leaves_of : Fn P wd K mg base 1 "leaves_of" D_leaves_of) (c_closed : Fn P wd K mg base 1 "closed" D_closed) (c_PrefixMap_rows : FnA P wd K mg base 1 (cG K "PrefixMap" "rows") D_PrefixMap_rows) : FnS P wd K mg base 3 "common_leaves" (starD 0 D_common_leaves) :=
  fn_okS (ps := []) (pv := "some") h sc_common_leaves (fun _ _ _ _ _ _ us rest hl => match us, rest, hl with | [], [], _ => rfl | [], _ :: _, _ => rfl) (fun W => bd_common_leaves T c_leaves_of c_closed c_PrefixMap_rows W)

/-! PrefixMap_longest -/
abbrev s_PrefixMap_longest : Stmt := inClass (top 11) 8
theorem sc_PrefixMap_longest : FnScope ["self", "prefix", "size"] ["self", "prefix"] (defScope s_PrefixMap_longest) := ⟨rfl, rfl, rfl, by decide +kernel, rfl, by decide +kernel, by decide +kernel⟩
def B_PrefixMap_longest_1 : SM :=
    (sIf (eOp oIn (eSl (eVarB 1) (eC .non) (eInt (eVar 2))) (eFld ["PrefixMap", "Table"] "held" (eVarB 0))) (sRet (eSl (eVarB 1) (eC .non) (eInt (eVar 2)))) sSkip)
def m_PrefixMap_longest : SM :=
    (sSeq (sIf (eNot (eCall D_is_prefix (eCons (eVar 1) (eCons (eFld ["PrefixMap", "Table"] "bits" (eVarB 0)) eNil)))) (sRaise "InvalidPrefix") sSkip)
    (sSeq (sFor (eRngD (eCons (eB bLen (eCons (eVarB 1) eNil)) (eCons (eNeg (eC (.int 1))) (eCons (eNeg (eC (.int 1))) eNil)))) (gN 2)
    B_PrefixMap_longest_1)
    (sRet (eC .non))))
def D_PrefixMap_longest : DF := run ["self", "prefix", "size"] ["self", "prefix"] m_PrefixMap_longest
theorem bd_PrefixMap_longest (T : Txt K mg) (c_is_prefix : Fn P wd K mg base 1 "is_prefix" D_is_prefix) (W : WX) : PSl P wd K mg base 1 ["self", "prefix", "size"] ⟨defScope s_PrefixMap_longest, fun _ => true⟩ W (defBody s_PrefixMap_longest) m_PrefixMap_longest :=
    (ps_cons' (ps_if' (pt_not'' (pt_val' (pr_call c_is_prefix (pa_cons' (pr_var 1) (pa_cons' (pr_fld (fld_cons ⟨T.cls_PrefixMap, T.na_PrefixMap_bits⟩ (fld_cons ⟨T.cls_Table, T.na_Table_bits⟩ fld_nil)) (pb_var 0)) pa_nil')) (hk := by omega)))) (ps_one' (ps_raise' T.ex_InvalidPrefix)) ps_nil')
    (ps_cons' (ps_for' (pi_rngD T.b_range (pa_cons' (pr_len T.b_len (pb_cons (pb_var 1) pb_nil)) (pa_cons' (pr_neg pr_int) (pa_cons' (pr_neg pr_int) pa_nil')))) (pg_name' 2 sc_PrefixMap_longest.nd)
    (ps_one' (ps_if' (pt_in (PR.b (pr_sl (pb_var 1) po_none' (po_some' (pr_var 2)))) (PR.b (pr_fld (fld_cons ⟨T.cls_PrefixMap, T.na_PrefixMap_held⟩ (fld_cons ⟨T.cls_Table, T.na_Table_held⟩ fld_nil)) (pb_var 0)))) (ps_one' (ps_ret' (pr_sl (pb_var 1) po_none' (po_some' (pr_var 2))))) ps_nil')))
    (ps_one' (ps_ret' pr_non))))
theorem fn_PrefixMap_longest (T : Txt K mg) {fa : Addr} (h : HM K "longest" "PrefixMap.longest" s_PrefixMap_longest fa) (c_is_prefix : Fn P wd K mg base 1 "is_prefix" D_is_prefix) : FnA P wd K mg base 2 fa D_PrefixMap_longest :=
  fn_okM h sc_PrefixMap_longest (fun _ _ _ _ _ _ us hl => match us, hl with | [_, _], _ => rfl) (fun W => bd_PrefixMap_longest T c_is_prefix W)

/-! Table_target_of -/
abbrev s_Table_target_of : Stmt := inClass (top 15) 6
theorem sc_Table_target_of : FnScope ["self", "prefix", "found"] ["self", "prefix"] (defScope s_Table_target_of) := ⟨rfl, rfl, rfl, by decide +kernel, rfl, by decide +kernel, by decide +kernel⟩
def m_Table_target_of : SM :=
    (sSeq (sAsg 2 (eMeth [("PrefixMap", D_PrefixMap_longest), ("Table", D_PrefixMap_longest)] "longest" (eVar 0) (eCons (eVar 1) eNil)))
    (sRet (eIf (eOp oIsN (eVarB 2) (eC .non)) (eC .non) (eOp oIxX (eFld ["PrefixMap", "Table"] "held" (eVarB 0)) (eVarB 2)))))
def D_Table_target_of : DF := run ["self", "prefix", "found"] ["self", "prefix"] m_Table_target_of
theorem bd_Table_target_of (T : Txt K mg) (c_PrefixMap_longest : FnA P wd K mg base 2 (cM K "PrefixMap" "longest") D_PrefixMap_longest) (W : WX) : PSl P wd K mg base 3 ["self", "prefix", "found"] ⟨defScope s_Table_target_of, fun _ => true⟩ W (defBody s_Table_target_of) m_Table_target_of :=
    (ps_cons' (ps_asg' 2 sc_Table_target_of.nd (pr_meth (j := 2) (all_cons (methOK T.cls_PrefixMap T.me_PrefixMap_longest c_PrefixMap_longest) (all_cons (methOK T.cls_Table T.me_Table_longest c_PrefixMap_longest) all_nil)) (pr_var 0) (pa_cons' (pr_var 1) pa_nil')))
    (ps_one' (ps_ret' (pr_if (pt_isN (pb_var 2) (PR.b pr_non)) pr_non (pr_ixx (PR.b (pr_fld (fld_cons ⟨T.cls_PrefixMap, T.na_PrefixMap_held⟩ (fld_cons ⟨T.cls_Table, T.na_Table_held⟩ fld_nil)) (pb_var 0))) (pb_var 2))))))
theorem fn_Table_target_of (T : Txt K mg) {fa : Addr} (h : HM K "target_of" "Table.target_of" s_Table_target_of fa) (c_PrefixMap_longest : FnA P wd K mg base 2 (cM K "PrefixMap" "longest") D_PrefixMap_longest) : FnA P wd K mg base 4 fa D_Table_target_of :=
  fn_okM h sc_Table_target_of (fun _ _ _ _ _ _ us hl => match us, hl with | [_, _], _ => rfl) (fun W => bd_Table_target_of T c_PrefixMap_longest W)

/-! first_address -/
abbrev s_first_address : Stmt := top 19
theorem sc_first_address : FnScope ["prefix", "width"] ["prefix", "width"] (defScope s_first_address) := ⟨rfl, rfl, rfl, by decide +kernel, rfl, by decide +kernel, by decide +kernel⟩
def m_first_address : SM :=
    (sRet (eOp oAdd (eVarB 0) (eOp oMulX (eC (.str "0")) (eOp oSub (eVarB 1) (eB bLen (eCons (eVarB 0) eNil))))))
def D_first_address : DF := run ["prefix", "width"] ["prefix", "width"] m_first_address
theorem bd_first_address (T : Txt K mg)  (W : WX) : PSl P wd K mg base 0 ["prefix", "width"] ⟨defScope s_first_address, fun _ => true⟩ W (defBody s_first_address) m_first_address :=
    (ps_one' (ps_ret' (pr_add (pb_var 0) (PR.b (pr_mulx (PR.b pr_str) (PR.b (pr_sub (pb_var 1) (PR.b (pr_len T.b_len (pb_cons (pb_var 0) pb_nil))))))))))
theorem fn_first_address (T : Txt K mg) (h : HF K mg "first_address" s_first_address)  : Fn P wd K mg base 1 "first_address" D_first_address :=
  fn_ok h sc_first_address (fun _ _ _ _ _ _ us hl => match us, hl with | [_, _], _ => rfl) (fun W => bd_first_address T  W)

/-! first_difference -/
abbrev s_first_difference : Stmt := top 23
theorem sc_first_difference : FnScope ["one", "two", "leaf"] ["one", "two"] (defScope s_first_difference) := ⟨rfl, rfl, rfl, by decide +kernel, rfl, by decide +kernel, by decide +kernel⟩
def B_first_difference_1 : SM :=
    (sIf (eOp oNeX (eMeth [("Table", D_Table_target_of)] "target_of" (eVar 0) (eCons (eVar 2) eNil)) (eMeth [("Table", D_Table_target_of)] "target_of" (eVar 1) (eCons (eVar 2) eNil))) (sRet (eCall D_first_address (eCons (eVar 2) (eCons (eProp [("PrefixMap", D_PrefixMap_width), ("Table", D_PrefixMap_width)] (eVar 0)) eNil)))) sSkip)
def m_first_difference : SM :=
    (sSeq (sDrop (eCall (starD 0 D_check_widths) (eCons (eVar 0) (eCons (eVar 1) eNil))))
    (sSeq (sFor (eIterX (eCall (starD 0 D_common_leaves) (eCons (eVar 0) (eCons (eVar 1) eNil)))) (gN 2)
    B_first_difference_1)
    (sRet (eC .non))))
def D_first_difference : DF := run ["one", "two", "leaf"] ["one", "two"] m_first_difference
theorem bd_first_difference (T : Txt K mg) (c_check_widths : FnS P wd K mg base 3 "check_widths" (starD 0 D_check_widths)) (c_common_leaves : FnS P wd K mg base 3 "common_leaves" (starD 0 D_common_leaves)) (c_first_address : Fn P wd K mg base 1 "first_address" D_first_address) (c_Table_target_of : FnA P wd K mg base 4 (cM K "Table" "target_of") D_Table_target_of) (c_PrefixMap_width : FnA P wd K mg base 1 (cG K "PrefixMap" "width") D_PrefixMap_width) (W : WX) : PSl P wd K mg base 5 ["one", "two", "leaf"] ⟨defScope s_first_difference, fun _ => true⟩ W (defBody s_first_difference) m_first_difference :=
    (ps_cons' (ps_expr' (pr_callS c_check_widths (pa_cons' (pr_var 0) (pa_cons' (pr_var 1) pa_nil')) (hk := by omega)))
    (ps_cons' (ps_for' (pi_anyx (pr_callS c_common_leaves (pa_cons' (pr_var 0) (pa_cons' (pr_var 1) pa_nil')) (hk := by omega))) (pg_name' 2 sc_first_difference.nd)
    (ps_one' (ps_if' (pt_neX (PR.b (pr_meth (j := 4) (all_cons (methOK T.cls_Table T.me_Table_target_of c_Table_target_of) all_nil) (pr_var 0) (pa_cons' (pr_var 2) pa_nil'))) (PR.b (pr_meth (j := 4) (all_cons (methOK T.cls_Table T.me_Table_target_of c_Table_target_of) all_nil) (pr_var 1) (pa_cons' (pr_var 2) pa_nil')))) (ps_one' (ps_ret' (pr_call c_first_address (pa_cons' (pr_var 2) (pa_cons' (pr_prop (j := 1) (all_cons (propOK T.cls_PrefixMap T.pr_PrefixMap_width c_PrefixMap_width) (all_cons (propOK T.cls_Table T.pr_Table_width c_PrefixMap_width) all_nil)) (pr_var 0)) pa_nil')) (hk := by omega)))) ps_nil')))
    (ps_one' (ps_ret' pr_non))))
theorem fn_first_difference (T : Txt K mg) (h : HF K mg "first_difference" s_first_difference) (c_check_widths : FnS P wd K mg base 3 "check_widths" (starD 0 D_check_widths)) (c_common_leaves : FnS P wd K mg base 3 "common_leaves" (starD 0 D_common_leaves)) (c_first_address : Fn P wd K mg base 1 "first_address" D_first_address) (c_Table_target_of : FnA P wd K mg base 4 (cM K "Table" "target_of") D_Table_target_of) (c_PrefixMap_width : FnA P wd K mg base 1 (cG K "PrefixMap" "width") D_PrefixMap_width) : Fn P wd K mg base 6 "first_difference" D_first_difference :=
  fn_ok h sc_first_difference (fun _ _ _ _ _ _ us hl => match us, hl with | [_, _], _ => rfl) (fun W => bd_first_difference T c_check_widths c_common_leaves c_first_address c_Table_target_of c_PrefixMap_width W)

/-! same_meaning -/
abbrev s_same_meaning : Stmt := top 24
theorem sc_same_meaning : FnScope ["one", "two"] ["one", "two"] (defScope s_same_meaning) := ⟨rfl, rfl, rfl, by decide +kernel, rfl, by decide +kernel, by decide +kernel⟩
def m_same_meaning : SM :=
    (sRet (eOp oIsN (eCall D_first_difference (eCons (eVar 0) (eCons (eVar 1) eNil))) (eC .non)))
def D_same_meaning : DF := run ["one", "two"] ["one", "two"] m_same_meaning
theorem bd_same_meaning (T : Txt K mg) (c_first_difference : Fn P wd K mg base 6 "first_difference" D_first_difference) (W : WX) : PSl P wd K mg base 6 ["one", "two"] ⟨defScope s_same_meaning, fun _ => true⟩ W (defBody s_same_meaning) m_same_meaning :=
    (ps_one' (ps_ret' (pr_isN (PR.b (pr_call c_first_difference (pa_cons' (pr_var 0) (pa_cons' (pr_var 1) pa_nil')) (hk := by omega))) (PR.b pr_non))))
theorem fn_same_meaning (T : Txt K mg) (h : HF K mg "same_meaning" s_same_meaning) (c_first_difference : Fn P wd K mg base 6 "first_difference" D_first_difference) : Fn P wd K mg base 7 "same_meaning" D_same_meaning :=
  fn_ok h sc_same_meaning (fun _ _ _ _ _ _ us hl => match us, hl with | [_, _], _ => rfl) (fun W => bd_same_meaning T c_first_difference W)

/-! _law_outcome -/
abbrev s__law_outcome : Stmt := top 32
theorem sc__law_outcome : FnScope ["one", "two", "road", "caught", "found", "e"] ["one", "two", "road"] (defScope s__law_outcome) := ⟨rfl, rfl, rfl, by decide +kernel, rfl, by decide +kernel, by decide +kernel⟩
def m__law_outcome : SM :=
    (sSeq (sAsg 3 (eC .non))
    (sSeq (sAsg 4 (eC .non))
    (sSeq (sTryK 5 3 [("InvalidMap", true), ("InvalidPair", true), ("InvalidPrefix", true)] (sAsg 4 (eIf (eOp oEqX (eVarB 2) (eC (.int 0))) (eCall D_first_difference (eCons (eVar 0) (eCons (eVar 1) eNil))) (eCall D_same_meaning (eCons (eVar 0) (eCons (eVar 1) eNil))))))
    (sSeq (sIf (eOp oIsN (eVarB 3) (eC .non)) (sRet (eVar 4)) sSkip)
    (sSeq (sIf (eB (bIsiZ Zt) (eCons (eVarB 3) (eCons (eTup (eCons (eC (.cls "InvalidAddress")) (eCons (eC (.cls "InvalidMap")) (eCons (eC (.cls "InvalidPrefix")) eNil)))) eNil))) (sRet (eC (.str "other"))) sSkip)
    (sRet (eIf (eB (bIsiZ Zt) (eCons (eVarB 3) (eCons (eC (.cls "InvalidPair")) eNil))) (eC (.str "pair")) (eC (.str "other")))))))))
def D__law_outcome : DF := run ["one", "two", "road", "caught", "found", "e"] ["one", "two", "road"] m__law_outcome
theorem bd__law_outcome (T : Txt K mg) (c_first_difference : Fn P wd K mg base 6 "first_difference" D_first_difference) (c_same_meaning : Fn P wd K mg base 7 "same_meaning" D_same_meaning) (W : WX) : PSl P wd K mg base 7 ["one", "two", "road", "caught", "found", "e"] ⟨defScope s__law_outcome, fun _ => true⟩ W (defBody s__law_outcome) m__law_outcome :=
    (ps_cons' (ps_asg' 3 sc__law_outcome.nd pr_non)
    (ps_cons' (ps_asg' 4 sc__law_outcome.nd pr_non)
    (ps_cons' (ps_tryK (CA_RouteError T) sc__law_outcome.nd (fun W => (ps_one' (ps_asg' 4 sc__law_outcome.nd (pr_if (pt_eqX (pb_var 2) (PR.b pr_int)) (pr_call c_first_difference (pa_cons' (pr_var 0) (pa_cons' (pr_var 1) pa_nil')) (hk := by omega)) (pr_call c_same_meaning (pa_cons' (pr_var 0) (pa_cons' (pr_var 1) pa_nil')) (hk := by omega)))))))
    (ps_cons' (ps_if' (pt_isN (pb_var 3) (PR.b pr_non)) (ps_one' (ps_ret' (pr_var 4))) ps_nil')
    (ps_cons' (ps_if' (pt_val' (pr_isiZ (AZ T) T.b_isinstance (pb_cons (pb_var 3) (pb_cons (PR.b (pr_tup (pa_cons' (pr_cls T.mk_InvalidAddress) (pa_cons' (pr_cls T.mk_InvalidMap) (pa_cons' (pr_cls T.mk_InvalidPrefix) pa_nil'))))) pb_nil)))) (ps_one' (ps_ret' pr_str)) ps_nil')
    (ps_one' (ps_ret' (pr_if (pt_val' (pr_isiZ (AZ T) T.b_isinstance (pb_cons (pb_var 3) (pb_cons (PR.b (pr_cls T.mk_InvalidPair)) pb_nil)))) pr_str pr_str))))))))
theorem fn__law_outcome (T : Txt K mg) (h : HF K mg "_law_outcome" s__law_outcome) (c_first_difference : Fn P wd K mg base 6 "first_difference" D_first_difference) (c_same_meaning : Fn P wd K mg base 7 "same_meaning" D_same_meaning) : Fn P wd K mg base 8 "_law_outcome" D__law_outcome :=
  fn_ok h sc__law_outcome (fun _ _ _ _ _ _ us hl => match us, hl with | [_, _, _], _ => rfl) (fun W => bd__law_outcome T c_first_difference c_same_meaning W)

/-! law -/
abbrev s_law : Stmt := top 33
theorem sc_law : FnScope ["script", "pen", "turn", "size", "more", "lines", "one", "two", "twin", "dues", "road", "found"] ["script"] (defScope s_law) := ⟨rfl, rfl, rfl, by decide +kernel, rfl, by decide +kernel, by decide +kernel⟩
def B_law_1 : SM :=
    (sSeq (sAsg 11 (eLst (eCons (eCall D__law_outcome (eCons (eVar 6) (eCons (eVar 8) (eCons (eVar 10) eNil)))) (eCons (eCall D__law_outcome (eCons (eVar 6) (eCons (eVar 7) (eCons (eVar 10) eNil)))) (eCons (eCall D__law_outcome (eCons (eVar 7) (eCons (eVar 6) (eCons (eVar 10) eNil)))) eNil)))))
    (sIf (eOp oNeX (eB bRepr (eCons (eVarB 11) eNil)) (eB bRepr (eCons (eOp oIxX (eVarB 9) (eVarB 10)) eNil))) (sRet (eC (.bl false))) sSkip))
def B_law_2 : SM :=
    (sSeq (sPar3 6 7 8 (eCons (eMake "Table" D_PrefixMap___init__ (eCons (eVar 3) (eCons (eVar 5) eNil))) (eCons (eMake "Table" D_PrefixMap___init__ (eCons (eVar 4) (eCons (eVar 5) eNil))) (eCons (eMake "Table" D_PrefixMap___init__ (eCons (eVar 3) (eCons (eVar 5) eNil))) eNil))))
    (sSeq (sAsg 9 (eLst (eCons (eLst (eCons (eC .non) (eCons (eC (.str "pair")) (eCons (eC (.str "pair")) eNil)))) (eCons (eLst (eCons (eC (.bl true)) (eCons (eC (.str "pair")) (eCons (eC (.str "pair")) eNil)))) eNil))))
    (sSeq (sFor (eRng1 (eCons (eC (.int 2)) eNil)) (gN 10)
    B_law_1)
    (sIf (eOr (eEqO true [("PrefixMap", ["PrefixMap"], D_PrefixMap___eq__), ("Table", ["PrefixMap", "Table"], D_PrefixMap___eq__)] (eVar 6) (eVar 8)) (eOr (eEqO true [("PrefixMap", ["PrefixMap"], D_PrefixMap___eq__), ("Table", ["PrefixMap", "Table"], D_PrefixMap___eq__)] (eVar 7) (eMake "Table" D_PrefixMap___init__ (eCons (eVar 4) (eCons (eVar 5) eNil)))) (eEqO false [("PrefixMap", ["PrefixMap"], D_PrefixMap___eq__), ("Table", ["PrefixMap", "Table"], D_PrefixMap___eq__)] (eVar 6) (eVar 7)))) (sRet (eC (.bl false))) sSkip))))
def B_law_3 : SM :=
    (sSeq (sAsg 3 (eOp oAdd (eC (.int 1)) (eCall D__law_draw (eCons (eVar 1) (eCons (eC (.int 31)) eNil)))))
    (sSeq (sAsg 4 (eOp oAdd (eOp oAdd (eVarB 3) (eC (.int 1))) (eCall D__law_draw (eCons (eVar 1) (eCons (eOp oSub (eC (.int 32)) (eVarB 3)) eNil)))))
    (sFor (eIterX (eTup (eCons (eCall D__law_lines (eCons (eVar 1) (eCons (eVar 3) (eCons (eC (.int 4)) eNil)))) (eCons eDnew (eCons (eDisp [((eC (.str "")), (eC (.str "a")))]) eNil))))) (gN 5)
    B_law_2)))
def m_law : SM :=
    (sSeq (sAsg 1 (eCall D__law_pen (eCons (eVar 0) eNil)))
    (sSeq (sFor (eRng1 (eCons (eC (.int 6)) eNil)) (gN 2)
    B_law_3)
    (sRet (eC (.bl true)))))
def D_law : DF := run ["script", "pen", "turn", "size", "more", "lines", "one", "two", "twin", "dues", "road", "found"] ["script"] m_law
theorem bd_law (T : Txt K mg) (c__law_pen : Fn P wd K mg base 1 "_law_pen" D__law_pen) (c__law_draw : Fn P wd K mg base 2 "_law_draw" D__law_draw) (c__law_lines : Fn P wd K mg base 5 "_law_lines" D__law_lines) (c__law_outcome : Fn P wd K mg base 8 "_law_outcome" D__law_outcome) (c_PrefixMap___init__ : FnA P wd K mg base 5 (cM K "PrefixMap" "__init__") D_PrefixMap___init__) (c_PrefixMap___eq__ : FnA P wd K mg base 3 (cM K "PrefixMap" "__eq__") D_PrefixMap___eq__) (W : WX) : PSl P wd K mg base 8 ["script", "pen", "turn", "size", "more", "lines", "one", "two", "twin", "dues", "road", "found"] ⟨defScope s_law, fun _ => true⟩ W (defBody s_law) m_law :=
    (ps_cons' (ps_asg' 1 sc_law.nd (pr_call c__law_pen (pa_cons' (pr_var 0) pa_nil') (hk := by omega)))
    (ps_cons' (ps_for' (pi_rng1 T.b_range (pa_cons' pr_int pa_nil')) (pg_name' 2 sc_law.nd)
    (ps_cons' (ps_asg' 3 sc_law.nd (pr_add (PR.b pr_int) (PR.b (pr_call c__law_draw (pa_cons' (pr_var 1) (pa_cons' pr_int pa_nil')) (hk := by omega)))))
    (ps_cons' (ps_asg' 4 sc_law.nd (pr_add (PR.b (pr_add (pb_var 3) (PR.b pr_int))) (PR.b (pr_call c__law_draw (pa_cons' (pr_var 1) (pa_cons' (pr_sub (PR.b pr_int) (pb_var 3)) pa_nil')) (hk := by omega)))))
    (ps_one' (ps_for' (pi_anyx (pr_tup (pa_cons' (pr_call c__law_lines (pa_cons' (pr_var 1) (pa_cons' (pr_var 3) (pa_cons' pr_int pa_nil'))) (hk := by omega)) (pa_cons' pr_dnew (pa_cons' (pr_disp (.cons pr_str pr_str .nil)) pa_nil'))))) (pg_name' 5 sc_law.nd)
    (ps_cons' (ps_par3' 6 7 8 sc_law.nd (pa_cons' (pr_make "Table" (makeOK (k := 5) T.mk_Table T.mi_Table c_PrefixMap___init__) (pa_cons' (pr_var 3) (pa_cons' (pr_var 5) pa_nil'))) (pa_cons' (pr_make "Table" (makeOK (k := 5) T.mk_Table T.mi_Table c_PrefixMap___init__) (pa_cons' (pr_var 4) (pa_cons' (pr_var 5) pa_nil'))) (pa_cons' (pr_make "Table" (makeOK (k := 5) T.mk_Table T.mi_Table c_PrefixMap___init__) (pa_cons' (pr_var 3) (pa_cons' (pr_var 5) pa_nil'))) pa_nil'))) (hw := (fun env h => by obtain ⟨_, _, _, _, _, _, _, _, _⟩ := env; cases h; rfl)))
    (ps_cons' (ps_asg' 9 sc_law.nd (pr_lst (pa_cons' (pr_lst (pa_cons' pr_non (pa_cons' pr_str (pa_cons' pr_str pa_nil')))) (pa_cons' (pr_lst (pa_cons' pr_bl (pa_cons' pr_str (pa_cons' pr_str pa_nil')))) pa_nil'))))
    (ps_cons' (ps_for' (pi_rng1 T.b_range (pa_cons' pr_int pa_nil')) (pg_name' 10 sc_law.nd)
    (ps_cons' (ps_asg' 11 sc_law.nd (pr_lst (pa_cons' (pr_call c__law_outcome (pa_cons' (pr_var 6) (pa_cons' (pr_var 8) (pa_cons' (pr_var 10) pa_nil'))) (hk := by omega)) (pa_cons' (pr_call c__law_outcome (pa_cons' (pr_var 6) (pa_cons' (pr_var 7) (pa_cons' (pr_var 10) pa_nil'))) (hk := by omega)) (pa_cons' (pr_call c__law_outcome (pa_cons' (pr_var 7) (pa_cons' (pr_var 6) (pa_cons' (pr_var 10) pa_nil'))) (hk := by omega)) pa_nil')))))
    (ps_one' (ps_if' (pt_neX (PR.b (pr_repr T.b_repr (pb_cons (pb_var 11) pb_nil))) (PR.b (pr_repr T.b_repr (pb_cons (PR.b (pr_ixx (pb_var 9) (pb_var 10))) pb_nil)))) (ps_one' (ps_ret' pr_bl)) ps_nil'))))
    (ps_one' (ps_if' (pt_w (pw_or' (pt_eqO true (j := 3) (all_consE (eqOK T.eq_PrefixMap T.en_PrefixMap T.eo_PrefixMap (fld_cons T.nf_PrefixMap_PrefixMap fld_nil) c_PrefixMap___eq__) (all_consE (eqOK T.eq_Table T.en_Table T.eo_Table (fld_cons T.nf_Table_PrefixMap (fld_cons T.nf_Table_Table fld_nil)) c_PrefixMap___eq__) all_nilE)) (pr_var 6) (pr_var 8)) (pw_or' (pt_eqO true (j := 3) (all_consE (eqOK T.eq_PrefixMap T.en_PrefixMap T.eo_PrefixMap (fld_cons T.nf_PrefixMap_PrefixMap fld_nil) c_PrefixMap___eq__) (all_consE (eqOK T.eq_Table T.en_Table T.eo_Table (fld_cons T.nf_Table_PrefixMap (fld_cons T.nf_Table_Table fld_nil)) c_PrefixMap___eq__) all_nilE)) (pr_var 7) (pr_make "Table" (makeOK (k := 5) T.mk_Table T.mi_Table c_PrefixMap___init__) (pa_cons' (pr_var 4) (pa_cons' (pr_var 5) pa_nil')))) (pw_or1' (pt_eqO false (j := 3) (all_consE (eqOK T.eq_PrefixMap T.en_PrefixMap T.eo_PrefixMap (fld_cons T.nf_PrefixMap_PrefixMap fld_nil) c_PrefixMap___eq__) (all_consE (eqOK T.eq_Table T.en_Table T.eo_Table (fld_cons T.nf_Table_PrefixMap (fld_cons T.nf_Table_Table fld_nil)) c_PrefixMap___eq__) all_nilE)) (pr_var 6) (pr_var 7)))))) (ps_one' (ps_ret' pr_bl)) ps_nil'))))))))))
    (ps_one' (ps_ret' pr_bl))))

end
end DL
/-! plain: wishes -/
namespace DL
open PySem L2
/-- an expression gives what is wished -/
def Ev (r : ER) (Q : D → Store → Prop) : Prop := ∃ d s, r = .ok d s ∧ Q d s
theorem Ev.of {r : ER} {Q : D → Store → Prop} {d : D} {s : Store} (h : r = .ok d s) (q : Q d s) : Ev r Q := ⟨d, s, h, q⟩
theorem Ev.imp {r : ER} {P Q : D → Store → Prop} (h : Ev r P) (q : ∀ d s, P d s → Q d s) : Ev r Q := let ⟨d, s, e, p⟩ := h; ⟨d, s, e, q d s p⟩
@[simp] theorem Ev.ok {d : D} {s : Store} {Q : D → Store → Prop} : Ev (.ok d s) Q ↔ Q d s := ⟨fun ⟨_, _, e, q⟩ => by cases e; exact q, fun q => ⟨_, _, rfl, q⟩⟩
@[simp] theorem Ev.bind {r : ER} {f : D → Store → ER} {Q : D → Store → Prop} : Ev (r.bind f) Q ↔ Ev r fun d s => Ev (f d s) Q := by
  constructor
  · intro h
    cases r with
    | ok d s => exact Ev.ok.mpr h
    | err x s => obtain ⟨d, s', e, _⟩ := h; cases e
    | no => obtain ⟨d, s', e, _⟩ := h; cases e
  · intro h
    obtain ⟨d, s, rfl, q⟩ := h; exact q
/-- what is wished behind a statement -/
structure Ws where
  nx : DEnv → Store → Prop := fun _ _ => False
  rt : D → Store → Prop := fun _ _ => False
  bk : DEnv → Store → Prop := fun _ _ => False
  ct : DEnv → Store → Prop := fun _ _ => False
  er : Xn → DEnv → Store → Prop := fun _ _ _ => False
inductive Rn : SR → Ws → Prop
  | nx {Γ : DEnv} {s : Store} {w : Ws} (h : w.nx Γ s) : Rn (.nx Γ s) w
  | ret {d : D} {s : Store} {w : Ws} (h : w.rt d s) : Rn (.ret d s) w
  | bk {Γ : DEnv} {s : Store} {w : Ws} (h : w.bk Γ s) : Rn (.bk Γ s) w
  | ct {Γ : DEnv} {s : Store} {w : Ws} (h : w.ct Γ s) : Rn (.ct Γ s) w
  | err {x : Xn} {Γ : DEnv} {s : Store} {w : Ws} (h : w.er x Γ s) : Rn (.err x Γ s) w
section
variable {Γ : DEnv} {st s : Store} {w : Ws} {a b : SM} {m mi mc me mo mt : EM} {i j : Nat}
theorem Rn.imp {r : SR} {w' : Ws} (h : Rn r w) (h1 : ∀ Γ s, w.nx Γ s → w'.nx Γ s) (h2 : ∀ d s, w.rt d s → w'.rt d s) (h3 : ∀ Γ s, w.bk Γ s → w'.bk Γ s) (h4 : ∀ Γ s, w.ct Γ s → w'.ct Γ s) (h5 : ∀ x Γ s, w.er x Γ s → w'.er x Γ s) : Rn r w' := by
  cases h with
  | nx h => exact .nx (h1 _ _ h)
  | ret h => exact .ret (h2 _ _ h)
  | bk h => exact .bk (h3 _ _ h)
  | ct h => exact .ct (h4 _ _ h)
  | err h => exact .err (h5 _ _ _ h)
theorem Rn.of {r : SR} (h : r = .nx Γ s) (q : w.nx Γ s) : Rn r w := by subst h; exact .nx q
theorem w_seq (h : Rn (a Γ st) { w with nx := fun Γ' s => Rn (b Γ' s) w }) : Rn (sSeq a b Γ st) w := by
  show Rn ((a Γ st).bind b) w
  generalize a Γ st = r at h
  cases h with
  | nx h => exact h
  | ret h => exact .ret h
  | bk h => exact .bk h
  | ct h => exact .ct h
  | err h => exact .err h
theorem w_skip (h : w.nx Γ st) : Rn (sSkip Γ st) w := .nx h
theorem w_ev {f : D → Store → SR} (h : Ev (m Γ st) fun d s => Rn (f d s) w) : Rn ((m Γ st).bs Γ f) w := by
  obtain ⟨d, s, e, q⟩ := h
  rw [e]; exact q
theorem w_asg (h : Ev (m Γ st) fun d s => w.nx (Γ.set i (.sh d)) s) : Rn (sAsg i m Γ st) w := w_ev (h.imp fun _ _ q => .nx q)
theorem w_new (h : Ev (m Γ st) fun d s => w.nx (Γ.set i (.ow d)) s) : Rn (sNew i m Γ st) w := w_ev (h.imp fun _ _ q => .nx q)
theorem w_ret (h : Ev (m Γ st) fun d s => w.rt d s) : Rn (sRet m Γ st) w := w_ev (h.imp fun _ _ q => .ret q)
theorem w_drop (h : Ev (m Γ st) fun _ s => w.nx Γ s) : Rn (sDrop m Γ st) w := w_ev (h.imp fun _ _ q => .nx q)
/-- assignment of a value that is known, then the rest -/
theorem w_as {d : D} (e : m Γ st = .ok d s) (h : Rn (b (Γ.set i (.sh d)) s) w) : Rn (sSeq (sAsg i m) b Γ st) w := w_seq (w_asg (Ev.of e h))
theorem w_if {c : Bool} (hc : mc Γ st = .ok (.bl c) s) (h : Rn ((if c = true then a else b) Γ s) w) : Rn (sIf mc a b Γ st) w := by
  refine w_ev (Ev.of hc ?_)
  cases c with
  | true => exact h
  | false => exact h
theorem w_ifT (hc : mc Γ st = .ok (.bl true) s) (h : Rn (a Γ s) w) : Rn (sIf mc a b Γ st) w := w_if hc h
theorem w_ifF (hc : mc Γ st = .ok (.bl false) s) (h : Rn (b Γ s) w) : Rn (sIf mc a b Γ st) w := w_if hc h
theorem w_ifE (h : Ev (mc Γ st) fun d s => ∃ c, d = .bl c ∧ (c = true → Rn (a Γ s) w) ∧ (c = false → Rn (b Γ s) w)) : Rn (sIf mc a b Γ st) w := by
  obtain ⟨d, s, e, c, rfl, q1, q2⟩ := h
  refine w_if e ?_
  cases c with
  | true => exact q1 rfl
  | false => exact q2 rfl
theorem w_frz (h : Rn (a (frz i Γ) st) w) : Rn (sFrz i a Γ st) w := h
theorem w_frzX (h : Rn (a (frzX i Γ) st) w) : Rn (sFrzX i a Γ st) w := h
theorem w_app {xs : List D} (hi : Γ[i]? = some (.ow (.lst xs))) (hl : xs.length < 16777216) (h : Ev (m Γ st) fun d s => w.nx (Γ.set i (.ow (.lst (xs ++ [d])))) s) : Rn (sApp i m Γ st) w := by
  obtain ⟨d, s, e, q⟩ := h
  unfold sApp
  rw [hi, e]
  show Rn (if xs.length < 16777216 then .nx (Γ.set i (.ow (.lst (xs ++ [d])))) s else .no) w
  rw [if_pos hl]; exact .nx q
@[simp] theorem eKw_ap {n k : Nat} {ix : List Nat} {dl : List D} {ms mk : EM} : eKw n k ix dl ms mk Γ st = (ms Γ st).bind fun d s => match d with
  | .tup ds => (mk Γ s).bind fun e s2 => match e with
    | .tup es => if ds.length = n ∧ es.length = k then .ok (.tup (pk ix (ds ++ es ++ dl))) s2 else .no
    | _ => .no
  | _ => .no := rfl
@[simp] theorem pk_n {α : Type} (l : List α) : pk [] l = [] := rfl
@[simp] theorem pk_c {α : Type} {i : Nat} {ix : List Nat} {l : List α} : pk (i :: ix) l = match l[i]? with | some x => x :: pk ix l | none => pk ix l := by
  cases h : l[i]? with
  | none => exact pk_cons_none h
  | some x => exact pk_cons_some h
@[simp] theorem sFrzX_ap : sFrzX i a Γ st = a (frzX i Γ) st := rfl
@[simp] theorem frzX_own {d : D} (h : Γ[i]? = some (.ow d)) : frzX i Γ = Γ.set i (.sh d) := by unfold frzX; rw [h]
/-- a for by an invariant -/
theorem forL_w {α : Type} {ι : α → D} {g : GM} {l : List α} {w : Ws} (I : Nat → DEnv → Store → Prop)
    (hs : ∀ (j : Nat) (x : α), l[j]? = some x → ∀ Γ st, I j Γ st → ∃ Γ1, g (ι x) Γ = some Γ1 ∧ Rn (b Γ1 st) { nx := I (j + 1), ct := I (j + 1), bk := w.nx, rt := w.rt, er := w.er })
    (hd : ∀ Γ st, I l.length Γ st → w.nx Γ st) : ∀ (es : List α) (j : Nat) (Γ : DEnv) (st : Store), l.drop j = es → j + es.length = l.length → I j Γ st → Rn (forL g b (es.map ι) Γ st) w := by
  intro es
  induction es with
  | nil =>
    intro j Γ st e q i
    have : j = l.length := by simpa using q
    subst this; exact .nx (hd _ _ i)
  | cons d es ih =>
    intro j Γ st e q i
    have hj : l[j]? = some d := by
      have := congrArg List.head? e
      simpa [List.head?_drop] using this
    obtain ⟨Γ1, g1, r⟩ := hs j d hj Γ st i
    have e2 : l.drop (j + 1) = es := by rw [← List.drop_drop, e]; rfl
    have q2 : j + 1 + es.length = l.length := by simp at q; omega
    rw [List.map_cons]
    unfold forL
    rw [g1]
    dsimp only
    generalize b Γ1 st = rb at r
    cases r with
    | nx r => exact ih (j + 1) _ _ e2 q2 r
    | ct r => exact ih (j + 1) _ _ e2 q2 r
    | bk r => exact .nx (by exact r)
    | ret r => exact .ret r
    | err r => exact .err r
theorem w_for {α : Type} (ι : α → D) (l : List α) {g : GM} (I : Nat → DEnv → Store → Prop) (hm : mi Γ st = .ok (.tup (l.map ι)) s) (h0 : I 0 Γ s)
    (hs : ∀ (j : Nat) (x : α), l[j]? = some x → ∀ Γ st, I j Γ st → ∃ Γ1, g (ι x) Γ = some Γ1 ∧ Rn (b Γ1 st) { nx := I (j + 1), ct := I (j + 1), bk := w.nx, rt := w.rt, er := w.er })
    (hd : ∀ Γ st, I l.length Γ st → w.nx Γ st) : Rn (sFor mi g b Γ st) w :=
  w_ev (Ev.of hm (forL_w I hs hd l 0 Γ s rfl (by simp) h0))
/-- a for over a list whose making is a wish itself -/
theorem w_forE {α : Type} (ι : α → D) {g : GM} (h : Ev (mi Γ st) fun d s => ∃ (l : List α) (I : Nat → DEnv → Store → Prop), d = .tup (l.map ι) ∧ I 0 Γ s ∧
    (∀ (j : Nat) (x : α), l[j]? = some x → ∀ Γ st, I j Γ st → ∃ Γ1, g (ι x) Γ = some Γ1 ∧ Rn (b Γ1 st) { nx := I (j + 1), ct := I (j + 1), bk := w.nx, rt := w.rt, er := w.er }) ∧
    (∀ Γ st, I l.length Γ st → w.nx Γ st)) : Rn (sFor mi g b Γ st) w := by
  obtain ⟨d, s, e, l, I, rfl, h0, hs, hd⟩ := h
  exact w_for ι l I e h0 hs hd
theorem rng_upto (n : Nat) : rng 0 1 n = (List.range n).map fun j : Nat => D.int (j : Int) := by
  refine List.ext_getElem? fun j => ?_
  by_cases h : j < n
  · rw [rng_get h, List.getElem?_map, List.getElem?_range h]; simp
  · rw [List.getElem?_eq_none (by rw [rng_length]; omega), List.getElem?_eq_none (by simp; omega)]
theorem rng1 {ma : EM} {n : Nat} (h : ma Γ st = .ok (.tup [.int n]) s) (hn : n < 4294967296 := by omega) : eRng1 ma Γ st = .ok (.tup ((List.range n).map fun j : Nat => D.int (j : Int))) s := by
  rw [eRng1_n h hn, rng_upto]
/-- for k in range(n) -/
theorem w_rng {g : GM} {ma : EM} (n : Nat) (I : Nat → DEnv → Store → Prop) (hm : ma Γ st = .ok (.tup [.int n]) s) (hn : n < 4294967296) (h0 : I 0 Γ s)
    (hs : ∀ (j : Nat), j < n → ∀ Γ st, I j Γ st → ∃ Γ1, g (.int j) Γ = some Γ1 ∧ Rn (b Γ1 st) { nx := I (j + 1), ct := I (j + 1), bk := w.nx, rt := w.rt, er := w.er })
    (hd : ∀ Γ st, I n Γ st → w.nx Γ st) : Rn (sFor (eRng1 ma) g b Γ st) w :=
  w_for (fun j : Nat => .int (j : Int)) (List.range n) I (rng1 hm hn) h0 (fun j x hx Γ st i => by
    have hj : j < n := by have := getElem?_lt hx; simpa using this
    rw [List.getElem?_range hj] at hx
    cases hx; exact hs j hj Γ st i) (fun Γ st i => hd Γ st (by simpa using i))
/-- a comprehension with a test, that changes nothing -/
theorem lcL_filt {α : Type} {ι : α → D} {g : GM} {mt me : EM} {p : α → Bool} {f : α → D} : ∀ {l : List α}, (∀ x ∈ l, ∃ Γ1, g (ι x) Γ = some Γ1 ∧ mt Γ1 st = .ok (.bl (p x)) st ∧ (p x = true → me Γ1 st = .ok (f x) st)) →
    ∀ acc, acc.length + l.length ≤ 16777216 → lcL g mt me (l.map ι) Γ st acc = .ok (.lst (acc ++ (l.filter p).map f)) st
  | [], _, acc, _ => by simp [lcL]
  | x :: l, h, acc, hl => by
    obtain ⟨Γ1, h1, h2, h3⟩ := h x List.mem_cons_self
    have hlt : acc.length < 16777216 := by simp at hl; omega
    have ih := fun acc q => lcL_filt (l := l) (fun y hy => h y (List.mem_cons_of_mem _ hy)) acc q
    rw [List.map_cons]
    unfold lcL
    rw [h1]
    dsimp only
    rw [h2]
    cases hp : p x with
    | true =>
      dsimp only
      rw [h3 hp]
      dsimp only
      rw [if_pos hlt, ih (acc ++ [f x]) (by simp at hl ⊢; omega)]
      simp [List.filter_cons, hp]
    | false =>
      dsimp only
      rw [ih acc (by simp at hl ⊢; omega)]
      simp [List.filter_cons, hp]
theorem lc_filt {α : Type} (ι : α → D) (l : List α) (p : α → Bool) (f : α → D) {vs : List Nat} {g : GM} (hm : mi Γ st = .ok (.tup (l.map ι)) s) (hl : l.length ≤ 16777216)
    (h : ∀ x ∈ l, ∃ Γ1, g (ι x) (wipeE Γ vs) = some Γ1 ∧ mt Γ1 s = .ok (.bl (p x)) s ∧ (p x = true → me Γ1 s = .ok (f x) s)) : eLc vs mi g mt me Γ st = .ok (.lst ((l.filter p).map f)) s := by
  rw [eLc_of hm, lcL_filt h [] (by simpa using hl)]; rfl
theorem lc_map {α : Type} (ι : α → D) (l : List α) (f : α → D) {vs : List Nat} {g : GM} (hm : mi Γ st = .ok (.tup (l.map ι)) s) (hl : l.length ≤ 16777216)
    (h : ∀ x ∈ l, ∃ Γ1, g (ι x) (wipeE Γ vs) = some Γ1 ∧ me Γ1 s = .ok (f x) s) : eLc vs mi g eYes me Γ st = .ok (.lst (l.map f)) s := by
  have := lc_filt ι l (fun _ => true) f (mt := eYes) (me := me) (vs := vs) (g := g) hm hl (fun x hx => let ⟨Γ1, a, b⟩ := h x hx; ⟨Γ1, a, rfl, fun _ => b⟩)
  rw [this, List.filter_eq_self.mpr (fun _ _ => rfl)]
/-- for range -/
theorem lc_rng {ma : EM} (n : Nat) (f : Nat → D) {vs : List Nat} {g : GM} (hm : ma Γ st = .ok (.tup [.int n]) s) (hl : n ≤ 16777216)
    (h : ∀ j < n, ∃ Γ1, g (.int (j : Int)) (wipeE Γ vs) = some Γ1 ∧ me Γ1 s = .ok (f j) s) : eLc vs (eRng1 ma) g eYes me Γ st = .ok (.lst ((List.range n).map f)) s :=
  lc_map (fun j : Nat => .int (j : Int)) (List.range n) f (rng1 hm (by omega)) (by simpa using hl) (fun x hx => h x (by simpa using hx))
/-- a comprehension that draws -/
theorem lcL_gen {α β : Type} {ι : α → D} {κ : β → D} {R : α → β → Prop} {g : GM} {me : EM} : ∀ {l : List α} (I : Nat → Store → Prop), (∀ (j : Nat) (x : α), l[j]? = some x → ∀ st, I j st → ∃ Γ1, g (ι x) Γ = some Γ1 ∧ Ev (me Γ1 st) fun d s => ∃ y, d = κ y ∧ R x y ∧ I (j + 1) s) →
    ∀ st acc, I 0 st → acc.length + l.length ≤ 16777216 → ∃ ys st', lcL g eYes me (l.map ι) Γ st acc = .ok (.lst (acc ++ ys.map κ)) st' ∧ I l.length st' ∧ Paired R l ys
  | [], I, _, st, acc, i, _ => ⟨[], st, by simp [lcL], i, .nil⟩
  | x :: l, I, h, st, acc, i, hl => by
    obtain ⟨Γ1, h1, d, st2, h2, y, rfl, r, i2⟩ := h 0 x rfl st i
    obtain ⟨ys, st', h3, i3, e3⟩ := lcL_gen (l := l) (fun j => I (j + 1)) (fun j d hd => h (j + 1) d hd) st2 (acc ++ [κ y]) i2 (by simp at hl ⊢; omega)
    have hlt : acc.length < 16777216 := by simp at hl; omega
    refine ⟨y :: ys, st', ?_, i3, .cons r e3⟩
    rw [List.map_cons]
    unfold lcL
    rw [h1]
    show (match me Γ1 st with | .ok x s2 => (if acc.length < 16777216 then lcL g eYes me (l.map ι) Γ s2 (acc ++ [x]) else .no) | _ => .no) = _
    rw [h2]
    show (if acc.length < 16777216 then lcL g eYes me (l.map ι) Γ st2 (acc ++ [κ y]) else .no) = _
    rw [if_pos hlt, h3]; simp
theorem e_lc {α β : Type} (ι : α → D) (κ : β → D) (l : List α) (R : α → β → Prop) (I : Nat → Store → Prop) {vs : List Nat} {g : GM} {Q : D → Store → Prop} (hm : mi Γ st = .ok (.tup (l.map ι)) s) (hl : l.length ≤ 16777216) (h0 : I 0 s)
    (h : ∀ (j : Nat) (x : α), l[j]? = some x → ∀ st, I j st → ∃ Γ1, g (ι x) (wipeE Γ vs) = some Γ1 ∧ Ev (me Γ1 st) fun d s => ∃ y, d = κ y ∧ R x y ∧ I (j + 1) s)
    (hq : ∀ ys s', Paired R l ys → I l.length s' → Q (.lst (ys.map κ)) s') : Ev (eLc vs mi g eYes me Γ st) Q := by
  obtain ⟨ys, s', e, i, r⟩ := lcL_gen I h s [] h0 (by simpa using hl)
  exact ⟨_, _, by rw [eLc_of hm, e]; rfl, hq ys s' r i⟩
theorem e_rng {β : Type} {ma : EM} (κ : β → D) (n : Nat) (R : Nat → β → Prop) (I : Nat → Store → Prop) {vs : List Nat} {g : GM} {Q : D → Store → Prop} (hm : ma Γ st = .ok (.tup [.int n]) s) (hl : n ≤ 16777216) (h0 : I 0 s)
    (h : ∀ (j : Nat), j < n → ∀ st, I j st → ∃ Γ1, g (.int (j : Int)) (wipeE Γ vs) = some Γ1 ∧ Ev (me Γ1 st) fun d s => ∃ y, d = κ y ∧ R j y ∧ I (j + 1) s)
    (hq : ∀ ys s', Paired R (List.range n) ys → I n s' → Q (.lst (ys.map κ)) s') : Ev (eLc vs (eRng1 ma) g eYes me Γ st) Q :=
  e_lc (fun j : Nat => .int (j : Int)) κ (List.range n) R I (rng1 hm (by omega)) (by simpa using hl) h0 (fun j x hx st i => by
    have hj : j < n := by have := getElem?_lt hx; simpa using this
    rw [List.getElem?_range hj] at hx
    cases hx; exact h j hj st i) (fun ys s' r i => hq ys s' r (by simpa using i))
theorem pd_len {α β : Type} {R : α → β → Prop} {l : List α} {ys : List β} (h : Paired R l ys) : ys.length = l.length := by
  induction h with
  | nil => rfl
  | cons _ _ ih => simp [ih]
theorem pd_all {α β : Type} {R : α → β → Prop} {l : List α} {ys : List β} (h : Paired R l ys) : ∀ y ∈ ys, ∃ x ∈ l, R x y := by
  induction h with
  | nil => intro y hy; simp at hy
  | cons r _ ih =>
    intro y hy
    rcases List.mem_cons.mp hy with rfl | hy
    · exact ⟨_, List.mem_cons_self, r⟩
    · obtain ⟨x, hx, r⟩ := ih y hy
      exact ⟨x, List.mem_cons_of_mem _ hx, r⟩
theorem pd_map {α β γ : Type} {R : α → β → Prop} {f : β → γ} {h : α → γ} {l : List α} {ys : List β} (p : Paired R l ys) (q : ∀ x y, R x y → f y = h x) : ys.map f = l.map h := by
  induction p with
  | nil => rfl
  | cons r _ ih => simp [ih, q _ _ r]
theorem e_b1 {f : List D → Store → ER} {Q : D → Store → Prop} (h : Ev (m Γ st) fun d s => Ev (f [deref s d] s) Q) : Ev (eB f (eCons m eNil) Γ st) Q := by
  obtain ⟨d, s, e, q⟩ := h
  show Ev (((m Γ st).bind fun d s => (eNil Γ s).bind fun r s2 => match r with | .tup ds => .ok (.tup (d :: ds)) s2 | _ => .no).bind fun d s => match d with | .tup ds => f (ds.map (deref s)) s | _ => .no) Q
  rw [e]; exact q
/-- a call -/
theorem fin_rt {r : SR} {Q : D → Store → Prop} (h : Rn r { rt := Q, nx := fun _ s => Q .non s }) : Ev (fin r) Q := by
  cases h with
  | nx h => exact ⟨_, _, rfl, h⟩
  | ret h => exact ⟨_, _, rfl, h⟩
  | bk h => exact h.elim
  | ct h => exact h.elim
  | err h => exact h.elim
/-- a call, its first frame written out -/
theorem e_runΓ {N ps : List Str} {m : SM} {ds : List D} {Q : D → Store → Prop} (Γ : DEnv) (hi : initE N ds = Γ) (hl : ds.length = ps.length) (h : Rn (m Γ st) { rt := Q, nx := fun _ s => Q .non s }) : Ev (run N ps m ds st) Q := by
  subst hi
  unfold run
  rw [if_pos hl]
  exact fin_rt h
theorem e_run {N ps : List Str} {m : SM} {ds : List D} {Q : D → Store → Prop} (hl : ds.length = ps.length) (h : Rn (m (initE N ds) st) { rt := Q, nx := fun _ s => Q .non s }) : Ev (run N ps m ds st) Q := by
  unfold run
  rw [if_pos hl]
  exact fin_rt h
end
end DL
/-! plain: dicts of texts -/
namespace DL
open PySem L2
abbrev KV := List (Str × D)
def Fd (l : KV) : List (Key × D) := l.map fun p => (.inr p.1, p.2)
def ks (l : KV) : List Str := l.map (·.1)
def valS (l : KV) (k : Str) : Option D := (l.find? fun p => decide (p.1 = k)).map (·.2)
def putS (l : KV) (k : Str) (v : D) : KV := if k ∈ ks l then l.map (fun p => if p.1 = k then (p.1, v) else p) else l ++ [(k, v)]
def mergeS (l m : KV) : KV := m.foldl (fun a p => putS a p.1 p.2) l
theorem inr_eq {a b : Str} : ((.inr a : Key) = .inr b) ↔ a = b := ⟨fun h => by cases h; rfl, fun h => by rw [h]⟩
theorem mem_ks {l : KV} {k : Str} : k ∈ ks l ↔ ∃ v, (k, v) ∈ l := by unfold ks; simp
theorem Fd_any (l : KV) (k : Str) : ((Fd l).any fun kv => decide (kv.1 = (.inr k : Key))) = decide (k ∈ ks l) := by
  unfold Fd ks
  rw [List.any_map, Bool.eq_iff_iff]
  simp only [List.any_eq_true, Function.comp, decide_eq_true_eq, List.mem_map]
  constructor
  · rintro ⟨p, h, e⟩; exact ⟨p, h, inr_eq.mp e⟩
  · rintro ⟨p, h, e⟩; exact ⟨p, h, inr_eq.mpr e⟩
theorem Fd_has (l : KV) (k : Str) : hasK (Fd l) (.inr k) = decide (k ∈ ks l) := Fd_any l k
theorem Fd_put (l : KV) (k : Str) (v : D) : putD (Fd l) (.inr k) v = Fd (putS l k v) := by
  unfold putD putS
  rw [Fd_any]
  by_cases h : k ∈ ks l
  · rw [if_pos (by simpa using h), if_pos h]
    unfold Fd
    rw [List.map_map, List.map_map]
    refine List.map_congr_left fun p _ => ?_
    by_cases e : p.1 = k
    · simp [e]
    · simp [e, inr_eq]
  · rw [if_neg (by simpa using h), if_neg h]
    unfold Fd
    simp
theorem Fd_merge : ∀ (m l : KV), mergeD (Fd l) (Fd m) = Fd (mergeS l m)
  | [], l => rfl
  | p :: m, l => by
    show mergeD (putD (Fd l) (.inr p.1) p.2) (Fd m) = _
    rw [Fd_put, Fd_merge m]; rfl
theorem Fd_val (l : KV) (k : Str) : valD (Fd l) (.inr k) = valS l k := by
  unfold valD valS Fd
  induction l with
  | nil => rfl
  | cons p l ih =>
    rw [List.map_cons, List.find?_cons, List.find?_cons]
    by_cases e : p.1 = k
    · simp [e]
    · simp only [inr_eq, e, decide_false]; exact ih
theorem Fd_keys (l : KV) : (Fd l).map (fun p => kD p.1) = (ks l).map .str := by unfold Fd ks; rw [List.map_map, List.map_map]; rfl
theorem keyTs_Fd : ∀ l : KV, keyTs (Fd l) = some (ks l)
  | [] => rfl
  | p :: l => by
    show (keyTs (Fd l)).map (p.1 :: ·) = _
    rw [keyTs_Fd l]; rfl
def pD (p : Str × D) : D := .tup [.str p.1, p.2]
theorem pairsD_Fd : ∀ l : KV, pairsD (l.map pD) = some (Fd l)
  | [] => rfl
  | p :: l => by
    show (match keyD (.str p.1), pairsD (l.map pD) with | some k, some ps => some ((k, p.2) :: ps) | _, _ => none) = _
    rw [pairsD_Fd l]; rfl
theorem Fd_len (l : KV) : (Fd l).length = l.length := by unfold Fd; simp
theorem ks_len (l : KV) : (ks l).length = l.length := by unfold ks; simp
theorem Fd_app (l m : KV) : Fd (l ++ m) = Fd l ++ Fd m := by unfold Fd; simp
theorem Fd_nil : Fd [] = [] := rfl
/-! putting -/
theorem putS_ks (l : KV) (k : Str) (v : D) : ks (putS l k v) = if k ∈ ks l then ks l else ks l ++ [k] := by
  unfold putS
  by_cases h : k ∈ ks l
  · rw [if_pos h, if_pos h]
    unfold ks
    rw [List.map_map]
    refine List.map_congr_left fun p _ => ?_
    by_cases e : p.1 = k <;> simp [e]
  · rw [if_neg h, if_neg h]
    unfold ks; simp
theorem putS_mem (l : KV) (k q : Str) (v : D) : q ∈ ks (putS l k v) ↔ q = k ∨ q ∈ ks l := by
  rw [putS_ks]
  by_cases h : k ∈ ks l
  · rw [if_pos h]; exact ⟨.inr, fun e => e.elim (fun e => e ▸ h) id⟩
  · rw [if_neg h]; simp; exact ⟨fun e => e.symm, fun e => e.symm⟩
theorem putS_nd {l : KV} (h : (ks l).Nodup) (k : Str) (v : D) : (ks (putS l k v)).Nodup := by
  rw [putS_ks]
  by_cases q : k ∈ ks l
  · rw [if_pos q]; exact h
  · rw [if_neg q]; exact List.nodup_append.mpr ⟨h, by simp, fun a ha b hb => by simp at hb; subst hb; exact fun z => q (z ▸ ha)⟩
theorem putS_len (l : KV) (k : Str) (v : D) : (putS l k v).length ≤ l.length + 1 := by
  unfold putS
  split <;> simp
theorem putS_all {P : Str × D → Prop} {l : KV} {k : Str} {v : D} (h : ∀ p ∈ l, P p) (q : P (k, v)) : ∀ p ∈ putS l k v, P p := by
  unfold putS
  split
  · intro p hp
    obtain ⟨r, hr, rfl⟩ := List.mem_map.mp hp
    by_cases e : r.1 = k
    · rw [if_pos e, e]; exact q
    · rw [if_neg e]; exact h r hr
  · intro p hp
    rcases List.mem_append.mp hp with hp | hp
    · exact h p hp
    · simp at hp; subst hp; exact q
theorem putS_new {l : KV} {k : Str} {v : D} (h : k ∉ ks l) : putS l k v = l ++ [(k, v)] := if_neg h
theorem valS_none {l : KV} {k : Str} : valS l k = none ↔ k ∉ ks l := by
  unfold valS ks
  rw [Option.map_eq_none_iff, List.find?_eq_none]
  simp only [decide_eq_true_eq, List.mem_map, not_exists, not_and]
theorem valS_some {l : KV} {k : Str} (h : k ∈ ks l) : ∃ v, valS l k = some v ∧ (k, v) ∈ l := by
  unfold valS
  cases e : l.find? fun p => decide (p.1 = k) with
  | none =>
    rw [List.find?_eq_none] at e
    obtain ⟨v, hv⟩ := mem_ks.mp h
    exact absurd (e _ hv) (by simp)
  | some p =>
    have h1 := List.mem_of_find?_eq_some e
    have h2 : p.1 = k := by simpa using List.find?_some e
    subst h2
    exact ⟨p.2, rfl, h1⟩
theorem valS_mem {l : KV} {k : Str} {v : D} (h : valS l k = some v) : (k, v) ∈ l := by
  have : k ∈ ks l := Classical.byContradiction fun q => by rw [valS_none.mpr q] at h; cases h
  obtain ⟨u, e, m⟩ := valS_some this
  rw [h] at e; cases e; exact m
theorem valS_of {l : KV} (nd : (ks l).Nodup) {k : Str} {v : D} (h : (k, v) ∈ l) : valS l k = some v := by
  obtain ⟨u, e, m⟩ := valS_some (mem_ks.mpr ⟨v, h⟩)
  rw [e]
  have : ∀ {l : KV}, (ks l).Nodup → (k, u) ∈ l → (k, v) ∈ l → u = v := by
    intro l
    induction l with
    | nil => intro _ h; simp at h
    | cons p l ih =>
      intro nd a b
      have nd' : p.1 ∉ ks l ∧ (ks l).Nodup := List.nodup_cons.mp nd
      rcases List.mem_cons.mp a with rfl | a'
      · rcases List.mem_cons.mp b with e | b'
        · cases e; rfl
        · exact absurd (mem_ks.mpr ⟨_, b'⟩) nd'.1
      · rcases List.mem_cons.mp b with rfl | b'
        · exact absurd (mem_ks.mpr ⟨_, a'⟩) nd'.1
        · exact ih nd'.2 a' b'
  rw [this nd m h]
theorem valS_put (l : KV) (k q : Str) (v : D) : valS (putS l k v) q = if q = k then some v else valS l q := by
  unfold putS
  by_cases h : k ∈ ks l
  · rw [if_pos h]
    unfold valS
    induction l with
    | nil => simp [ks] at h
    | cons p l ih =>
      rw [List.map_cons, List.find?_cons, List.find?_cons]
      by_cases e : p.1 = k
      · rw [if_pos e]
        by_cases e2 : q = k
        · subst e2; simp [e]
        · have n1 : ¬ p.1 = q := fun z => e2 (z.symm.trans e)
          simp only [n1, decide_false, if_neg e2]
          by_cases h' : k ∈ ks l
          · rw [ih h', if_neg e2]
          · congr 2
            have : ∀ p ∈ l, (if p.1 = k then (p.1, v) else p) = p := fun r hr => if_neg fun z => h' (mem_ks.mpr ⟨r.2, by rw [← z]; exact hr⟩)
            rw [List.map_congr_left this]; simp
      · rw [if_neg e]
        have h' : k ∈ ks l := by
          rcases List.mem_cons.mp h with z | z
          · exact absurd z.symm e
          · exact z
        by_cases e3 : p.1 = q
        · have n2 : ¬ q = k := fun z => e (e3.trans z)
          simp [e3, n2]
        · simp only [e3, decide_false]; exact ih h'
  · rw [if_neg h]
    unfold valS
    rw [List.find?_append]
    by_cases e : q = k
    · subst e
      have : valS l q = none := valS_none.mpr h
      unfold valS at this
      rw [Option.map_eq_none_iff] at this
      rw [this]; simp
    · have n : ¬ k = q := fun z => e z.symm
      rw [if_neg e]
      cases l.find? fun p => decide (p.1 = q) <;> simp [n]
/-! merging -/
theorem mergeS_nd {l : KV} (h : (ks l).Nodup) : ∀ (m : KV), (ks (mergeS l m)).Nodup := fun m => by
  induction m generalizing l with
  | nil => exact h
  | cons p m ih => exact ih (putS_nd h p.1 p.2)
theorem mergeS_mem (q : Str) : ∀ (m l : KV), q ∈ ks (mergeS l m) ↔ q ∈ ks m ∨ q ∈ ks l
  | [], l => by show q ∈ ks l ↔ _; simp [ks]
  | p :: m, l => by
    show q ∈ ks (mergeS (putS l p.1 p.2) m) ↔ _
    rw [mergeS_mem q m, putS_mem]
    show _ ↔ q ∈ p.1 :: ks m ∨ _
    rw [List.mem_cons]
    exact ⟨fun h => h.elim (fun h => .inl (.inr h)) (fun h => h.elim (fun h => .inl (.inl h)) .inr), fun h => h.elim (fun h => h.elim (fun h => .inr (.inl h)) .inl) (fun h => .inr (.inr h))⟩
theorem mergeS_len : ∀ (m l : KV), (mergeS l m).length ≤ l.length + m.length
  | [], l => Nat.le_refl _
  | p :: m, l => by
    show (mergeS (putS l p.1 p.2) m).length ≤ _
    have := mergeS_len m (putS l p.1 p.2)
    have := putS_len l p.1 p.2
    simp only [List.length_cons]; omega
theorem mergeS_all {P : Str × D → Prop} : ∀ {m l : KV}, (∀ p ∈ l, P p) → (∀ p ∈ m, P p) → ∀ p ∈ mergeS l m, P p
  | [], l, h, _ => h
  | p :: m, l, h, g => mergeS_all (m := m) (l := putS l p.1 p.2) (putS_all h (g p List.mem_cons_self)) fun q hq => g q (List.mem_cons_of_mem _ hq)
theorem mergeS_new : ∀ {m l : KV}, (ks (l ++ m)).Nodup → mergeS l m = l ++ m
  | [], l, _ => by simp [mergeS]
  | p :: m, l, h => by
    have e : ks (l ++ p :: m) = ks l ++ p.1 :: ks m := by simp [ks]
    have hn : p.1 ∉ ks l := fun z => by
      rw [e] at h
      exact (List.nodup_append.mp h).2.2 _ z _ List.mem_cons_self rfl
    show mergeS (putS l p.1 p.2) m = _
    rw [putS_new hn, mergeS_new (by rw [List.append_assoc]; exact h)]; simp
theorem mergeS_nil {m : KV} (h : (ks m).Nodup) : mergeS [] m = m := mergeS_new h
/-! in order -/
def ordS (l : KV) : KV := (srtS (ks l)).map fun k => (k, (valS l k).getD .non)
theorem ordS_ks (l : KV) : ks (ordS l) = srtS (ks l) := by
  have : ks (ordS l) = (srtS (ks l)).map id := by unfold ordS ks; rw [List.map_map]; rfl
  rw [this, List.map_id]
theorem ordS_mem (l : KV) (k : Str) : k ∈ ks (ordS l) ↔ k ∈ ks l := by rw [ordS_ks]; exact (srtS_perm _).mem_iff
theorem ordS_nd {l : KV} (h : (ks l).Nodup) : (ks (ordS l)).Nodup := by rw [ordS_ks]; exact (srtS_perm _).nodup_iff.mpr h
theorem ordS_len (l : KV) : (ordS l).length = l.length := by
  unfold ordS
  rw [List.length_map, (srtS_perm _).length_eq, ks_len]
theorem ordS_val {l : KV} (h : (ks l).Nodup) (k : Str) : valS (ordS l) k = valS l k := by
  by_cases q : k ∈ ks l
  · obtain ⟨v, e, m⟩ := valS_some q
    rw [e]
    refine valS_of (ordS_nd h) (List.mem_map.mpr ⟨k, (srtS_perm _).mem_iff.mpr q, by rw [e]; rfl⟩)
  · rw [valS_none.mpr q, valS_none.mpr fun z => q ((ordS_mem l k).mp z)]
theorem ordS_all {P : Str × D → Prop} {l : KV} (h : ∀ p ∈ l, P p) : ∀ p ∈ ordS l, P p := fun p hp => by
  obtain ⟨k, hk, rfl⟩ := List.mem_map.mp hp
  obtain ⟨v, e, m⟩ := valS_some ((srtS_perm _).mem_iff.mp hk)
  rw [e]; exact h _ m
/-! dict comprehensions over texts -/
section
variable {Γ : DEnv} {st s : Store} {mi mt mk me : EM} {vs : List Nat} {g : GM}
theorem dcL_filt {α : Type} {ι : α → D} {p : α → Bool} {kf : α → Str} {f : α → D} : ∀ {l : List α}, (∀ x ∈ l, ∃ Γ1, g (ι x) Γ = some Γ1 ∧ mt Γ1 st = .ok (.bl (p x)) st ∧ (p x = true → mk Γ1 st = .ok (.str (kf x)) st ∧ me Γ1 st = .ok (f x) st)) →
    ∀ acc : KV, acc.length + l.length ≤ 16777216 → dcL g mt mk me (l.map ι) Γ st (Fd acc) = .ok (.dct (Fd (mergeS acc ((l.filter p).map fun x => (kf x, f x))))) st
  | [], _, acc, _ => by simp [dcL, mergeS]
  | x :: l, h, acc, hl => by
    obtain ⟨Γ1, h1, h2, h3⟩ := h x List.mem_cons_self
    have hlt : (Fd acc).length < 16777216 := by rw [Fd_len]; simp at hl; omega
    have ih := fun acc q => dcL_filt (l := l) (fun y hy => h y (List.mem_cons_of_mem _ hy)) acc q
    rw [List.map_cons]
    unfold dcL
    rw [h1]
    dsimp only
    rw [h2]
    cases hp : p x with
    | true =>
      obtain ⟨h4, h5⟩ := h3 hp
      have := putS_len acc (kf x) (f x)
      dsimp only
      rw [h4]
      dsimp only [keyD]
      rw [h5]
      dsimp only
      rw [if_pos hlt, Fd_put, ih _ (by simp at hl ⊢; omega), List.filter_cons_of_pos hp]; rfl
    | false =>
      dsimp only
      rw [ih acc (by simp at hl ⊢; omega), List.filter_cons_of_neg (by simp [hp])]
theorem dc_filt {α : Type} (ι : α → D) (l : List α) (p : α → Bool) (kf : α → Str) (f : α → D) (hm : mi Γ st = .ok (.tup (l.map ι)) s) (hl : l.length ≤ 16777216)
    (h : ∀ x ∈ l, ∃ Γ1, g (ι x) (wipeE Γ vs) = some Γ1 ∧ mt Γ1 s = .ok (.bl (p x)) s ∧ (p x = true → mk Γ1 s = .ok (.str (kf x)) s ∧ me Γ1 s = .ok (f x) s)) : eDc vs mi g mt mk me Γ st = .ok (.dct (Fd (mergeS [] ((l.filter p).map fun x => (kf x, f x))))) s := by
  rw [eDc_of hm]
  exact dcL_filt h [] (by simpa using hl)
/-- over texts that differ -/
theorem dc_keys (l : List Str) (f : Str → D) (nd : l.Nodup) (hm : mi Γ st = .ok (.tup (l.map .str)) s) (hl : l.length ≤ 16777216)
    (h : ∀ x ∈ l, ∃ Γ1, g (.str x) (wipeE Γ vs) = some Γ1 ∧ mk Γ1 s = .ok (.str x) s ∧ me Γ1 s = .ok (f x) s) : eDc vs mi g eYes mk me Γ st = .ok (.dct (Fd (l.map fun x => (x, f x)))) s := by
  rw [dc_filt .str l (fun _ => true) id f (mt := eYes) hm hl (fun x hx => let ⟨Γ1, a, b, c⟩ := h x hx; ⟨Γ1, a, rfl, fun _ => ⟨b, c⟩⟩)]
  rw [List.filter_eq_self.mpr (fun _ _ => rfl), mergeS_nil]
  · rfl
  · have : ks (l.map fun x => (id x, f x)) = l.map id := by unfold ks; rw [List.map_map]; rfl
    rw [this, List.map_id]; exact nd
end
theorem eSortSet_strs {m : EM} {Γ : DEnv} {st s : Store} {xs : List Str} (h : m Γ st = .ok (.lst (xs.map .str)) s) (hl : xs.length + 1 < 4096) : eSortSet m Γ st = .ok (.lst ((sset xs).map .str)) s := by
  unfold eSortSet
  rw [h, ok_bind]
  obtain ⟨ys, e1, e2⟩ := strs_of (xs := xs.map .str) (fun x hx => let ⟨y, _, e⟩ := List.mem_map.mp hx; ⟨y, e.symm⟩)
  have : ys = xs := by
    have := e2.symm
    exact (List.map_inj_right fun a b h => by cases h; rfl).mp this
  subst this
  simp only [deref_lst, e1]
  exact if_pos hl
theorem strsOf_strs : ∀ xs : List Str, strsOf (xs.map .str) = some xs
  | [] => rfl
  | x :: xs => by simp [strsOf, strsOf_strs xs]
@[simp] theorem bSortedX_s {xs : List Str} {st : Store} : bSortedX [.lst (xs.map .str)] st = .ok (.lst ((srtS xs).map .str)) st := by
  show (match strsOf (xs.map .str) with | some ys => ER.ok (.lst ((srtS ys).map .str)) st | none => .no) = _
  rw [strsOf_strs]
@[simp] theorem bSortedX_F {l : KV} {st : Store} : bSortedX [.dct (Fd l)] st = .ok (.lst ((srtS (ks l)).map .str)) st := by
  show (match keyTs (Fd l) with | some ys => ER.ok (.lst ((srtS ys).map .str)) st | none => .no) = _
  rw [keyTs_Fd]
theorem sset_mem (xs : List Str) (x : Str) : x ∈ sset xs ↔ x ∈ xs := by
  unfold sset
  rw [(srtS_perm _).mem_iff, ddp_mem]
theorem ddp_len : ∀ (xs : List Str), (ddp xs).length ≤ xs.length := fun xs => by
  suffices h : ∀ (l acc : List Str), (l.foldl ddpS acc).length ≤ acc.length + l.length by simpa [ddp] using h xs []
  intro l
  induction l with
  | nil => intro acc; simp
  | cons x l ih =>
    intro acc
    rw [List.foldl_cons]
    have := ih (ddpS acc x)
    have : (ddpS acc x).length ≤ acc.length + 1 := by unfold ddpS; split <;> simp
    simp only [List.length_cons]; omega
theorem sset_len (xs : List Str) : (sset xs).length ≤ xs.length := by
  unfold sset
  rw [(srtS_perm _).length_eq]; exact ddp_len xs
end DL
/-! plain: pens, bits -/
namespace DL
open PySem L2
/-- a pen -/
def penD (ns : List Int) (i n : Int) (ext : List D) : D := .lst (.lst (ns.map .int) :: .int i :: .int n :: ext)
theorem pyL_ints : ∀ ns : List Int, D.pyL (ns.map .int) = some (ns.map PyData.int)
  | [] => rfl
  | n :: ns => by simp [D.pyL, D.py, pyL_ints ns]
theorem shaped_ints (ns : List Int) : SeqAt.shaped (.list (ns.map PyData.int)) = true := by
  have h1 : ∀ ns : List Int, PyData.canLayAll0 (ns.map PyData.int) = true := fun ns => by induction ns with | nil => rfl | cons n ns ih => simp [PyData.canLayAll0, PyData.canLay0, ih]
  have h2 : ∀ ns : List Int, PyData.depthAll (ns.map PyData.int) = 0 := fun ns => by induction ns with | nil => rfl | cons n ns ih => simp [PyData.depthAll, PyData.depth, ih]
  simp [SeqAt.shaped, PyData.canLay0, h1, PyData.depth, h2]
theorem dEq_ints_nil (ns : List Int) : dEq (.lst (ns.map .int)) (.lst []) = some ns.isEmpty := by
  have h := shaped_ints ns
  have h0 : SeqAt.shaped (.list []) = true := by decide
  cases ns with
  | nil => simp [dEq, sclEq, pyEq, D.py, D.pyL, h0, PyData.eqv, PyData.eqvAll]
  | cons n ns => 
    rw [List.map_cons] at h
    simp [dEq, sclEq, pyEq, D.py, D.pyL, pyL_ints, h, h0, PyData.eqv, PyData.eqvAll]
theorem atI_int (ns : List Int) (j : Int) (h0 : 0 ≤ j) (h1 : j < ns.length) : ∃ c, L2.atI (ns.map D.int) j = some (.int c) := by
  have h2 : j < ((ns.map D.int).length : Nat) := by simpa using h1
  have h3 : j.toNat < (ns.map D.int).length := by omega
  refine ⟨(ns[j.toNat]'(by simpa using h3)), ?_⟩
  unfold L2.atI ixN
  simp [h0, h1]
theorem mod_lt {a b : Int} (h : 0 < b) : 0 ≤ a % b ∧ a % b < b := ⟨Int.emod_nonneg a (by omega), Int.emod_lt_of_pos a h⟩
/-- the pen stands at 0, its script ns; c bounds what was read, e what was appended -/
def PenX (ns : List Int) (c : Int) (e : Nat) (r st : Store) : Prop := ∃ i n ext, 0 ≤ i ∧ i ≤ c ∧ ext.length ≤ e ∧ st = penD ns i n ext :: r
theorem PenX.mono {ns : List Int} {c c' : Int} {e e' : Nat} {r st : Store} (h : PenX ns c e r st) (hc : c ≤ c') (he : e ≤ e' := by omega) : PenX ns c' e' r st := let ⟨i, n, x, a, b, d, q⟩ := h; ⟨i, n, x, a, Int.le_trans b hc, Nat.le_trans d he, q⟩
theorem cutL_60 {ns : List Int} (h : ns.length ≤ 63) : cutL (ns.map D.int) none (some 60) = (ns.take 60).map D.int := by
  unfold cutL HT.sIx
  simp [List.map_take, List.take_take]
theorem atI_01 {k : Int} (h0 : 0 ≤ k) (h1 : k < 2) : ∃ c, (c = 48 ∨ c = 49) ∧ L2.atI ("01" : Str).cps.toList k = some c := by
  have e : ("01" : Str).cps.toList = [48, 49] := by decide +kernel
  rw [e]
  obtain ⟨x, h, m⟩ := atI_of (l := [48, 49]) h0 (by show k < 2; exact h1)
  exact ⟨x, by simpa using m, h⟩

/-! ### texts of bits from the script -/
def Bt (x : Str) : Prop := ∀ c ∈ x.cps.toList, c = 48 ∨ c = 49
theorem Bt.cs {x : Str} (h : Bt x) : Cs x := fun c hc => by have := h c hc; omega
theorem Bt.ok {x : Str} (h : Bt x) : PyData.strOk x = true := strOk_of fun c hc => by have := h c hc; omega
theorem Bt.append {x y : Str} (h : Bt x) (h' : Bt y) : Bt (x ++ y) := fun c hc => by
  have e : (x ++ y).cps.toList = x.cps.toList ++ y.cps.toList := TL.tl_append x y
  rw [e, List.mem_append] at hc
  exact hc.elim (h c) (h' c)
theorem Bt.cut {x : Str} (h : Bt x) (lo hi : Option Int) : Bt (cutS x lo hi) := fun c hc => by
  unfold cutS at hc
  simp only at hc
  exact h c (List.mem_of_mem_drop (List.mem_of_mem_take hc))
theorem Bt.rep {x : Str} (h : Bt x) (n : Int) : Bt (repS x n) := fun c hc => by
  rw [repS_toList] at hc
  obtain ⟨l, hl, hc⟩ := List.mem_flatten.mp hc
  have := List.eq_of_mem_replicate hl
  subst this
  exact h c hc
instance (x : Str) : Decidable (Bt x) := inferInstanceAs (Decidable (∀ c ∈ x.cps.toList, c = 48 ∨ c = 49))
theorem join_bits {ys : List Str} (hy : ∀ y ∈ ys, ∃ c, (c = 48 ∨ c = 49) ∧ y = sgn c) : (Txt.join "" ys).length = ys.length ∧ Bt (Txt.join "" ys) ∧ (ys.map (·.length)).sum = ys.length := by
  have len1 : ∀ y ∈ ys, y.length = 1 := fun y h => by obtain ⟨c, _, rfl⟩ := hy y h; rfl
  have suml : ∀ zs : List Str, (∀ y ∈ zs, y.length = 1) → (zs.map (·.length)).sum = zs.length := fun zs => by
    induction zs with
    | nil => intro _; rfl
    | cons y zs ih => intro h; rw [List.map_cons, List.sum_cons, h y List.mem_cons_self, ih fun q hq => h q (List.mem_cons_of_mem _ hq), List.length_cons]; omega
  refine ⟨?_, ?_, suml ys len1⟩
  · rw [len_toList, join0, List.length_flatten, List.map_map]
    rw [show List.map (List.length ∘ fun y : Str => y.cps.toList) ys = ys.map (·.length) from List.map_congr_left fun y _ => (len_toList y).symm, suml ys len1]
  · intro c hc
    rw [join0] at hc
    obtain ⟨l, hl', hc⟩ := List.mem_flatten.mp hc
    obtain ⟨y, hy', rfl⟩ := List.mem_map.mp hl'
    obtain ⟨c', h, rfl⟩ := hy y hy'
    have : c = c' := by simpa [sgn] using hc
    omega
theorem kit_all : kitB "str" "str" = some true ∧ kitB "int" "int" = some true ∧ kitB "int" "bool" = some false ∧ kitB "dict" "dict" = some true := by decide +kernel
def bitD (d : D) : Bool := match d with | .str x => inV (.str x) [.str "0", .str "1"] | _ => false
theorem bitD_of {c : Nat} (h : c = 48 ∨ c = 49) : bitD (.str (sgn c)) = true := by
  rcases h with rfl | rfl <;> decide +kernel
theorem sgns_len (x : Str) : (sgns x).length = x.length := by rw [len_toList]; simp [sgns]
theorem ne_fld : (("held" : Str) == ("bits" : Str)) = false ∧ ¬ (("bits" : Str) = ("held" : Str)) := by decide +kernel
/-! ### a size -/
def sizesD : List D := [.int 1, .int 2, .int 3, .int 3, .int 4, .int 32]
/-! ### different prefixes -/
theorem b0L : Bt ("0" : Str) ∧ Bt ("1" : Str) ∧ Bt ("" : Str) := by decide +kernel
theorem l0L : ("0" : Str).length = 1 ∧ ("1" : Str).length = 1 ∧ ("" : Str).length = 0 := by decide +kernel
theorem mulS (x : Str) (n : Nat) (h : n < 16777216 ∧ x.length * n ≤ 16777216) (st : Store) : oMulX (.str x) (.int n) st = .ok (.str (repS x n)) st := by
  have h1 : (n : Int) < 16777216 ∧ -16777216 < (n : Int) ∧ x.length * (n : Int).toNat ≤ 16777216 := ⟨by omega, by omega, by simpa using h.2⟩
  exact oMulX_s h1
theorem addS (x y : Str) (h : x.length + y.length ≤ 16777216) (st : Store) : oAdd (.str x) (.str y) st = .ok (.str (x ++ y)) st := oAdd_s h
theorem ixS (x : Str) (k c : Nat) (hx : x.length ≤ 16777216) (h : x.cps.toList[k]? = some c) (st : Store) : oIxX (.str x) (.int k) st = .ok (.str (sgn c)) st := by
  have := L2.atI_nat h
  rw [oIxX_s hx, this]
theorem fdivI (x : Nat) (y : Nat) (h : 0 < y ∧ y < 1073741824) (st : Store) : oFdiv (.int x) (.int y) st = .ok (.int ((x / y : Nat) : Int)) st := by
  rw [oFdiv_i (by omega)]; simp
theorem modI (x : Nat) (y : Nat) (h : 0 < y) (st : Store) : oMod (.int x) (.int y) st = .ok (.int ((x % y : Nat) : Int)) st := by
  rw [oMod_i (by omega)]; simp
end DL
/-! plain: maps and tables -/
namespace DL
open PySem L2
def bestS (spot : Str) (l : List Str) : Option Str := l.foldl (stepB spot) none
theorem bestS_ok (spot : Str) (l : List Str) : Best spot l (bestS spot l) := by
  have := best_fold spot l [] none (fun k h => by simp at h)
  rw [List.nil_append] at this
  exact this
theorem bestS_mem {spot : Str} {l : List Str} {p : Str} (h : bestS spot l = some p) : p ∈ l := by
  have := bestS_ok spot l
  rw [h] at this
  exact this.1
theorem bestS_eq {spot : Str} {l : List Str} {r : Option Str} (h : Best spot l r) : r = bestS spot l := h.uniq (bestS_ok spot l)
theorem bestS_perm (spot : Str) {l m : List Str} (e : ∀ k, k ∈ l ↔ k ∈ m) : bestS spot l = bestS spot m := bestS_eq ((bestS_ok spot l).perm fun k => (e k).symm)
/-- the value of the longest beginning -/
def leadS (l : KV) (spot : Str) : D := match bestS spot (ks l) with | some p => (valS l p).getD .non | none => .non
def namesD : List D := [.str "a", .str "ab", .str "b", .str "any"]
def Name (d : D) : Prop := d ∈ namesD
def lettersS : Str := "abcdefghijklmnopqrstuvwxyz"
def ltB (c : Nat) : Bool := decide (c ∈ lettersS.cps.toList)
/-- a target's text -/
def Tg (x : Str) : Prop := 1 ≤ x.length ∧ x.length ≤ 8 ∧ ∀ c ∈ x.cps.toList, c ∈ lettersS.cps.toList
theorem Name.tg {d : D} (h : Name d) : ∃ x, d = .str x ∧ Tg x := by
  have h1 : Tg ("a" : Str) ∧ Tg ("ab" : Str) ∧ Tg ("b" : Str) ∧ Tg ("any" : Str) := by
    unfold Tg; decide +kernel
  simp only [Name, namesD, List.mem_cons, List.not_mem_nil, or_false] at h
  rcases h with rfl | rfl | rfl | rfl
  · exact ⟨_, rfl, h1.1⟩
  · exact ⟨_, rfl, h1.2.1⟩
  · exact ⟨_, rfl, h1.2.2.1⟩
  · exact ⟨_, rfl, h1.2.2.2⟩
def TgD (d : D) : Prop := ∃ x, d = .str x ∧ Tg x
def IntD (d : D) : Prop := ∃ i, d = .int i
theorem bls_gen {α : Type} (f : α → Bool) : ∀ l : List α, blsD (l.map fun d => D.bl (f d)) = some (l.map f)
  | [] => rfl
  | d :: l => by simp [blsD, bls_gen f l]
theorem leadS_ord {l : KV} (nd : (ks l).Nodup) (spot : Str) : leadS (ordS l) spot = leadS l spot := by
  unfold leadS
  rw [bestS_perm spot (l := ks (ordS l)) (m := ks l) fun k => ordS_mem l k]
  cases bestS spot (ks l) with
  | none => rfl
  | some p => show (valS (ordS l) p).getD .non = _; rw [ordS_val nd]
theorem leadS_all {P : D → Prop} {l : KV} (h0 : P .non) (h : ∀ p ∈ l, P p.2) (spot : Str) : P (leadS l spot) := by
  unfold leadS
  cases e : bestS spot (ks l) with
  | none => exact h0
  | some p =>
    obtain ⟨v, hv, m⟩ := valS_some (bestS_mem e)
    show P ((valS l p).getD .non)
    rw [hv]; exact h _ m
def mapD (C : String) (z : Int) (l : KV) : D := .ins C [("bits", .int z), ("held", .dct (Fd l))]
theorem fldS : (("held" : Str) == ("bits" : Str)) = false ∧ (("bits" : Str) == ("held" : Str)) = false := by decide +kernel
theorem fld_bits (a b : D) : ([(("bits" : Str), a), (("held" : Str), b)] : List (Str × D)).lookup ("bits" : Str) = some a := by simp [List.lookup]
theorem fld_held (a b : D) : ([(("bits" : Str), a), (("held" : Str), b)] : List (Str × D)).lookup ("held" : Str) = some b := by simp [List.lookup, fldS.1]
theorem fld_no (a b : D) (m : Str) (h : (m == ("bits" : Str)) = false ∧ (m == ("held" : Str)) = false) : ([(("bits" : Str), a), (("held" : Str), b)] : List (Str × D)).lookup m = none := by simp [List.lookup, h.1, h.2]
theorem Bt.gd {x : Str} (h : Bt x) (hl : x.length ≤ 32) : Gd 0 1000 (.str x) := gd_str h.cs (by omega)
theorem Tg.cs {x : Str} (h : Tg x) : Cs x := fun c hc => by
  have h1 : ∀ c ∈ lettersS.cps.toList, c < 4294967296 := by decide +kernel
  exact h1 c (h.2.2 c hc)
theorem Tg.gd {x : Str} (h : Tg x) : Gd 0 1000 (.str x) := gd_str h.cs (by have := h.2.1; omega)
theorem Name.gd {d : D} (h : Name d) : Gd 0 1000 d := let ⟨x, e, t⟩ := h.tg; e ▸ t.gd
theorem gdM {n L : Nat} {d : D} (n' L' : Nat) (h : Gd n L d) (h1 : n ≤ n' := by decide) (h2 : L ≤ L' := by decide) : Gd n' L' d := h.mono h1 h2
theorem gd_Fd {n L : Nat} {l : KV} (hk : ∀ y ∈ ks l, Gd 0 L (.str y)) (hv : ∀ p ∈ l, Gd n L p.2) : Gd (n + 1) (l.length * (2 * L + 4) + 3) (.dct (Fd l)) := by
  have := gd_dct (n := n) (L := L) (xs := Fd l) (fun p hp => by
    obtain ⟨q, hq, rfl⟩ := List.mem_map.mp hp
    exact ⟨hk q.1 (List.mem_map_of_mem hq), hv q hq⟩)
  rwa [Fd_len] at this
theorem gd_kvs {n : Nat} {l : KV} (hl : l.length ≤ 1000) (hk : ∀ y ∈ ks l, Bt y ∧ y.length ≤ 32) (hv : ∀ p ∈ l, Gd n 1000 p.2) : Gd (n + 1) 16777216 (.dct (Fd l)) :=
  (gd_Fd (fun y hy => (hk y hy).1.gd (hk y hy).2) hv).mono (Nat.le_refl _) (by omega)
theorem lead_gd {l : KV} (hv : ∀ p ∈ l, Name p.2) (spot : Str) : Gd 0 1000 (leadS l spot) :=
  leadS_all (P := Gd 0 1000) (gdM 0 1000 gd_non) (fun p hp => (hv p hp).gd) spot
theorem lead_dr {l : KV} (hv : ∀ p ∈ l, Name p.2) (spot : Str) (st : Store) : deref st (leadS l spot) = leadS l spot :=
  leadS_all (P := fun d => deref st d = d) rfl (fun p hp => by obtain ⟨x, e, _⟩ := (hv p hp).tg; rw [e]; rfl) spot
theorem lead_eq {l : KV} (hv : ∀ p ∈ l, Name p.2) (spot : Str) : dEq (leadS l spot) (leadS l spot) = some true :=
  leadS_all (P := fun d => dEq d d = some true) rfl (fun p hp => by obtain ⟨x, e, _⟩ := (hv p hp).tg; rw [e]; simp) spot
end DL
/-! plain: the algebra of dicts in order -/
namespace DL
open PySem L2
theorem srtS_ext {a b : List Str} (na : a.Nodup) (nb : b.Nodup) (h : ∀ k, k ∈ a ↔ k ∈ b) : srtS a = srtS b :=
  List.Perm.eq_of_pairwise (fun x y _ _ p q => leS_anti x y p q) (srtS_sorted a) (srtS_sorted b) ((srtS_perm a).trans (((List.perm_ext_iff_of_nodup na nb).mpr h).trans (srtS_perm b).symm))
theorem ks_iff_val {l m : KV} (h : ∀ k, valS l k = valS m k) (k : Str) : k ∈ ks l ↔ k ∈ ks m := by
  constructor
  · intro q
    refine Classical.byContradiction fun z => ?_
    obtain ⟨v, e, _⟩ := valS_some q
    rw [h k, valS_none.mpr z] at e; cases e
  · intro q
    refine Classical.byContradiction fun z => ?_
    obtain ⟨v, e, _⟩ := valS_some q
    rw [← h k, valS_none.mpr z] at e; cases e
theorem ordS_ext {l m : KV} (nl : (ks l).Nodup) (nm : (ks m).Nodup) (h : ∀ k, valS l k = valS m k) : ordS l = ordS m := by
  unfold ordS
  rw [srtS_ext nl nm (ks_iff_val h)]
  exact List.map_congr_left fun k _ => by rw [h k]
theorem ordS_ord {l : KV} (nl : (ks l).Nodup) : ordS (ordS l) = ordS l := ordS_ext (ordS_nd nl) nl (ordS_val nl)
theorem ks_filter (l : KV) (p : Str → Bool) : ks (l.filter fun q => p q.1) = (ks l).filter p := by
  unfold ks
  rw [List.filter_map]; rfl
theorem valS_filter (l : KV) (p : Str → Bool) (k : Str) : valS (l.filter fun q => p q.1) k = if p k = true then valS l k else none := by
  unfold valS
  induction l with
  | nil => simp
  | cons q l ih =>
    have e1 : (q :: l).filter (fun q => p q.1) = if p q.1 = true then q :: l.filter (fun q => p q.1) else l.filter (fun q => p q.1) := by
      rw [List.filter_cons]
    rw [e1]
    by_cases hq : p q.1 = true
    · rw [if_pos hq, List.find?_cons, List.find?_cons]
      by_cases e : q.1 = k
      · subst e; simp [hq]
      · simp only [e, decide_false]; exact ih
    · rw [if_neg hq, ih, List.find?_cons]
      by_cases e : q.1 = k
      · subst e; simp [hq]
      · simp only [e, decide_false]
theorem nd_filter {l : KV} (h : (ks l).Nodup) (p : Str → Bool) : (ks (l.filter fun q => p q.1)).Nodup := by
  rw [ks_filter]; exact h.filter _
/-- a longest beginning when a text is added -/
theorem best_add {spot p : Str} {l m : List Str} (h : ∀ k, k ∈ m ↔ k = p ∨ k ∈ l) :
    bestS spot m = if Txt.startswith spot p = true ∧ (∀ q, bestS spot l = some q → q.length ≤ p.length) then some p else bestS spot l := by
  have hb := bestS_ok spot l
  symm
  refine bestS_eq ?_
  by_cases c : Txt.startswith spot p = true ∧ (∀ q, bestS spot l = some q → q.length ≤ p.length)
  · rw [if_pos c]
    refine ⟨(h p).mpr (.inl rfl), c.1, fun k hk hs => ?_⟩
    rcases (h k).mp hk with rfl | hk
    · exact Nat.le_refl _
    · cases e : bestS spot l with
      | none =>
        rw [e] at hb
        have := hb k hk
        rw [hs] at this; cases this
      | some q =>
        rw [e] at hb
        exact Nat.le_trans (hb.2.2 k hk hs) (c.2 q e)
  · rw [if_neg c]
    cases e : bestS spot l with
    | none =>
      rw [e] at hb
      intro k hk
      rcases (h k).mp hk with rfl | hk
      · cases hs : Txt.startswith spot k with
        | false => rfl
        | true => exact absurd ⟨hs, fun q hq => by rw [e] at hq; cases hq⟩ c
      · exact hb k hk
    | some q =>
      rw [e] at hb
      refine ⟨(h q).mpr (.inr hb.1), hb.2.1, fun k hk hs => ?_⟩
      rcases (h k).mp hk with rfl | hk
      · by_cases z : k.length ≤ q.length
        · exact z
        · exact absurd ⟨hs, fun q' hq => by rw [e] at hq; cases hq; omega⟩ c
      · exact hb.2.2 k hk hs
/-! dicts compared -/
def Flat (d : D) : Prop := pyEq d d = some true
theorem pyEq_str {x : Str} (h : PyData.strOk x = true) : pyEq (.str x) (.str x) = some true := by
  have hs : SeqAt.shaped (.str x) = true := by simp [SeqAt.shaped, PyData.canLay0, h, PyData.depth]
  simp [pyEq, D.py, hs, PyData.eqv]
theorem pyEq_int (i : Int) : pyEq (.int i) (.int i) = some true := by
  have hs : SeqAt.shaped (.int i) = true := by simp [SeqAt.shaped, PyData.canLay0, PyData.depth]
  simp [pyEq, D.py, hs, PyData.eqv]
theorem Tg.ok {x : Str} (h : Tg x) : PyData.strOk x = true := strOk_of fun c hc => by
  have h1 : ∀ c ∈ lettersS.cps.toList, c < 1114112 := by decide +kernel
  exact h1 c (h.2.2 c hc)
theorem TgD.flat {d : D} (h : TgD d) : Flat d := by obtain ⟨x, rfl, t⟩ := h; exact pyEq_str t.ok
theorem IntD.flat {d : D} (h : IntD d) : Flat d := by obtain ⟨x, rfl⟩ := h; exact pyEq_int x
theorem dctEq_self {l : KV} (nd : (ks l).Nodup) (h : ∀ p ∈ l, Flat p.2) : dctEq (Fd l) (Fd l) = some true := by
  suffices q : ∀ m : KV, (∀ p ∈ m, p ∈ l) → dctEq (Fd l) (Fd m) = some true from q l fun _ h => h
  intro m
  induction m with
  | nil => intro _; rfl
  | cons p m ih =>
    intro hm
    have hp := hm p List.mem_cons_self
    show (match valD (Fd l) (.inr p.1) with | none => some false | some u => match pyEq p.2 u, dctEq (Fd l) (Fd m) with | some e, some b => some (e && b) | _, _ => none) = _
    rw [Fd_val, valS_of nd (show (p.1, p.2) ∈ l from hp)]
    dsimp only
    rw [h p hp, ih fun q hq => hm q (List.mem_cons_of_mem _ hq)]; rfl
theorem dEqX_self {l : KV} (nd : (ks l).Nodup) (h : ∀ p ∈ l, Flat p.2) : dEqX (.dct (Fd l)) (.dct (Fd l)) = some true := by
  rw [dEqX_d, if_pos rfl]; exact dctEq_self nd h
theorem dupd_Fd {mo mk mv : EM} {Γ : DEnv} {st s1 s2 s3 : Store} {l : KV} {k : Str} {v : D} (h1 : Ev (mo Γ st) fun d s => deref s d = .dct (Fd l) ∧ s = s1) (h2 : mk Γ s1 = .ok (.str k) s2) (h3 : mv Γ s2 = .ok v s3) (nd : (ks l).Nodup) (hl : l.length < 16777216) :
    eDupd mo mk mv Γ st = .ok (.dct (Fd (putS l k v))) s3 := by
  obtain ⟨d, s, e, hd, rfl⟩ := h1
  unfold eDupd
  rw [e, ok_bind]
  have hm : mergeD [] (Fd l) = Fd l := (Fd_merge l []).trans (by rw [mergeS_nil nd])
  simp only [hd, h2, h3, ok_bind, keyD, hm]
  rw [if_pos (by rw [Fd_len]; omega), Fd_put]
end DL
namespace DL
open PySem L2
/-- rows that a map takes -/
structure MapOK (V : D → Prop) (z : Nat) (n : Nat) (l : KV) : Prop where
  hz : 1 ≤ z ∧ z ≤ 32
  nd : (ks l).Nodup
  len : l.length ≤ n
  key : ∀ y ∈ ks l, Bt y ∧ y.length ≤ z
  val : ∀ p ∈ l, V p.2
theorem MapOK.mono {V : D → Prop} {z n m : Nat} {l : KV} (h : MapOK V z n l) (hm : n ≤ m) : MapOK V z m l := ⟨h.hz, h.nd, Nat.le_trans h.len hm, h.key, h.val⟩
theorem MapOK.imp {V U : D → Prop} {z n : Nat} {l : KV} (h : MapOK V z n l) (q : ∀ d, V d → U d) : MapOK U z n l := ⟨h.hz, h.nd, h.len, h.key, fun p hp => q _ (h.val p hp)⟩
theorem MapOK.ord {V : D → Prop} {z n : Nat} {l : KV} (h : MapOK V z n l) : MapOK V z n (ordS l) :=
  ⟨h.hz, ordS_nd h.nd, by rw [ordS_len]; exact h.len, fun y hy => h.key y ((ordS_mem l y).mp hy), ordS_all (P := fun p => V p.2) h.val⟩
theorem MapOK.put {V : D → Prop} {z n : Nat} {l : KV} (h : MapOK V z n l) {k : Str} {v : D} (hk : Bt k ∧ k.length ≤ z) (hv : V v) : MapOK V z (n + 1) (putS l k v) :=
  ⟨h.hz, putS_nd h.nd k v, Nat.le_trans (putS_len l k v) (Nat.succ_le_succ h.len), fun y hy => by
    rcases (putS_mem l k y v).mp hy with rfl | hy
    · exact hk
    · exact h.key y hy, putS_all (P := fun p => V p.2) h.val hv⟩
theorem MapOK.filter {V : D → Prop} {z n : Nat} {l : KV} (h : MapOK V z n l) (p : Str → Bool) : MapOK V z n (l.filter fun q => p q.1) :=
  ⟨h.hz, nd_filter h.nd p, Nat.le_trans (List.length_filter_le _ _) h.len, fun y hy => by
    rw [ks_filter] at hy
    exact h.key y (List.mem_filter.mp hy).1, fun q hq => h.val q (List.mem_filter.mp hq).1⟩
theorem nb_made : (("made" : Str) == ("bits" : Str)) = false ∧ (("made" : Str) == ("held" : Str)) = false := by decide +kernel
theorem nb_with : (("with_row" : Str) == ("bits" : Str)) = false ∧ (("with_row" : Str) == ("held" : Str)) = false := by decide +kernel
theorem nb_without : (("without" : Str) == ("bits" : Str)) = false ∧ (("without" : Str) == ("held" : Str)) = false := by decide +kernel
theorem nb_longest : (("longest" : Str) == ("bits" : Str)) = false ∧ (("longest" : Str) == ("held" : Str)) = false := by decide +kernel
theorem nb_lookup : (("lookup" : Str) == ("bits" : Str)) = false ∧ (("lookup" : Str) == ("held" : Str)) = false := by decide +kernel
theorem nb_sort : (("sort_of_map" : Str) == ("bits" : Str)) = false ∧ (("sort_of_map" : Str) == ("held" : Str)) = false := by decide +kernel
theorem nb_same : (("is_same" : Str) == ("bits" : Str)) = false ∧ (("is_same" : Str) == ("held" : Str)) = false := by decide +kernel
theorem nb_rows : (("rows" : Str) == ("bits" : Str)) = false ∧ (("rows" : Str) == ("held" : Str)) = false := by decide +kernel
end DL
namespace DL
open PySem L2
section
variable {Γ : DEnv} {st : Store} {mo mi me ms : EM} {i j l n : Nat}
@[simp] theorem sSubX_ap : sSubX mo mi me Γ st = (me Γ st).bs Γ fun x s1 => (mo Γ s1).bs Γ fun o s2 => (mi Γ s2).bs Γ fun i s3 => match o with
  | .ref l => match s3[l]? with
    | some d => match setX d i x with
      | some d' => .nx Γ (s3.set l d')
      | none => .no
    | none => .no
  | _ => .no := rfl
@[simp] theorem sSubO_ap : sSubO n mi me Γ st = (me Γ st).bs Γ fun x s1 => match Γ[n]? with
  | some (.ow d) => (mi Γ s1).bs Γ fun i s2 => match setX d i x with
    | some d' => .nx (Γ.set n (.ow d')) s2
    | none => .no
  | _ => .no := rfl
@[simp] theorem sPar3_ap : sPar3 i j l ms Γ st = (ms Γ st).bs Γ fun d s => match d with
  | .tup [x, y, z] => .nx (((Γ.set i (.sh x)).set j (.sh y)).set l (.sh z)) s
  | _ => .no := rfl
end
theorem setX_Fd {l : KV} {k : Str} {x : D} (h : l.length < 16777216) : setX (.dct (Fd l)) (.str k) x = some (.dct (Fd (putS l k x))) := by
  unfold setX keyD
  dsimp only
  rw [if_pos (by rw [Fd_len]; exact h), Fd_put]
theorem hasK_first {l : KV} {k : Str} (h : k ∈ ks l) : hasK (Fd l) (.inr k) = true := by rw [Fd_has]; simpa using h
end DL
namespace DL
open PySem L2
theorem setLast (s : Store) (x y : D) : (s ++ [x]).set s.length y = s ++ [y] := by simp
theorem getLast1 (s : Store) (x : D) : (s ++ [x])[s.length]? = some x := by simp
end DL
/-! plain rules: try kept, len of a set comprehension, two fors -/
namespace DL
open PySem L2
section
variable {Γ : DEnv} {st s : Store} {w : Ws} {m mi mi1 me mt : EM} {i j : Nat}
/-- try kept: an own exception of the table goes on with its thing at j -/
theorem w_tryK {b : SM} {tab : List (String × Bool)} (h : Rn (b Γ st) { w with er := fun x Γ' s' => x.own = true ∧ ((tab.lookup x.C = some true ∧ w.nx ((Γ'.set i .no).set j (.sh (.exc x.C x.fs))) s') ∨ (tab.lookup x.C = some false ∧ w.er x Γ' s')) }) : Rn (sTryK i j tab b Γ st) w := by
  unfold sTryK
  generalize b Γ st = r at h
  cases h with
  | nx h => exact .nx h
  | ret h => exact .ret h
  | bk h => exact .bk h
  | ct h => exact .ct h
  | err h =>
    obtain ⟨h1, h2⟩ := h
    dsimp only
    rw [if_pos h1]
    rcases h2 with ⟨a, c⟩ | ⟨a, c⟩
    · rw [a]; exact .nx c
    · rw [a]; exact .err c
theorem scL_all {α : Type} (ι : α → D) (f : α → D) (κ : α → Leaf) {g : GM} : ∀ (l : List α) (ks : List Leaf), ks.length + l.length < 4096 → (∀ x ∈ l, ∃ Γ1, g (ι x) Γ = some Γ1 ∧ me Γ1 s = .ok (f x) s ∧ lfD (f x) = some (κ x)) →
    scL g eYes me (l.map ι) Γ s ks = .ok (.int (ddp (ks ++ l.map κ)).length) s
  | [], ks, _, _ => by simp [scL]
  | x :: l, ks, hl, h => by
    obtain ⟨Γ1, a, b, c⟩ := h x List.mem_cons_self
    have hl' : ks.length + (l.length + 1) < 4096 := by simpa using hl
    rw [List.map_cons]
    unfold scL
    rw [a]
    dsimp only
    rw [show eYes Γ1 s = .ok (.bl true) s from rfl]
    dsimp only
    rw [b]
    dsimp only
    rw [c]
    dsimp only
    rw [if_pos (by omega), scL_all ι f κ l (ks ++ [κ x]) (by simp; omega) (fun y hy => h y (List.mem_cons_of_mem _ hy))]
    simp
/-- len({f x for x in l}) -/
theorem e_lensc {α : Type} (ι : α → D) (l : List α) (f : α → D) (κ : α → Leaf) {vs : List Nat} {g : GM} (hm : mi Γ st = .ok (.tup (l.map ι)) s) (hl : l.length < 4096)
    (h : ∀ x ∈ l, ∃ Γ1, g (ι x) (wipeE Γ vs) = some Γ1 ∧ me Γ1 s = .ok (f x) s ∧ lfD (f x) = some (κ x)) : eLenSc vs mi g eYes me Γ st = .ok (.int (ddp (l.map κ)).length) s := by
  unfold eLenSc
  rw [hm]
  have := scL_all (me := me) ι f κ (g := g) (Γ := wipeE Γ vs) (s := s) l [] (by simpa using hl) h
  simpa using this
/-- the inner for of a comprehension, nothing changes in the store -/
theorem lcI_map {α : Type} (ι : α → D) (f : α → D) {g1 : GM} {Kn : Store → List D → ER} : ∀ (l : List α) (acc : List D), acc.length + l.length ≤ 16777216 → (∀ x ∈ l, ∃ Γ1, g1 (ι x) Γ = some Γ1 ∧ me Γ1 s = .ok (f x) s) →
    lcI g1 eYes me Kn (l.map ι) Γ s acc = Kn s (acc ++ l.map f)
  | [], acc, _, _ => by simp [lcI]
  | x :: l, acc, hl, h => by
    obtain ⟨Γ1, a, b⟩ := h x List.mem_cons_self
    have hl' : acc.length + (l.length + 1) ≤ 16777216 := by simpa using hl
    rw [List.map_cons]
    unfold lcI
    rw [a]
    dsimp only
    rw [show eYes Γ1 s = .ok (.bl true) s from rfl]
    dsimp only
    rw [b]
    dsimp only
    rw [if_pos (by omega), lcI_map ι f l (acc ++ [f x]) (by simp; omega) (fun y hy => h y (List.mem_cons_of_mem _ hy))]
    simp
/-- [f x y for x in l for y in k x], nothing changes in the store -/
theorem lcL2_map {α β : Type} (ι : α → D) (κ : β → D) (kk : α → List β) (f : α → β → D) {g g1 : GM} {vs1 : List Nat} : ∀ (l : List α) (acc : List D), acc.length + (l.flatMap kk).length ≤ 16777216 →
    (∀ x ∈ l, ∃ Γ1, g (ι x) Γ = some Γ1 ∧ mi1 Γ1 s = .ok (.tup ((kk x).map κ)) s ∧ ∀ y ∈ kk x, ∃ Γ2, g1 (κ y) (shO (wipeE Γ1 vs1)) = some Γ2 ∧ me Γ2 s = .ok (f x y) s) →
    lcL2 g eYes mi1 g1 eYes me vs1 (l.map ι) Γ s acc = .ok (.lst (acc ++ l.flatMap fun x => (kk x).map (f x))) s
  | [], acc, _, _ => by simp [lcL2]
  | x :: l, acc, hl, h => by
    obtain ⟨Γ1, a, b, c⟩ := h x List.mem_cons_self
    have hl' : acc.length + ((kk x).length + (l.flatMap kk).length) ≤ 16777216 := by simpa using hl
    rw [List.map_cons]
    unfold lcL2
    rw [a]
    dsimp only
    rw [show eYes Γ1 s = .ok (.bl true) s from rfl]
    dsimp only
    rw [b]
    dsimp only
    rw [lcI_map κ (f x) (kk x) acc (by omega) c, lcL2_map ι κ kk f l (acc ++ (kk x).map (f x)) (by simp only [List.length_append, List.length_map]; omega) (fun y hy => h y (List.mem_cons_of_mem _ hy))]
    simp
/-- [f x y for x in l for y in kk x] -/
theorem e_lc2 {α β : Type} (ι : α → D) (κ : β → D) (l : List α) (kk : α → List β) (f : α → β → D) {g g1 : GM} {vs vs1 : List Nat} (hm : mi Γ st = .ok (.tup (l.map ι)) s) (hl : (l.flatMap kk).length ≤ 16777216)
    (h : ∀ x ∈ l, ∃ Γ1, g (ι x) (wipeE Γ vs) = some Γ1 ∧ mi1 Γ1 s = .ok (.tup ((kk x).map κ)) s ∧ ∀ y ∈ kk x, ∃ Γ2, g1 (κ y) (shO (wipeE Γ1 vs1)) = some Γ2 ∧ me Γ2 s = .ok (f x y) s) :
    eLc2 vs vs1 mi g eYes mi1 g1 eYes me Γ st = .ok (.lst (l.flatMap fun x => (kk x).map (f x))) s := by
  unfold eLc2
  rw [hm]
  have := lcL2_map (mi1 := mi1) (me := me) (g := g) (g1 := g1) (vs1 := vs1) (Γ := wipeE Γ vs) (s := s) ι κ kk f l [] (by simpa using hl) h
  simpa using this
/-- a, b = e -/
theorem w_tgt {g : GM} (h : Ev (m Γ st) fun d s => ∃ Γ', g d Γ = some Γ' ∧ w.nx Γ' s) : Rn (sTgt g m Γ st) w := by
  obtain ⟨d, s, e, Γ', e2, q⟩ := h
  unfold sTgt
  rw [e]
  dsimp only
  rw [e2]
  exact .nx q
end
end DL
/-! plain: closures of texts, their ends -/
namespace DL
open PySem L2
def kids (p : Str) : List Str := (List.range p.length).flatMap fun j => [pfx p j ++ ("0" : Str), pfx p j ++ ("1" : Str)]
def clS (ps : List Str) : List Str := sset (("" : Str) :: ps.flatMap kids)
def lvS (ns : List Str) : List Str := ns.filter fun n => !decide (n ++ ("0" : Str) ∈ ns)
theorem kids_mem {p k : Str} : k ∈ kids p ↔ ∃ j, j < p.length ∧ (k = pfx p j ++ ("0" : Str) ∨ k = pfx p j ++ ("1" : Str)) := by
  unfold kids
  simp [List.mem_flatMap]
theorem clS_mem {ps : List Str} {k : Str} : k ∈ clS ps ↔ k = "" ∨ ∃ p ∈ ps, k ∈ kids p := by
  unfold clS
  rw [sset_mem, List.mem_cons, List.mem_flatMap]
theorem sset_nd (xs : List Str) : (sset xs).Nodup := (srtS_perm _).nodup_iff.mpr (ddp_nd xs)
theorem clS_nd (ps : List Str) : (clS ps).Nodup := sset_nd _
theorem sset_ext {a b : List Str} (h : ∀ k, k ∈ a ↔ k ∈ b) : sset a = sset b :=
  srtS_ext (ddp_nd a) (ddp_nd b) fun k => by rw [ddp_mem, ddp_mem]; exact h k
theorem clS_ext {a b : List Str} (h : ∀ k, k ∈ a ↔ k ∈ b) : clS a = clS b := sset_ext fun k => by
  simp only [List.mem_cons, List.mem_flatMap, h]
theorem srt_sset {l : List Str} {xs : List Str} (nd : l.Nodup) (h : ∀ k, k ∈ l ↔ k ∈ xs) : srtS l = sset xs :=
  srtS_ext nd (ddp_nd xs) fun k => by rw [ddp_mem]; exact h k
theorem pfx_bt {p : Str} (h : Bt p) (j : Nat) : Bt (pfx p j) := h.cut _ _
theorem kids_bt {p : Str} (h : Bt p) {k : Str} (hk : k ∈ kids p) : Bt k ∧ k.length ≤ p.length := by
  obtain ⟨j, hj, rfl | rfl⟩ := kids_mem.mp hk
  · exact ⟨(pfx_bt h j).append b0L.1, by rw [strLen_append, pfx_len (by omega), l0L.1]; omega⟩
  · exact ⟨(pfx_bt h j).append b0L.2.1, by rw [strLen_append, pfx_len (by omega), l0L.2.1]; omega⟩
theorem clS_bt {ps : List Str} {z : Nat} (h : ∀ p ∈ ps, Bt p ∧ p.length ≤ z) {k : Str} (hk : k ∈ clS ps) : Bt k ∧ k.length ≤ z := by
  rcases clS_mem.mp hk with rfl | ⟨p, hp, hk⟩
  · exact ⟨b0L.2.2, by rw [l0L.2.2]; omega⟩
  · have := kids_bt (h p hp).1 hk
    exact ⟨this.1, Nat.le_trans this.2 (h p hp).2⟩
theorem kids_len (p : Str) : (kids p).length = 2 * p.length := by
  unfold kids
  rw [List.length_flatMap]
  have : (List.range p.length).map (fun j => ([pfx p j ++ ("0" : Str), pfx p j ++ ("1" : Str)] : List Str).length) = (List.range p.length).map fun _ => 2 := List.map_congr_left fun _ _ => rfl
  rw [this, List.map_const', List.sum_replicate_nat]; simp; omega
theorem kids_all_len {ps : List Str} {z : Nat} (h : ∀ p ∈ ps, p.length ≤ z) : (ps.flatMap kids).length ≤ 2 * z * ps.length := by
  induction ps with
  | nil => simp
  | cons p ps ih =>
    rw [List.flatMap_cons, List.length_append, kids_len, List.length_cons]
    have h1 := ih fun q hq => h q (List.mem_cons_of_mem _ hq)
    have h2 := h p List.mem_cons_self
    have : 2 * z * (ps.length + 1) = 2 * z * ps.length + 2 * z := by rw [Nat.mul_add, Nat.mul_one]
    omega
theorem clS_len {ps : List Str} {z : Nat} (h : ∀ p ∈ ps, p.length ≤ z) : (clS ps).length ≤ 1 + 2 * z * ps.length := by
  unfold clS
  have := sset_len (("" : Str) :: ps.flatMap kids)
  have := kids_all_len h
  simp only [List.length_cons] at *
  omega
theorem lvS_mem {ns : List Str} {k : Str} : k ∈ lvS ns ↔ k ∈ ns ∧ k ++ ("0" : Str) ∉ ns := by
  unfold lvS
  simp [List.mem_filter]
/-- what a table's rows and closures are bounded by -/
structure PfxOK (z n : Nat) (ps : List Str) : Prop where
  key : ∀ p ∈ ps, Bt p ∧ p.length ≤ z
  len : ps.length ≤ n
theorem rng2_of {ma : EM} {Γ : DEnv} {st s : Store} {n : Nat} (h : ma Γ st = .ok (.tup [.int 1, .int ((n : Int) + 1)]) s) (hn : n < 4294967296) : eRng2 ma Γ st = .ok (.tup ((List.range n).map fun j : Nat => D.int ((j : Int) + 1))) s := by
  rw [eRng2_ap, h, ok_bind]
  dsimp only
  have h1 : -4611686018427387904 ≤ (1 : Int) ∧ (1 : Int) < 4611686018427387904 ∧ -4611686018427387904 ≤ (n : Int) + 1 ∧ (n : Int) + 1 < 4611686018427387904 := by omega
  rw [if_pos h1]
  have e : ((n : Int) + 1 - 1).toNat = n := by omega
  rw [e]
  unfold rng
  have : (fun (i : Nat) => D.int (1 + (i : Int) * 1)) = fun j : Nat => D.int ((j : Int) + 1) := by funext j; congr 1; omega
  rw [this]
/-! a target's text or None -/
def NS (d : D) : Prop := d = .non ∨ ∃ x, d = .str x
def eqB (a b : D) : Bool := match a, b with
  | .non, .non => true
  | .str x, .str y => decide (x = y)
  | _, _ => false
theorem eqB_iff {a b : D} (ha : NS a) (hb : NS b) : eqB a b = true ↔ a = b := by
  rcases ha with rfl | ⟨x, rfl⟩ <;> rcases hb with rfl | ⟨y, rfl⟩ <;> simp [eqB]
theorem eqB_self {a : D} (ha : NS a) : eqB a a = true := (eqB_iff ha ha).mpr rfl
theorem eqB_comm {a b : D} (ha : NS a) (hb : NS b) : eqB a b = eqB b a := by
  rw [Bool.eq_iff_iff, eqB_iff ha hb, eqB_iff hb ha]; exact ⟨Eq.symm, Eq.symm⟩
theorem dEqX_ns {a b : D} (ha : NS a) (hb : NS b) : dEqX a b = some (eqB a b) := by
  rcases ha with rfl | ⟨x, rfl⟩ <;> rcases hb with rfl | ⟨y, rfl⟩ <;> simp [eqB, dEq, sclEq]
theorem NS.dr {a : D} (ha : NS a) (st : Store) : deref st a = a := by rcases ha with rfl | ⟨x, rfl⟩ <;> rfl
theorem TgD.ns {d : D} (h : TgD d) : NS d := let ⟨x, e, _⟩ := h; .inr ⟨x, e⟩
theorem leadS_ns {l : KV} (h : ∀ p ∈ l, NS p.2) (spot : Str) : NS (leadS l spot) := leadS_all (P := NS) (.inl rfl) h spot
/-- a text filled up to a width -/
def padS (z : Nat) (p c : Str) : Str := p ++ repS c ((z : Int) - (p.length : Int))
theorem padS_len {z : Nat} {p c : Str} (h : p.length ≤ z) (hc : c.length = 1) : (padS z p c).length = z := by
  unfold padS
  rw [strLen_append, rep_len, hc]; omega
theorem padS_bt {z : Nat} {p c : Str} (h : Bt p) (hc : Bt c) : Bt (padS z p c) := h.append (hc.rep _)
section
variable {Γ : DEnv} {st s : Store} {w : Ws} {b : SM} {mi : EM}
/-- a for that returns at the first turn that is so, and changes nothing otherwise -/
theorem w_first {α : Type} (ι : α → D) (l : List α) (p : α → Bool) {g : GM} (I : DEnv → Prop) (hm : mi Γ st = .ok (.tup (l.map ι)) s) (h0 : I Γ)
    (hs : ∀ x ∈ l, ∀ Γ, I Γ → ∃ Γ1, g (ι x) Γ = some Γ1 ∧ (p x = true → l.find? p = some x → ∃ d s', b Γ1 s = .ret d s' ∧ w.rt d s') ∧ (p x = false → ∃ Γ2, b Γ1 s = .nx Γ2 s ∧ I Γ2))
    (hd : ∀ Γ, I Γ → l.find? p = none → w.nx Γ s) : Rn (sFor mi g b Γ st) w := by
  refine w_ev (Ev.of hm ?_)
  dsimp only
  clear hm
  induction l generalizing Γ with
  | nil => exact .nx (hd Γ h0 rfl)
  | cons x l ih =>
    obtain ⟨Γ1, g1, h1, h2⟩ := hs x List.mem_cons_self Γ h0
    rw [List.map_cons]
    unfold forL
    rw [g1]
    dsimp only
    cases hp : p x with
    | true =>
      obtain ⟨d, s', e2, q⟩ := h1 hp (by simp [hp])
      rw [e2]
      exact .ret q
    | false =>
      obtain ⟨Γ2, e2, i2⟩ := h2 hp
      rw [e2]
      exact ih i2 (fun y hy Γ i => let ⟨Γ1, a, c, d⟩ := hs y (List.mem_cons_of_mem _ hy) Γ i; ⟨Γ1, a, fun e q => c e (by simp [hp, q]), d⟩) (fun Γ i e => hd Γ i (by simp [hp, e]))
end
theorem nb_target_of : (("target_of" : Str) == ("bits" : Str)) = false ∧ (("target_of" : Str) == ("held" : Str)) = false := by decide +kernel
theorem nb_is_value : (("is_value" : Str) == ("bits" : Str)) = false ∧ (("is_value" : Str) == ("held" : Str)) = false := by decide +kernel
theorem nb_kept_value : (("kept_value" : Str) == ("bits" : Str)) = false ∧ (("kept_value" : Str) == ("held" : Str)) = false := by decide +kernel
theorem nb_walk : (("walk" : Str) == ("bits" : Str)) = false ∧ (("walk" : Str) == ("held" : Str)) = false := by decide +kernel
theorem nb_allowed : (("allowed" : Str) == ("bits" : Str)) = false ∧ (("allowed" : Str) == ("held" : Str)) = false := by decide +kernel
theorem nb_allowed_at : (("allowed_at" : Str) == ("bits" : Str)) = false ∧ (("allowed_at" : Str) == ("held" : Str)) = false := by decide +kernel
theorem nb_allows : (("allows" : Str) == ("bits" : Str)) = false ∧ (("allows" : Str) == ("held" : Str)) = false := by decide +kernel
theorem nb_first_failure : (("first_failure" : Str) == ("bits" : Str)) = false ∧ (("first_failure" : Str) == ("held" : Str)) = false := by decide +kernel
theorem nb_is_fulfilled : (("is_fulfilled" : Str) == ("bits" : Str)) = false ∧ (("is_fulfilled" : Str) == ("held" : Str)) = false := by decide +kernel
theorem nb_is_target : (("is_target" : Str) == ("bits" : Str)) = false ∧ (("is_target" : Str) == ("held" : Str)) = false := by decide +kernel
theorem nb_width : (("width" : Str) == ("bits" : Str)) = false ∧ (("width" : Str) == ("held" : Str)) = false := by decide +kernel
theorem nb_targets : (("targets" : Str) == ("bits" : Str)) = false ∧ (("targets" : Str) == ("held" : Str)) = false := by decide +kernel
theorem Rn.only {r : SR} {P : DEnv → Store → Prop} {w : Ws} (h : Rn r { nx := P }) (q : ∀ Γ s, P Γ s → w.nx Γ s) : Rn r w :=
  h.imp q (fun _ _ h => h.elim) (fun _ _ h => h.elim) (fun _ _ h => h.elim) (fun _ _ _ h => h.elim)
theorem PenX.more {ns : List Int} {c : Int} {e : Nat} {r st : Store} (h : PenX ns c e r st) (ts : Store) : PenX ns c e (r ++ ts) (st ++ ts) := by
  obtain ⟨i, n, ext, h0, h1, h2, rfl⟩ := h
  exact ⟨i, n, ext, h0, h1, h2, rfl⟩
end DL
namespace DL
open PySem L2
theorem next_spec {st : Store} {l : Nat} {ns : List Int} {i n : Int} {ext : List D} (h : st[l]? = some (penD ns i n ext)) (h0 : 0 ≤ i) (h1 : i < 1152921504606846976) :
    ∃ c, D__law_next [.ref l] st = .ok (.int c) (st.set l (penD ns (i + 1) n ext)) := by
  have hs : ∀ d, (st.set l d)[l]? = some d := fun d => List.getElem?_set_self (getElem?_lt h)
  unfold D__law_next run m__law_next
  cases ns with
  | nil =>
    have q : ¬ i < 0 := by omega
    simp (disch := omega) [-getElem?_pos, -List.getElem?_set_self, initE, h, hs, penD, dEq, sclEq, pyEq, D.py, D.pyL, PyData.eqv, PyData.eqvAll, show SeqAt.shaped (.list []) = true from by decide, q]
  | cons m ms =>
    have e := dEq_ints_nil (m :: ms)
    rw [List.map_cons] at e
    obtain ⟨c, hc⟩ := atI_int (m :: ms) (i % ((ms.length : Int) + 1)) (mod_lt (by omega)).1 (by have := (mod_lt (a := i) (b := (ms.length : Int) + 1) (by omega)).2; simpa using this)
    rw [List.map_cons] at hc
    by_cases q1 : i < (ms.length : Int) + 1
    · by_cases q2 : (1000000000000000000 : Int) ≤ c
      · simp (disch := omega) [-getElem?_pos, -List.getElem?_set_self, initE, h, hs, penD, e, hc, q1, q2]
      · simp (disch := omega) [-getElem?_pos, -List.getElem?_set_self, initE, h, hs, penD, e, hc, q1, q2]
    · simp (disch := omega) [-getElem?_pos, -List.getElem?_set_self, initE, h, hs, penD, e, hc, q1]
theorem draw_spec {st : Store} {l : Nat} {ns : List Int} {i n : Int} {ext : List D} (h : st[l]? = some (penD ns i n ext)) (h0 : 0 ≤ i) (h1 : i < 1152921504606846976) {b : Int} (hb : 0 < b ∧ b < 1073741824) :
    ∃ k i' n' : Int, 0 ≤ k ∧ k < b ∧ 0 ≤ i' ∧ i' ≤ i + 1 ∧ D__law_draw [.ref l, .int b] st = .ok (.int k) (st.set l (penD ns i' n' ext)) := by
  have hs : ∀ d, (st.set l d)[l]? = some d := fun d => List.getElem?_set_self (getElem?_lt h)
  unfold D__law_draw run m__law_draw
  by_cases q : n < b
  · obtain ⟨c, hc⟩ := next_spec h h0 h1
    refine ⟨c % b, i + 1, c / b, (mod_lt hb.1).1, (mod_lt hb.1).2, by omega, by omega, ?_⟩
    have h' : st[l]? = some (.lst (.lst (ns.map .int) :: .int i :: .int n :: ext)) := h
    simp only [penD] at hc
    simp (disch := omega) [-getElem?_pos, -List.getElem?_set_self, initE, h', hs, penD, q, hc]
  · refine ⟨n % b, i, n / b, (mod_lt hb.1).1, (mod_lt hb.1).2, h0, by omega, ?_⟩
    simp (disch := omega) [-getElem?_pos, -List.getElem?_set_self, initE, h, hs, penD, q]
theorem drawX {ns : List Int} {c : Int} {e : Nat} {r st : Store} (h : PenX ns c e r st) (hc : c < 1000000000) {b : Int} (hb : 0 < b ∧ b < 1073741824) : ∃ k st', 0 ≤ k ∧ k < b ∧ D__law_draw [.ref 0, .int b] st = .ok (.int k) st' ∧ PenX ns (c + 1) e r st' := by
  obtain ⟨i, n, ext, h0, h1, h2, rfl⟩ := h
  obtain ⟨k, i', n', a, b', c', d, q⟩ := draw_spec (st := penD ns i n ext :: r) (l := 0) (ext := ext) rfl h0 (by omega) hb
  exact ⟨k, _, a, b', q, i', n', ext, c', by omega, h2, rfl⟩
theorem pen_spec {ns : List Int} {st : Store} (h : ns.length ≤ 63) : D__law_pen [.scr ns] st = .ok (.ref st.length) (st ++ [penD (ns.take 60) 0 0 []]) := by
  unfold D__law_pen run m__law_pen
  simp -implicitDefEqProofs [-getElem?_pos, initE, oSl, cutL_60 h, penD]
theorem bitsX {ns : List Int} {c : Int} {e : Nat} {r st : Store} (hp : PenX ns c e r st) {z : Nat} (hz : z ≤ 100) (hc : c < 100000000) :
    ∃ x st', D__law_bits [.ref 0, .int z] st = .ok (.str x) st' ∧ x.length ≤ z ∧ Bt x ∧ PenX ns (c + 101) e r st' := by
  obtain ⟨t, st0, t0, t1, e0, hp0⟩ := drawX hp (by omega) (b := (z : Int) + 1) (by omega)
  obtain ⟨xs, st1, h1, hp1, hE, hl⟩ := lcL_ok (g := gN 2) (me := eOp oIxX (eC (.str "01")) (eCall D__law_draw (eCons (eVar 0) (eCons (eC (.int 2)) eNil)))) (Γ := wipeE [Sl.sh (.ref 0), .sh (.int z), .no] [2])
    (E := fun d => ∃ c, (c = 48 ∨ c = 49) ∧ d = .str (sgn c)) (ds := rng 0 1 t.toNat) (fun j s => PenX ns (c + 1 + j) e r s) (fun j d hd s hs => by
      have hj := (rng_at hd).1
      obtain ⟨k, s', k0, k1, ek, hs'⟩ := drawX hs (by omega) (b := 2) (by omega)
      obtain ⟨ch, hch, ea⟩ := atI_01 k0 k1
      refine ⟨_, rfl, .str (sgn ch), s', ?_, ⟨ch, hch, rfl⟩, hs'.mono (by omega)⟩
      simp -implicitDefEqProofs (disch := decide +kernel) [-getElem?_pos, wipeE, ek, ea]) st0 [] (hp0.mono (by omega)) (by rw [rng_length]; simp; omega)
  rw [rng_length] at hl hp1
  obtain ⟨ys, y1, y2⟩ := strs_of (fun x hx => let ⟨c, _, e⟩ := hE x hx; ⟨_, e⟩)
  have hy : ∀ y ∈ ys, ∃ c, (c = 48 ∨ c = 49) ∧ y = sgn c := fun y hy => by
    obtain ⟨c, h, e⟩ := hE (.str y) (by rw [y2]; exact List.mem_map_of_mem hy)
    exact ⟨c, h, by cases e; rfl⟩
  have hyl : ys.length = t.toNat := by rw [← hl, y2]; simp
  obtain ⟨j1, j2, j3⟩ := join_bits hy
  have hC : C__law_bits_1 [Sl.sh (.ref 0), .sh (.int z), .no] st = .ok (.lst xs) st1 := by
    unfold C__law_bits_1
    rw [eLc_of (eRng1_i (n := t) (s := st0) (by simp -implicitDefEqProofs [-getElem?_pos, e0]) (by omega))]
    simpa using h1
  refine ⟨Txt.join "" ys, st1, ?_, by omega, j2, hp1.mono (by omega)⟩
  have l0 : ("" : Str).length = 0 := by decide +kernel
  have hsz : (ys.map (·.length)).sum + ys.length * ("" : Str).length ≤ 16777216 := by rw [j3, l0]; omega
  have ej : oJoin (.str "") (.lst xs) st1 = .ok (.str (Txt.join "" ys)) st1 := by
    simp only [oJoin, y1]
    exact if_pos hsz
  unfold D__law_bits run m__law_bits
  simp -implicitDefEqProofs [-getElem?_pos, initE, hC, ej]

end DL
namespace DL
open PySem L2
theorem prefixesX {ns : List Int} {c : Int} {e : Nat} {r st : Store} (hp : PenX ns c e r st) {z m : Nat} (hz : 1 ≤ z ∧ z ≤ 32) (hm : m ≤ 60) (hc : c < 10000000) :
    ∃ (ys : List Str) (st' : Store), D__law_prefixes [.ref 0, .int z, .int m] st = .ok (.lst (ys.map .str)) st' ∧ ys.Nodup ∧ ys.length ≤ m ∧ (∀ y ∈ ys, Bt y ∧ y.length ≤ z) ∧ PenX ns (c + 10000) e r st' := by
  obtain ⟨t, st0, t0, t1, e0, hp0⟩ := drawX hp (by omega) (b := (m : Int) + 1) (by omega)
  obtain ⟨Γ', st', f1, ⟨ys, a4, a5, a6, rfl, nd, ln, gd, hp1⟩⟩ := forL_ok (g := gN 4) (mb := B__law_prefixes_1) (ds := rng 0 1 t.toNat)
    (fun j Γ s => ∃ (ys : List Str) (a4 a5 a6 : Sl), Γ = [.sh (.ref 0), .sh (.int z), .sh (.int m), .ow (.lst (ys.map .str)), a4, a5, a6] ∧ ys.Nodup ∧ ys.length ≤ j ∧ (∀ y ∈ ys, Bt y ∧ y.length ≤ z) ∧ PenX ns (c + 1 + 110 * j) e r s)
    (fun j d hd Γ s hi => by
      obtain ⟨hj, rfl⟩ := rng_at hd
      obtain ⟨ys, a4, a5, a6, rfl, nd, ln, gd, hs⟩ := hi
      -- start
      have hstart : ∃ (y0 : Str) (s1 : Store), (eIf (eAnd (eOp oNeX (eVarB 3) (eLst eNil)) (eOp oEqX (eCall D__law_draw (eCons (eVar 0) (eCons (eC (.int 2)) eNil))) (eC (.int 0)))) (eOp oIxX (eVarB 3) (eCall D__law_draw (eCons (eVar 0) (eCons (eB bLen (eCons (eVarB 3) eNil)) eNil)))) (eC (.str "")))
          [.sh (.ref 0), .sh (.int z), .sh (.int m), .ow (.lst (ys.map .str)), .sh (.int (0 + (j : Int) * 1)), a5, a6] s = .ok (.str y0) s1 ∧ Bt y0 ∧ y0.length ≤ z ∧ PenX ns (c + 1 + 110 * j + 2) e r s1 := by
        have e1 := dEq_strs_nil ys fun y hy => (gd y hy).1.ok
        have eb : Bt ("" : Str) := by decide +kernel
        have el : ("" : Str).length = 0 := by decide +kernel
        cases ys with
        | nil =>
          refine ⟨"", s, ?_, eb, by omega, hs.mono (by omega)⟩
          rw [List.map_nil] at e1
          simp -implicitDefEqProofs [-getElem?_pos, e1]
        | cons y ys =>
          obtain ⟨k, s1, k0, k1, ek, hs1⟩ := drawX hs (by omega) (b := 2) (by omega)
          rw [List.map_cons] at e1
          by_cases hk : k = 0
          · obtain ⟨k2, s2, k20, k21, ek2, hs2⟩ := drawX hs1 (by omega) (b := (((y :: ys).map D.str).length : Nat)) (by simp at ln ⊢; omega)
            obtain ⟨x, hx, hxm⟩ := atI_of (l := (y :: ys).map D.str) k20 k21
            obtain ⟨y0, hy0, rfl⟩ := List.mem_map.mp hxm
            refine ⟨y0, s2, ?_, (gd y0 hy0).1, (gd y0 hy0).2, hs2.mono (by omega)⟩
            rw [List.map_cons] at hx ek2
            rw [List.length_cons, List.length_map] at ek2
            simp -implicitDefEqProofs [-getElem?_pos, e1, ek, hk]
            simp -implicitDefEqProofs [-getElem?_pos] at ek2
            simp -implicitDefEqProofs [-getElem?_pos, ek2, hx]
          · refine ⟨"", s1, ?_, eb, by omega, hs1.mono (by omega)⟩
            simp -implicitDefEqProofs [-getElem?_pos, e1, ek, hk]
      obtain ⟨y0, s1, es, b0, l0, hs1⟩ := hstart
      have hmin : (if (5 : Int) < (z : Int) then (5 : Int) else (z : Int)) = ((min 5 z : Nat) : Int) := by
        by_cases q : (5 : Int) < (z : Int)
        · rw [if_pos q]; omega
        · rw [if_neg q]; omega
      obtain ⟨x1, s2, eb, bl, bb, hs2⟩ := bitsX hs1 (z := min 5 z) (by omega) (by omega)
      have hlen : y0.length + x1.length ≤ 16777216 := by omega
      have hlen2 : (y0 ++ x1).length ≤ 16777216 := by rw [strLen_append]; omega
      have bn : Bt (cutS (y0 ++ x1) none (some (z : Int))) := (b0.append bb).cut _ _
      have ln2 := cut_hi (y0 ++ x1) z
      have hin := inD_strs (cutS (y0 ++ x1) none (some (z : Int))) ys
      unfold B__law_prefixes_1
      refine ⟨_, rfl, ?_⟩
      show ∃ Γ2 st2, sSeq _ _ [.sh (.ref 0), .sh (.int z), .sh (.int m), .ow (.lst (ys.map .str)), .sh (.int (0 + (j : Int) * 1)), a5, a6] s = _ ∧ _
      rw [sSeq_ap, sAsg_ap, es]
      simp -implicitDefEqProofs only [ok_bs, nx_bind, List.set_cons_succ, List.set_cons_zero]
      by_cases hq : cutS (y0 ++ x1) none (some (z : Int)) ∈ ys
      · refine ⟨[.sh (.ref 0), .sh (.int z), .sh (.int m), .ow (.lst (ys.map .str)), .sh (.int (0 + (j : Int) * 1)), .sh (.str y0), .sh (.str (cutS (y0 ++ x1) none (some (z : Int))))], s2, ?_, ys, _, _, _, rfl, nd, by omega, gd, hs2.mono (by omega)⟩
        simp -implicitDefEqProofs (disch := assumption) [-getElem?_pos, hmin, eb, hin, hq]
      · refine ⟨[.sh (.ref 0), .sh (.int z), .sh (.int m), .ow (.lst ((ys ++ [cutS (y0 ++ x1) none (some (z : Int))]).map .str)), .sh (.int (0 + (j : Int) * 1)), .sh (.str y0), .sh (.str (cutS (y0 ++ x1) none (some (z : Int))))], s2, ?_, _, _, _, _, rfl, ?_, by simp; omega, ?_, hs2.mono (by omega)⟩
        · have hl3 : ys.length < 16777216 := by omega
          simp -implicitDefEqProofs (disch := assumption) [-getElem?_pos, hmin, eb, hin, hq, hl3]
        · exact List.nodup_append.mpr ⟨nd, by simp, fun a ha b hb => by simp at hb; subst hb; exact fun z => hq (z ▸ ha)⟩
        · intro y hy
          rcases List.mem_append.mp hy with hy | hy
          · exact gd y hy
          · simp at hy; subst hy; exact ⟨bn, ln2⟩)
    [.sh (.ref 0), .sh (.int z), .sh (.int m), .ow (.lst []), .no, .no, .no] st0 ⟨[], _, _, _, rfl, List.nodup_nil, Nat.le_refl _, by simp, hp0.mono (by omega)⟩
  rw [rng_length] at ln hp1
  refine ⟨ys, st', ?_, nd, by omega, gd, hp1.mono (by omega)⟩
  have hf := sFor_of (mi := eRng1 (eCons (eCall D__law_draw (eCons (eVar 0) (eCons (eOp oAdd (eVarB 2) (eC (.int 1))) eNil))) eNil)) (g := gN 4) (b := B__law_prefixes_1) (Γ := [.sh (.ref 0), .sh (.int z), .sh (.int m), .ow (.lst []), .no, .no, .no]) (st := st) (s := st0) (ds := rng 0 1 t.toNat) (eRng1_i (by simp -implicitDefEqProofs [-getElem?_pos, e0]) (by omega))
  unfold D__law_prefixes run m__law_prefixes
  simp -implicitDefEqProofs [-getElem?_pos, -sFor_ap, initE, hf, f1, frz, frzX]

end DL
namespace DL
open PySem L2
/-- lines of names -/
theorem linesX {ns : List Int} {c : Int} {e : Nat} {r st : Store} (hp : PenX ns c e r st) {z m : Nat} (hz : 1 ≤ z ∧ z ≤ 32) (hm : m ≤ 60) (hc : c < 10000000) :
    ∃ (l : KV) (st' : Store), D__law_lines [.ref 0, .int z, .int m] st = .ok (.dct (Fd l)) st' ∧ (ks l).Nodup ∧ l.length ≤ m ∧ (∀ y ∈ ks l, Bt y ∧ y.length ≤ z) ∧ (∀ p ∈ l, Name p.2) ∧ PenX ns (c + 20000) e r st' := by
  obtain ⟨ys, st1, e1, nd, ln, gd, hp1⟩ := prefixesX hp hz hm hc
  have : Ev (D__law_lines [.ref 0, .int z, .int m] st) fun d st' => ∃ l : KV, d = .dct (Fd l) ∧ (ks l).Nodup ∧ l.length ≤ m ∧ (∀ y ∈ ks l, Bt y ∧ y.length ≤ z) ∧ (∀ p ∈ l, Name p.2) ∧ PenX ns (c + 20000) e r st' := by
    unfold D__law_lines
    refine e_run rfl ?_
    unfold m__law_lines
    refine w_as (d := .lst namesD) (s := st) (by simp -implicitDefEqProofs [-getElem?_pos, namesD]) (w_ret ?_)
    refine e_b1 ?_
    unfold C__law_lines_1
    refine e_lc .str pD ys (fun y p => y = p.1 ∧ Name p.2) (fun j s => PenX ns (c + 10000 + j) e r s) (s := st1) (by simp -implicitDefEqProofs [-getElem?_pos, initE, e1]) (by omega) (hp1.mono (by omega)) ?_ ?_
    · intro j y hy s hs
      have := getElem?_lt hy
      obtain ⟨k, s', k0, k1, ek, hs'⟩ := drawX hs (by omega) (b := 4) (by omega)
      obtain ⟨d, hd1, hd2⟩ := atI_of (l := namesD) k0 (by show k < 4; exact k1)
      refine ⟨_, rfl, Ev.of (d := .tup [.str y, d]) (s := s') ?_ ⟨(y, d), rfl, ⟨rfl, hd2⟩, hs'.mono (by omega)⟩⟩
      simp -implicitDefEqProofs [-getElem?_pos, wipeE, initE, ek, hd1]
    · intro l s' hR hs'
      have hl := pd_len hR
      have hk : ks l = ys := by
        have := pd_map hR (f := fun p => p.1) (h := fun y => y) (fun x y h => h.1.symm)
        simpa [ks] using this
      refine Ev.of (d := .dct (Fd l)) (s := s') ?_ ⟨l, rfl, by rw [hk]; exact nd, by omega, by rw [hk]; exact gd, fun p hp => (pd_all hR p hp).elim fun x h => h.2.2, hs'.mono (by omega)⟩
      simp -implicitDefEqProofs [-getElem?_pos, pairsD_Fd, show mergeD [] (Fd l) = Fd l from (Fd_merge l []).trans (by rw [mergeS_nil (by rw [hk]; exact nd)])]
  obtain ⟨d, st', e2, l, rfl, q⟩ := this
  exact ⟨l, st', e2, q⟩
end DL
namespace DL
open PySem L2
theorem preX {x : Str} (hb : Bt x) {m : Nat} (hl : x.length ≤ m) (hm : m ≤ 1000) (st : Store) : D_is_prefix [.str x, .int m] st = .ok (.bl true) st := by
  obtain ⟨k1, k2, k3, k4⟩ := kit_all
  have hx : x.length ≤ 16777216 := by omega
  have hl' : (x.length : Int) ≤ (m : Int) := by omega
  have hc : C_is_prefix_1 [.sh (.str x), .sh (.int m), .no] st = .ok (.lst (x.cps.toList.map fun c => .bl (bitD (.str (sgn c))))) st := by
    unfold C_is_prefix_1
    refine lc_map (fun c => .str (sgn c)) x.cps.toList _ (by simp -implicitDefEqProofs [-getElem?_pos, sgns]) (by rw [← len_toList]; exact hx) (fun c hc => ⟨_, rfl, ?_⟩)
    simp -implicitDefEqProofs [wipeE, inD, flD, flDs, bitD]
  have ha : (x.cps.toList.map fun c => bitD (.str (sgn c))).all id = true := by
    rw [List.all_map, List.all_eq_true]
    intro c hc
    exact bitD_of (hb c hc)
  have hbl : blsD (x.cps.toList.map fun c => .bl (bitD (.str (sgn c)))) = some (x.cps.toList.map fun c => bitD (.str (sgn c))) := bls_gen _ _
  unfold D_is_prefix run m_is_prefix
  simp -implicitDefEqProofs (disch := assumption) [-getElem?_pos, -List.all_map, initE, tyN, k1, hl', hc, hbl, ha]
theorem intX {i lo hi : Int} (h : lo ≤ i ∧ i ≤ hi) (st : Store) : D_is_integer [.int i, .int lo, .int hi] st = .ok (.bl true) st := by
  obtain ⟨k1, k2, k3, k4⟩ := kit_all
  unfold D_is_integer run m_is_integer
  simp -implicitDefEqProofs [-getElem?_pos, initE, tyN, k2, k3, h.1, h.2]
theorem targetX {x : Str} (h : Tg x) (st : Store) : D_Table_is_target [.str x] st = .ok (.bl true) st := by
  obtain ⟨k1, k2, k3, k4⟩ := kit_all
  have hx : x.length ≤ 16777216 := by have := h.2.1; omega
  have h1 : (1 : Int) ≤ (x.length : Int) := by have := h.1; omega
  have h2 : (x.length : Int) ≤ 8 := by have := h.2.1; omega
  have hc : C_Table_is_target_1 [.sh (.str x), .no] st = .ok (.lst (x.cps.toList.map fun c => .bl (ltB c))) st := by
    unfold C_Table_is_target_1
    refine lc_map (fun c => .str (sgn c)) x.cps.toList _ (by simp -implicitDefEqProofs [-getElem?_pos, sgns]) (by rw [← len_toList]; exact hx) (fun c hc => ⟨_, rfl, ?_⟩)
    have : inD (.str (sgn c)) (.str lettersS) = some (ltB c) := rfl
    simp -implicitDefEqProofs [wipeE]
    rw [show ("abcdefghijklmnopqrstuvwxyz" : Str) = lettersS from rfl, this]
  have ha : (x.cps.toList.map fun c => ltB c).all id = true := by
    rw [List.all_map, List.all_eq_true]
    intro c hc
    exact decide_eq_true (h.2.2 c hc)
  have hbl : blsD (x.cps.toList.map fun c => .bl (ltB c)) = some (x.cps.toList.map fun c => ltB c) := bls_gen _ _
  unfold D_Table_is_target run m_Table_is_target
  simp -implicitDefEqProofs (disch := assumption) [-getElem?_pos, -List.all_map, initE, tyN, k1, h1, h2, hc, hbl, ha]
theorem ivX_Table {v : D} (h : ∃ x, v = .str x ∧ Tg x) (o : D) (st : Store) : D_Table_is_value [o, v] st = .ok (.bl true) st := by
  obtain ⟨x, rfl, h⟩ := h
  have := targetX h st
  unfold D_Table_is_value run m_Table_is_value
  simp -implicitDefEqProofs [-getElem?_pos, initE, this]
theorem keptX (o v : D) (st : Store) : D_PrefixMap_kept_value [o, v] st = .ok v st := by
  unfold D_PrefixMap_kept_value run m_PrefixMap_kept_value
  simp -implicitDefEqProofs [-getElem?_pos, initE]
theorem initX_Table {k : Nat} {z : Nat} {l : KV} {st : Store} (hst : st[k]? = some (.ins "Table" [])) (hz : 1 ≤ z ∧ z ≤ 32) (nd : (ks l).Nodup) (hl : l.length ≤ 1000) (hk : ∀ y ∈ ks l, Bt y ∧ y.length ≤ z) (hv : ∀ p ∈ l, TgD p.2) :
    D_PrefixMap___init__ [.ref k, .int z, .dct (Fd l)] st = .ok .non (st.set k (mapD "Table" z (ordS l))) := by
  obtain ⟨k1, k2, k3, k4⟩ := kit_all
  have hi := intX (i := z) (lo := 1) (hi := 32) (by omega)
  have hlt := getElem?_lt hst
  have hl2 : l.length < 16777216 := by omega
  have hC1 : C_PrefixMap___init___1 [Sl.sh (.ref k), .sh (.int z), .sh (.dct (Fd l)), .no] st = .ok (.lst ((ks l).map fun _ => .bl true)) st := by
    unfold C_PrefixMap___init___1
    refine lc_map .str (ks l) (fun _ => .bl true) (by simp only [eIterX_ap, eVar_ap, getE_0, getE_s, ok_bind]; rw [Fd_keys]) (by rw [ks_len]; omega) (fun y hy => ⟨_, rfl, ?_⟩)
    obtain ⟨v, hv1, hv2⟩ := valS_some hy
    have hp := preX (hk y hy).1 (hk y hy).2 (by omega) st
    have hm := ivX_Table (hv _ hv2) (.ref k) st
    simp -implicitDefEqProofs [-getElem?_pos, wipeE, hp, hst, hm, keyD, Fd_val, hv1, List.lookup]
  have hb := bls_gen (fun _ => true) (ks l)
  have hall : ((ks l).map fun _ => true).all id = true := by simp
  have hset : ((st.set k (.ins "Table" [("bits", .int z)]))[k]?) = some (.ins "Table" [("bits", .int z)]) := List.getElem?_set_self hlt
  have nd2 : (srtS (ks l)).Nodup := (srtS_perm _).nodup_iff.mpr nd
  have hC2 : C_PrefixMap___init___2 [Sl.sh (.ref k), .sh (.int z), .sh (.dct (Fd l)), .no] (st.set k (.ins "Table" [("bits", .int z)])) = .ok (.dct (Fd (ordS l))) (st.set k (.ins "Table" [("bits", .int z)])) := by
    unfold C_PrefixMap___init___2
    refine dc_keys (srtS (ks l)) (fun k => (valS l k).getD .non) nd2 (s := st.set k (.ins "Table" [("bits", .int z)])) (by simp -implicitDefEqProofs [-getElem?_pos, -List.getElem?_set_self]) (by rw [(srtS_perm _).length_eq, ks_len]; omega) (fun y hy => ?_)
    have hy' : y ∈ ks l := (srtS_perm _).mem_iff.mp hy
    obtain ⟨v, hv1, hv2⟩ := valS_some hy'
    have nk : (("kept_value" : Str) == ("bits" : Str)) = false := by decide +kernel
    exact ⟨_, rfl, by simp [wipeE], by simp -implicitDefEqProofs [-getElem?_pos, -List.getElem?_set_self, wipeE, hset, nk, hv1, keptX, keyD, Fd_val, List.lookup]⟩
  obtain ⟨f1, f2⟩ := ne_fld
  unfold D_PrefixMap___init__ run m_PrefixMap___init__
  simp -implicitDefEqProofs [-getElem?_pos, -List.getElem?_set_self, -List.all_map, initE, hi, tyN, k4, hC1, hb, hall, hst, hset, hC2, putFD, List.lookup, f1, f2, List.set_set, mapD]
theorem makeX_Table {ms : EM} {Γ : DEnv} {st s : Store} {z : Nat} {l : KV} (h : ms Γ st = .ok (.tup [.int z, .dct (Fd l)]) s) (hz : 1 ≤ z ∧ z ≤ 32) (nd : (ks l).Nodup) (hl : l.length ≤ 1000) (hk : ∀ y ∈ ks l, Bt y ∧ y.length ≤ z) (hv : ∀ p ∈ l, TgD p.2) :
    eMake "Table" D_PrefixMap___init__ ms Γ st = .ok (mapD "Table" z (ordS l)) (s ++ [.tomb]) := by
  have hs : (s ++ [D.ins "Table" []])[s.length]? = some (.ins "Table" []) := by simp
  have e := initX_Table hs hz nd hl hk hv
  rw [eMake_ap, h, ok_bind]
  dsimp only
  rw [e]
  simp [mapD]
end DL
namespace DL
open PySem L2
theorem longestX_Table {z : Nat} {l : KV} {spot : Str} (hb : Bt spot) (hl : spot.length ≤ z) (hz : z ≤ 1000) (st : Store) :
    D_PrefixMap_longest [mapD "Table" z l, .str spot] st = .ok (oD (bestS spot (ks l))) st := by
  have hp := preX hb hl hz st
  have hspot : spot.length ≤ 16777216 := by omega
  have hr : ∀ j : Nat, j < spot.length + 1 → (spot.length : Int) + (j : Int) * (-1) = ((spot.length - j : Nat) : Int) := fun j hj => by omega
  have hf := sFor_of (mi := eRngD (eCons (eB bLen (eCons (eVarB 1) eNil)) (eCons (eNeg (eC (.int 1))) (eCons (eNeg (eC (.int 1))) eNil)))) (g := gN 2) (b := B_PrefixMap_longest_1) (Γ := [.sh (mapD "Table" z l), .sh (.str spot), .no]) (st := st) (s := st) (ds := rng spot.length (-1) ((spot.length : Int) - (-1)).toNat)
    (eRngD_i (by simp -implicitDefEqProofs (disch := assumption) [-getElem?_pos]) (by omega) (by omega))
  have hn : ((spot.length : Int) - (-1)).toNat = spot.length + 1 := by omega
  rw [hn] at hf
  have h1 := fld_bits (.int z) (.dct (Fd l))
  have h2 := fld_held (.int z) (.dct (Fd l))
  have first := forL_first (g := gN 2) (mb := B_PrefixMap_longest_1) (st := st) (I := fun Γ => ∃ a, Γ = [.sh (mapD "Table" z l), .sh (.str spot), a]) (ds := rng spot.length (-1) (spot.length + 1)) (fun j => decide (pfx spot (spot.length - j) ∈ ks l)) (fun j => .str (pfx spot (spot.length - j)))
    (fun j d hd Γ hi => by
      obtain ⟨hj, rfl⟩ := rng_at hd
      obtain ⟨a, rfl⟩ := hi
      rw [hr j hj]
      have hk := Fd_has l (pfx spot (spot.length - j))
      refine ⟨_, rfl, fun hp => ?_, fun hp => ⟨[.sh (mapD "Table" z l), .sh (.str spot), .sh (.int ((spot.length - j : Nat) : Int))], ?_, _, rfl⟩⟩
      · rw [hp] at hk
        unfold B_PrefixMap_longest_1 mapD
        simp -implicitDefEqProofs (disch := assumption) [-getElem?_pos, h2, inD, keyD]
        rw [show cutS spot none (some ((spot.length - j : Nat) : Int)) = pfx spot (spot.length - j) from rfl, hk]
      · rw [hp] at hk
        unfold B_PrefixMap_longest_1 mapD
        simp -implicitDefEqProofs (disch := assumption) [-getElem?_pos, h2, inD, keyD]
        rw [show cutS spot none (some ((spot.length - j : Nat) : Int)) = pfx spot (spot.length - j) from rfl, hk])
    [.sh (mapD "Table" z l), .sh (.str spot), .no] ⟨_, rfl⟩
  rw [rng_length] at first
  unfold mapD at hf first ⊢
  rcases first with ⟨j, hj, hp1, hm, he⟩ | ⟨hn, Γ', he, _⟩
  · have hbest : Best spot (ks l) (some (pfx spot (spot.length - j))) := by
      refine ⟨by simpa using hp1, starts_pfx (by omega), fun k hk hs => ?_⟩
      rw [pfx_len (by omega)]
      obtain ⟨e1, e2⟩ := starts_iff.mp hs
      by_cases q : k.length ≤ spot.length - j
      · exact q
      · have := hm (spot.length - k.length) (by omega)
        have e3 : spot.length - (spot.length - k.length) = k.length := by omega
        rw [e3, ← e1] at this
        simp [hk] at this
    rw [← bestS_eq hbest]
    unfold D_PrefixMap_longest run m_PrefixMap_longest
    simp -implicitDefEqProofs [-getElem?_pos, -sFor_ap, initE, h1, hp, hf, he, oD]
  · have hbest : Best spot (ks l) none := by
      intro k hk
      cases hs : Txt.startswith spot k with
      | false => rfl
      | true =>
        obtain ⟨e1, e2⟩ := starts_iff.mp hs
        have := hn (spot.length - k.length) (by omega)
        have e3 : spot.length - (spot.length - k.length) = k.length := by omega
        rw [e3, ← e1] at this
        simp [hk] at this
    rw [← bestS_eq hbest]
    unfold D_PrefixMap_longest run m_PrefixMap_longest
    simp -implicitDefEqProofs [-getElem?_pos, -sFor_ap, initE, h1, hp, hf, he, oD]
end DL
namespace DL
open PySem L2
theorem target_ofX {z : Nat} {l : KV} {spot : Str} (hb : Bt spot) (hl : spot.length ≤ z) (hz : z ≤ 1000) (st : Store) :
    D_Table_target_of [mapD "Table" z l, .str spot] st = .ok (leadS l spot) st := by
  have e := longestX_Table (l := l) hb hl hz st
  have h3 : (("longest" : Str) == ("bits" : Str)) = false ∧ (("longest" : Str) == ("held" : Str)) = false := by decide +kernel
  unfold D_Table_target_of run m_Table_target_of leadS
  cases h : bestS spot (ks l) with
  | none =>
    rw [h] at e
    unfold mapD at e ⊢
    simp -implicitDefEqProofs [-getElem?_pos, initE, e, oD, oIsN, h3.1, h3.2, fldS.1, List.lookup]
  | some p =>
    rw [h] at e
    obtain ⟨v, hv, _⟩ := valS_some (bestS_mem h)
    unfold mapD at e ⊢
    simp -implicitDefEqProofs [-getElem?_pos, initE, e, oD, oIsN, keyD, Fd_val, hv, h3.1, h3.2, fldS.1, List.lookup]
theorem widthX {z : Nat} {l : KV} (st : Store) : D_PrefixMap_width [mapD "Table" z l] st = .ok (.int z) st := by
  unfold D_PrefixMap_width run m_PrefixMap_width mapD
  simp -implicitDefEqProofs [-getElem?_pos, initE, fldS.1, fldS.2, List.lookup]
end DL
namespace DL
open PySem L2
theorem cwX {y z : Nat} {l m : KV} (st : Store) : C_check_widths_1 [.sh (.tup [mapD "Table" y l, mapD "Table" z m]), .no] st = .ok (.int (ddp [Leaf.num (y : Int), Leaf.num (z : Int)]).length) st := by
  unfold C_check_widths_1
  refine e_lensc (fun p : Nat × KV => mapD "Table" p.1 p.2) [(y, l), (z, m)] (fun p => .int (p.1 : Int)) (fun p => .num (p.1 : Int)) ?_ (by simp) (fun p hp => ⟨_, rfl, ?_, rfl⟩)
  · simp -implicitDefEqProofs [-getElem?_pos]
  · have h := widthX (z := p.1) (l := p.2) st
    unfold mapD at h ⊢
    simp -implicitDefEqProofs [-getElem?_pos, wipeE, h, List.lookup]
theorem widthsX {z : Nat} {l m : KV} (st : Store) : D_check_widths [.tup [mapD "Table" z l, mapD "Table" z m]] st = .ok .non st := by
  have h := cwX (y := z) (z := z) (l := l) (m := m) st
  have e : (ddp [Leaf.num (z : Int), Leaf.num (z : Int)]).length = 1 := by simp [ddp, ddpS]
  rw [e] at h
  unfold D_check_widths run m_check_widths
  simp -implicitDefEqProofs [-getElem?_pos, initE, h]
theorem widthsN {y z : Nat} {l m : KV} (st : Store) (hn : y ≠ z) : ∃ x, D_check_widths [.tup [mapD "Table" y l, mapD "Table" z m]] st = .err x st ∧ x.C = "InvalidPair" ∧ x.own = true := by
  have h := cwX (y := y) (z := z) (l := l) (m := m) st
  have q : ¬ ((z : Int) = (y : Int)) := by omega
  have e : (ddp [Leaf.num (y : Int), Leaf.num (z : Int)]).length = 2 := by simp [ddp, ddpS, q]
  rw [e] at h
  unfold D_check_widths run m_check_widths
  simp -implicitDefEqProofs [-getElem?_pos, initE, h]
  exact ⟨_, rfl, rfl, rfl⟩
end DL
namespace DL
open PySem L2
theorem closedX {ps : List Str} {z : Nat} (h : ∀ p ∈ ps, Bt p ∧ p.length ≤ z) (hz : z ≤ 32) (hl : ps.length ≤ 1000) (st : Store) : D_closed [.lst (ps.map .str)] st = .ok (.lst ((clS ps).map .str)) st := by
  have : Ev (D_closed [.lst (ps.map .str)] st) fun d s => d = .lst ((clS ps).map .str) ∧ s = st := by
    unfold D_closed
    refine e_run rfl ?_
    unfold m_closed
    refine w_seq (w_new (Ev.of (d := .dct (Fd [("", .bl true)])) (s := st) (by simp -implicitDefEqProofs [-getElem?_pos, initE, keyD, Fd, eDisp, putD, eePairs, keysD, mergeD]) ?_))
    refine w_seq (w_for .str ps (fun j Γ s => s = st ∧ ∃ (l : KV) (a2 a3 : Sl), Γ = [.sh (.lst (ps.map .str)), .ow (.dct (Fd l)), a2, a3] ∧ (ks l).Nodup ∧ l.length ≤ 1 + 64 * j ∧ ∀ k, k ∈ ks l ↔ k = "" ∨ ∃ p ∈ ps.take j, k ∈ kids p)
      (s := st) (by simp -implicitDefEqProofs [-getElem?_pos, initE]) ⟨rfl, [("", .bl true)], .no, .no, rfl, by simp [ks], by simp, fun k => by simp [ks]⟩ ?_ ?_)
    · rintro j p hp Γ s ⟨rfl, l, a2, a3, rfl, nd, ln, mem⟩
      have hj := getElem?_lt hp
      have hpm := List.mem_of_getElem? hp
      have hpl : p.length ≤ 32 := Nat.le_trans (h p hpm).2 hz
      refine ⟨_, rfl, ?_⟩
      unfold B_closed_2
      refine w_for (fun i : Nat => .int ((i : Int) + 1)) (List.range p.length) (fun i Γ s' => s' = s ∧ ∃ (l : KV) (a3 : Sl), Γ = [.sh (.lst (ps.map .str)), .ow (.dct (Fd l)), .sh (.str p), a3] ∧ (ks l).Nodup ∧ l.length ≤ 1 + 64 * j + 2 * i ∧
        ∀ k, k ∈ ks l ↔ (k = "" ∨ ∃ p ∈ ps.take j, k ∈ kids p) ∨ ∃ i' < i, k = pfx p i' ++ ("0" : Str) ∨ k = pfx p i' ++ ("1" : Str)) (s := s) ?_ ⟨rfl, l, a3, rfl, nd, ln, fun k => by rw [mem]; simp⟩ ?_ ?_
      · exact rng2_of (by simp -implicitDefEqProofs (disch := omega) [-getElem?_pos]) (by omega)
      · rintro i i' hi Γ s' ⟨rfl, l, a3, rfl, nd, ln, mem⟩
        have hi' : i < p.length := by simpa using getElem?_lt hi
        rw [List.getElem?_range hi'] at hi
        cases hi
        refine ⟨_, rfl, ?_⟩
        have hc : cutS p none (some (i : Int)) = pfx p i := rfl
        have hp16 : p.length ≤ 16777216 := by omega
        have hpi : (pfx p i).length = i := pfx_len (by omega)
        have hlen : (pfx p i).length + ("0" : Str).length ≤ 16777216 := by rw [hpi, l0L.1]; omega
        have hlen1 : (pfx p i).length + ("1" : Str).length ≤ 16777216 := by rw [hpi, l0L.2.1]; omega
        have hl1 : l.length < 16777216 := by omega
        have hl2 : (putS l (pfx p i ++ ("0" : Str)) (.bl true)).length ≤ l.length + 1 := putS_len _ _ _
        have hl3 : (putS (putS l (pfx p i ++ ("0" : Str)) (.bl true)) (pfx p i ++ ("1" : Str)) (.bl true)).length ≤ l.length + 1 + 1 := Nat.le_trans (putS_len _ _ _) (by omega)
        have e1 := setX_Fd (l := l) (k := pfx p i ++ ("0" : Str)) (x := .bl true) hl1
        have e2 := setX_Fd (l := putS l (pfx p i ++ ("0" : Str)) (.bl true)) (k := pfx p i ++ ("1" : Str)) (x := .bl true) (by omega)
        refine Rn.of (Γ := [.sh (.lst (ps.map .str)), .ow (.dct (Fd (putS (putS l (pfx p i ++ ("0" : Str)) (.bl true)) (pfx p i ++ ("1" : Str)) (.bl true)))), .sh (.str p), .sh (.int ((i : Int) + 1))]) (s := s') ?_ ⟨rfl, _, _, rfl, putS_nd (putS_nd nd _ _) _ _, by omega, fun k => ?_⟩
        · unfold B_closed_1
          simp -implicitDefEqProofs (disch := assumption) [-getElem?_pos, hc, e1, e2]
        · rw [putS_mem, putS_mem, mem]
          constructor
          · rintro (h | h | h | ⟨i', h1, h2⟩)
            · exact .inr ⟨i, by omega, .inr h⟩
            · exact .inr ⟨i, by omega, .inl h⟩
            · exact .inl h
            · exact .inr ⟨i', by omega, h2⟩
          · rintro (h | ⟨i', h1, h2⟩)
            · exact .inr (.inr (.inl h))
            · by_cases q : i' = i
              · subst q
                exact h2.elim (fun h => .inr (.inl h)) .inl
              · exact .inr (.inr (.inr ⟨i', by omega, h2⟩))
      · rintro Γ s' ⟨rfl, l, a3, rfl, nd, ln, mem⟩
        rw [List.length_range] at ln mem
        refine ⟨rfl, l, _, _, rfl, nd, by omega, fun k => ?_⟩
        rw [mem, List.take_add_one, hp]
        simp only [Option.toList_some, List.mem_append, List.mem_singleton, kids_mem]
        constructor
        · rintro ((h | ⟨p', h1, h2⟩) | ⟨i', h1, h2⟩)
          · exact .inl h
          · exact .inr ⟨p', .inl h1, h2⟩
          · exact .inr ⟨p, .inr rfl, i', h1, h2⟩
        · rintro (h | ⟨p', h1 | rfl, h2⟩)
          · exact .inl (.inl h)
          · exact .inl (.inr ⟨p', h1, h2⟩)
          · exact .inr h2
    · rintro Γ s ⟨rfl, l, a2, a3, rfl, nd, ln, mem⟩
      rw [List.take_length] at mem
      refine w_ret (Ev.of (d := .lst ((clS ps).map .str)) (s := s) ?_ ⟨rfl, rfl⟩)
      have e : srtS (ks l) = clS ps := srt_sset nd fun k => by rw [mem]; simp [List.mem_flatMap]
      simp -implicitDefEqProofs [-getElem?_pos, e]
  obtain ⟨d, s, e, rfl, rfl⟩ := this
  exact e
theorem leavesX {ns : List Str} (nd : ns.Nodup) (hl : ns.length ≤ 1000000) (hn : ∀ n ∈ ns, n.length ≤ 1000) (st : Store) : D_leaves_of [.lst (ns.map .str)] st = .ok (.lst ((lvS ns).map .str)) st := by
  have h1 : C_leaves_of_1 [.sh (.lst (ns.map .str)), .no, .no] st = .ok (.dct (Fd (ns.map fun x => (x, .bl true)))) st := by
    unfold C_leaves_of_1
    refine dc_keys ns (fun _ => .bl true) nd ?_ (by omega) (fun x hx => ⟨_, rfl, ?_, rfl⟩)
    · simp -implicitDefEqProofs [-getElem?_pos]
    · simp -implicitDefEqProofs [-getElem?_pos, wipeE]
  have hk : ks (ns.map fun x => (x, (.bl true : D))) = ns := by unfold ks; rw [List.map_map]; exact List.map_id' _
  have h2 : C_leaves_of_2 [.sh (.lst (ns.map .str)), .sh (.dct (Fd (ns.map fun x => (x, .bl true)))), .no] st = .ok (.lst ((lvS ns).map .str)) st := by
    unfold C_leaves_of_2 lvS
    refine lc_filt .str ns (fun n => !decide (n ++ ("0" : Str) ∈ ns)) .str ?_ (by omega) (fun x hx => ⟨_, rfl, ?_, fun _ => ?_⟩)
    · simp -implicitDefEqProofs [-getElem?_pos]
    · have hlen : x.length + ("0" : Str).length ≤ 16777216 := by have := hn x hx; rw [l0L.1]; omega
      have := Fd_has (ns.map fun x => (x, (.bl true : D))) (x ++ ("0" : Str))
      rw [hk] at this
      simp -implicitDefEqProofs (disch := assumption) [-getElem?_pos, wipeE, inD, keyD, this]
    · simp -implicitDefEqProofs [-getElem?_pos, wipeE]
  unfold D_leaves_of run m_leaves_of
  simp -implicitDefEqProofs [-getElem?_pos, initE, h1, h2]
theorem rowsX_Table {z : Int} {l : KV} (st : Store) : D_PrefixMap_rows [mapD "Table" z l] st = .ok (.dct (Fd l)) st := by
  unfold D_PrefixMap_rows run m_PrefixMap_rows mapD
  simp -implicitDefEqProofs [-getElem?_pos, initE, fldS.1, List.lookup]
def tabD (p : Nat × KV) : D := mapD "Table" p.1 p.2
def keysT (ts : List (Nat × KV)) : List Str := ts.flatMap fun p => ks p.2
theorem commonX {ts : List (Nat × KV)} (h : ∀ p ∈ ts, (ks p.2).Nodup ∧ ∀ k ∈ ks p.2, Bt k ∧ k.length ≤ 32) (hl : (keysT ts).length ≤ 1000) (st : Store) :
    D_common_leaves [.tup (ts.map tabD)] st = .ok (.lst ((lvS (clS (keysT ts))).map .str)) st := by
  have h1 : C_common_leaves_1 [.sh (.tup (ts.map tabD)), .no, .no] st = .ok (.lst ((keysT ts).map .str)) st := by
    have e : (keysT ts).map D.str = ts.flatMap fun p => (ks p.2).map D.str := by unfold keysT; rw [List.map_flatMap]
    rw [e]
    unfold C_common_leaves_1
    refine e_lc2 tabD .str ts (fun p => ks p.2) (fun _ y => .str y) ?_ (by unfold keysT at hl; omega) (fun p hp => ⟨_, rfl, ?_, fun y hy => ⟨_, rfl, ?_⟩⟩)
    · simp -implicitDefEqProofs [-getElem?_pos]
    · have hr := rowsX_Table (z := (p.1 : Int)) (l := p.2) st
      unfold tabD mapD at *
      simp -implicitDefEqProofs [-getElem?_pos, wipeE, hr, Fd_keys, List.lookup]
    · simp -implicitDefEqProofs [-getElem?_pos, wipeE, shO]
  have hb : ∀ k ∈ keysT ts, Bt k ∧ k.length ≤ 32 := fun k hk => by
    obtain ⟨p, hp, hk⟩ := List.mem_flatMap.mp hk
    exact (h p hp).2 k hk
  have h2 := closedX hb (Nat.le_refl _) hl st
  have h3 := leavesX (clS_nd (keysT ts)) (by have := clS_len (fun p hp => (hb p hp).2); omega) (fun n hn => by have := (clS_bt hb hn).2; omega) st
  unfold D_common_leaves run m_common_leaves
  simp -implicitDefEqProofs [-getElem?_pos, initE, h1, h2, h3]
end DL
namespace DL
open PySem L2
theorem firstAX {p : Str} {z : Nat} (hz : z ≤ 1000) (hp : p.length ≤ z) (st : Store) : D_first_address [.str p, .int z] st = .ok (.str (padS z p ("0" : Str))) st := by
  have hp16 : p.length ≤ 16777216 := by omega
  have e : (z : Int) - (p.length : Int) = ((z - p.length : Nat) : Int) := by omega
  have hm := mulS ("0" : Str) (z - p.length) ⟨by omega, by rw [l0L.1]; omega⟩
  rw [← e] at hm
  have hl : p.length + (repS ("0" : Str) ((z : Int) - (p.length : Int))).length ≤ 16777216 := by rw [rep_len, l0L.1]; omega
  unfold D_first_address run m_first_address padS
  simp -implicitDefEqProofs (disch := assumption) [-getElem?_pos, initE, hm]
def fdS (z : Nat) (l m : KV) : D := match (lvS (clS (ks l ++ ks m))).find? (fun e => !eqB (leadS l e) (leadS m e)) with
  | some e => .str (padS z e ("0" : Str))
  | none => .non
theorem fdX {z : Nat} {l m : KV} (hl : MapOK TgD z 400 l) (hm : MapOK TgD z 400 m) (st : Store) : D_first_difference [mapD "Table" z l, mapD "Table" z m] st = .ok (fdS z l m) st := by
  have hz := hl.hz
  have hk : keysT [(z, l), (z, m)] = ks l ++ ks m := by simp [keysT]
  have hb : ∀ k ∈ ks l ++ ks m, Bt k ∧ k.length ≤ z := fun k hk => (List.mem_append.mp hk).elim (hl.key k) (hm.key k)
  have hc := commonX (ts := [(z, l), (z, m)]) (fun p hp => by
    simp only [List.mem_cons, List.not_mem_nil, or_false] at hp
    rcases hp with rfl | rfl
    · exact ⟨hl.nd, fun k hk => ⟨(hl.key k hk).1, by have := (hl.key k hk).2; omega⟩⟩
    · exact ⟨hm.nd, fun k hk => ⟨(hm.key k hk).1, by have := (hm.key k hk).2; omega⟩⟩) (by rw [hk, List.length_append, ks_len, ks_len]; have := hl.len; have := hm.len; omega) st
  rw [hk] at hc
  simp only [List.map_cons, List.map_nil, tabD] at hc
  have hw := widthsX (z := z) (l := l) (m := m) st
  have hwd := widthX (z := z) (l := l) st
  have : Ev (D_first_difference [mapD "Table" z l, mapD "Table" z m] st) fun d s => d = fdS z l m ∧ s = st := by
    unfold D_first_difference
    refine e_run rfl ?_
    unfold m_first_difference
    refine w_seq (w_drop (Ev.of (d := .non) (s := st) (by simp -implicitDefEqProofs [-getElem?_pos, initE, starD, hw]) ?_))
    refine w_seq (w_first .str (lvS (clS (ks l ++ ks m))) (fun e => !eqB (leadS l e) (leadS m e)) (fun Γ => ∃ a, Γ = [.sh (mapD "Table" z l), .sh (mapD "Table" z m), a]) (s := st)
      (by simp -implicitDefEqProofs [-getElem?_pos, initE, starD, hc]) ⟨_, rfl⟩ ?_ ?_)
    · rintro e he Γ ⟨a, rfl⟩
      have heb := clS_bt hb (lvS_mem.mp he).1
      have e1 := target_ofX (l := l) heb.1 heb.2 (by omega) st
      have e2 := target_ofX (l := m) heb.1 heb.2 (by omega) st
      have n1 := leadS_ns (fun p hp => (hl.val p hp).ns) e
      have n2 := leadS_ns (fun p hp => (hm.val p hp).ns) e
      have q := dEqX_ns n1 n2
      have d1 := n1.dr st
      have d2 := n2.dr st
      have fa := firstAX (p := e) (z := z) (by omega) heb.2 st
      unfold mapD at e1 e2 hwd
      refine ⟨_, rfl, fun hp hf => ?_, fun hp => ?_⟩
      · refine ⟨.str (padS z e ("0" : Str)), st, ?_, by unfold fdS; rw [hf]; exact ⟨rfl, rfl⟩⟩
        have hp' : eqB (leadS l e) (leadS m e) = false := by simpa using hp
        rw [hp'] at q
        unfold B_first_difference_1 mapD
        simp -implicitDefEqProofs [-getElem?_pos, List.lookup, nb_target_of.1, nb_target_of.2, e1, e2, d1, d2, q, hwd, fa]
      · have hp' : eqB (leadS l e) (leadS m e) = true := by simpa using hp
        rw [hp'] at q
        refine ⟨[.sh (mapD "Table" z l), .sh (mapD "Table" z m), .sh (.str e)], ?_, _, rfl⟩
        unfold B_first_difference_1 mapD
        simp -implicitDefEqProofs [-getElem?_pos, List.lookup, nb_target_of.1, nb_target_of.2, e1, e2, d1, d2, q]
    · rintro Γ ⟨a, rfl⟩ hf
      refine w_ret (Ev.of (d := .non) (s := st) rfl ⟨by unfold fdS; rw [hf], rfl⟩)
  obtain ⟨d, s, e, rfl, rfl⟩ := this
  exact e
theorem fdN {y z : Nat} {l m : KV} (hn : y ≠ z) (st : Store) : ∃ x, D_first_difference [mapD "Table" y l, mapD "Table" z m] st = .err x st ∧ x.C = "InvalidPair" ∧ x.own = true := by
  obtain ⟨x, e, h⟩ := widthsN (l := l) (m := m) st hn
  refine ⟨x, ?_, h⟩
  unfold D_first_difference run m_first_difference
  simp -implicitDefEqProofs [-getElem?_pos, initE, starD, e]
theorem fdS_self (z : Nat) (l : KV) (h : ∀ p ∈ l, NS p.2) : fdS z l l = .non := by
  unfold fdS
  have : (lvS (clS (ks l ++ ks l))).find? (fun e => !eqB (leadS l e) (leadS l e)) = none := by
    rw [List.find?_eq_none]
    intro e _
    rw [eqB_self (leadS_ns h e)]; simp
  rw [this]
theorem smX {z : Nat} {l m : KV} (hl : MapOK TgD z 400 l) (hm : MapOK TgD z 400 m) (st : Store) : D_same_meaning [mapD "Table" z l, mapD "Table" z m] st = .ok (.bl (match fdS z l m with | .non => true | _ => false)) st := by
  have e := fdX hl hm st
  unfold D_same_meaning run m_same_meaning
  have : fdS z l m = .non ∨ ∃ x, fdS z l m = .str x := by
    unfold fdS
    split
    · exact .inr ⟨_, rfl⟩
    · exact .inl rfl
  rcases this with h | ⟨x, h⟩
  · rw [h] at e ⊢
    simp -implicitDefEqProofs [-getElem?_pos, initE, e, oIsN]
  · rw [h] at e ⊢
    simp -implicitDefEqProofs [-getElem?_pos, initE, e, oIsN]
theorem smN {y z : Nat} {l m : KV} (hn : y ≠ z) (st : Store) : ∃ x, D_same_meaning [mapD "Table" y l, mapD "Table" z m] st = .err x st ∧ x.C = "InvalidPair" ∧ x.own = true := by
  obtain ⟨x, e, h⟩ := fdN (l := l) (m := m) hn st
  refine ⟨x, ?_, h⟩
  unfold D_same_meaning run m_same_meaning
  simp -implicitDefEqProofs [-getElem?_pos, initE, e]
end DL
namespace DL
open PySem L2
theorem eqX_Table {z : Int} {l : KV} (nd : (ks l).Nodup) (h : ∀ p ∈ l, Flat p.2) (st : Store) : D_PrefixMap___eq__ [mapD "Table" z l, mapD "Table" z l] st = .ok (.bl true) st := by
  have e := dEqX_self nd h
  have hs : D_PrefixMap_is_same [mapD "Table" z l, mapD "Table" z l] st = .ok (.bl true) st := by
    unfold D_PrefixMap_is_same run m_PrefixMap_is_same mapD
    simp -implicitDefEqProofs [-getElem?_pos, initE, fldS.1, e, List.lookup]
  have hr : D_Table_sort_of_map [mapD "Table" z l] st = .ok (.str "table") st := by
    unfold D_Table_sort_of_map run m_Table_sort_of_map
    simp -implicitDefEqProofs [-getElem?_pos, initE]
  unfold D_PrefixMap___eq__ run m_PrefixMap___eq__
  unfold mapD at hs hr ⊢
  simp -implicitDefEqProofs [-getElem?_pos, initE, hs, hr, nb_sort.1, nb_sort.2, nb_same.1, nb_same.2, bIsiO, List.lookup]
theorem eqZ_Table {y z : Int} {l m : KV} (hn : y ≠ z) (st : Store) : D_PrefixMap___eq__ [mapD "Table" y l, mapD "Table" z m] st = .ok (.bl false) st := by
  have hs : D_PrefixMap_is_same [mapD "Table" y l, mapD "Table" z m] st = .ok (.bl false) st := by
    unfold D_PrefixMap_is_same run m_PrefixMap_is_same mapD
    simp -implicitDefEqProofs [-getElem?_pos, initE, fldS.1, hn, List.lookup]
  have hr : ∀ z l, D_Table_sort_of_map [mapD "Table" z l] st = .ok (.str "table") st := fun z l => by
    unfold D_Table_sort_of_map run m_Table_sort_of_map
    simp -implicitDefEqProofs [-getElem?_pos, initE]
  unfold D_PrefixMap___eq__ run m_PrefixMap___eq__
  unfold mapD at hs hr ⊢
  simp -implicitDefEqProofs [-getElem?_pos, initE, hs, hr, nb_sort.1, nb_sort.2, nb_same.1, nb_same.2, bIsiO, List.lookup]
def dueD (k : Nat) : D := if k = 0 then .non else .bl true
theorem ocX {z : Nat} {l : KV} (hl : MapOK TgD z 400 l) {k : Nat} (hk : k < 2) (st : Store) : D__law_outcome [mapD "Table" z l, mapD "Table" z l, .int k] st = .ok (dueD k) st := by
  have e1 := fdX hl hl st
  have e2 := smX hl hl st
  rw [fdS_self z l fun p hp => (hl.val p hp).ns] at e1 e2
  have : k = 0 ∨ k = 1 := by omega
  unfold D__law_outcome run m__law_outcome dueD
  rcases this with rfl | rfl
  · simp -implicitDefEqProofs [-getElem?_pos, initE, e1, sTryK, oIsN]
  · simp -implicitDefEqProofs [-getElem?_pos, initE, e2, sTryK, oIsN]
theorem isiA (fs : List (Str × D)) (st : Store) : bIsiZ Zt [.exc "InvalidPair" fs, .tup [.cls "InvalidAddress", .cls "InvalidMap", .cls "InvalidPrefix"]] st = .ok (.bl false) st := rfl
theorem isiB (fs : List (Str × D)) (st : Store) : bIsiZ Zt [.exc "InvalidPair" fs, .cls "InvalidPair"] st = .ok (.bl true) st := rfl
theorem ocN {y z : Nat} {l m : KV} (hn : y ≠ z) {k : Nat} (hk : k < 2) (st : Store) : D__law_outcome [mapD "Table" y l, mapD "Table" z m, .int k] st = .ok (.str "pair") st := by
  obtain ⟨⟨o1, C1, f1⟩, e1, h1, h2⟩ := fdN (l := l) (m := m) hn st
  obtain ⟨⟨o2, C2, f2⟩, e2, h3, h4⟩ := smN (l := l) (m := m) hn st
  dsimp only at h1 h2 h3 h4
  subst h1 h2 h3 h4
  have : k = 0 ∨ k = 1 := by omega
  unfold D__law_outcome run m__law_outcome
  rcases this with rfl | rfl
  · simp -implicitDefEqProofs [-getElem?_pos, initE, e1, sTryK, oIsN, isiA, isiB, List.lookup]
  · simp -implicitDefEqProofs [-getElem?_pos, initE, e2, sTryK, oIsN, isiA, isiB, List.lookup]
theorem dues_repr (j : Nat) (st : Store) : bRepr [.lst [dueD j, .str "pair", .str "pair"]] st = .ok (.str (shw (.lst [dueD j, .str "pair", .str "pair"]))) st := by
  have hp : Gd 0 1000 (.str ("pair" : Str)) := gd_str (L := 1000) (by unfold Cs; decide +kernel) (by decide +kernel)
  have hd : Gd 0 1000 (dueD j) := by
    unfold dueD
    split
    · exact gdM 0 1000 gd_non
    · exact gdM 0 1000 gd_bl
  refine (gd_lst (n := 0) (L := 1000) (xs := [dueD j, .str "pair", .str "pair"]) ?_).repr (by decide) (by simp) st
  intro x hx
  simp only [List.mem_cons, List.not_mem_nil, or_false] at hx
  rcases hx with rfl | rfl | rfl
  · exact hd
  · exact hp
  · exact hp
theorem dueD_dr (j : Nat) (st : Store) : deref st (dueD j) = dueD j := by unfold dueD; split <;> rfl
theorem b1X {y z : Nat} {l : KV} (hl : MapOK TgD z 400 l) (hn : z ≠ y) {j : Nat} (hj : j < 2) (a0 a1 a2 a3 a4 a5 a11 : Sl) (st : Store) :
    ∃ b11, B_law_1 [a0, a1, a2, a3, a4, a5, .sh (mapD "Table" z l), .sh (mapD "Table" y l), .sh (mapD "Table" z l), .sh (.lst [.lst [dueD 0, .str "pair", .str "pair"], .lst [dueD 1, .str "pair", .str "pair"]]), .sh (.int j), a11] st =
      .nx [a0, a1, a2, a3, a4, a5, .sh (mapD "Table" z l), .sh (mapD "Table" y l), .sh (mapD "Table" z l), .sh (.lst [.lst [dueD 0, .str "pair", .str "pair"], .lst [dueD 1, .str "pair", .str "pair"]]), .sh (.int j), b11] st := by
  have e1 := ocX hl hj st
  have e2 := ocN (l := l) (m := l) hn hj st
  have e3 := ocN (l := l) (m := l) (Ne.symm hn) hj st
  have hr := dues_repr j st
  refine ⟨.sh (.lst [dueD j, .str "pair", .str "pair"]), ?_⟩
  have hi : L2.atI [D.lst [dueD 0, .str "pair", .str "pair"], D.lst [dueD 1, .str "pair", .str "pair"]] (j : Int) = some (.lst [dueD j, .str "pair", .str "pair"]) := by
    have : j = 0 ∨ j = 1 := by omega
    rcases this with rfl | rfl
    · exact L2.atI_nat (j := 0) rfl
    · exact L2.atI_nat (j := 1) rfl
  unfold B_law_1
  simp -implicitDefEqProofs [-getElem?_pos, -bRepr_ap, e1, e2, e3, hr, hi]
theorem mapOK_lines {z n : Nat} {l : KV} (hz : 1 ≤ z ∧ z ≤ 32) (nd : (ks l).Nodup) (ln : l.length ≤ n) (gk : ∀ y ∈ ks l, Bt y ∧ y.length ≤ z) (gv : ∀ p ∈ l, TgD p.2) : MapOK TgD z n l := ⟨hz, nd, ln, gk, gv⟩
theorem b2X {ns : List Int} {c : Int} {e : Nat} {r st : Store} (hp : PenX ns c e r st) {y z : Nat} {l : KV} (hl : MapOK TgD z 10 l) (hy : z < y ∧ y ≤ 32) (a0 a2 a6 a7 a8 a9 a10 a11 : Sl) :
    Rn (B_law_2 [a0, .sh (.ref 0), a2, .sh (.int z), .sh (.int y), .sh (.dct (Fd l)), a6, a7, a8, a9, a10, a11] st) { nx := fun Γ s => ∃ b6 b7 b8 b9 b10 b11 r', Γ = [a0, .sh (.ref 0), a2, .sh (.int z), .sh (.int y), .sh (.dct (Fd l)), b6, b7, b8, b9, b10, b11] ∧ PenX ns c e r' s } := by
  have hl2 : MapOK TgD z 400 (ordS l) := (hl.ord).mono (by omega)
  have my : 1 ≤ y ∧ y ≤ 32 := by have := hl.hz; omega
  have ky : ∀ k ∈ ks l, Bt k ∧ k.length ≤ y := fun k hk => ⟨(hl.key k hk).1, by have := (hl.key k hk).2; omega⟩
  have ln : l.length ≤ 1000 := by have := hl.len; omega
  have nzy : z ≠ y := by omega
  have mk1 : ∀ {Γ : DEnv} {st s : Store} {ms : EM}, ms Γ st = .ok (.tup [.int z, .dct (Fd l)]) s → eMake "Table" D_PrefixMap___init__ ms Γ st = .ok (mapD "Table" z (ordS l)) (s ++ [.tomb]) := fun h => makeX_Table h hl.hz hl.nd ln hl.key hl.val
  have mk2 : ∀ {Γ : DEnv} {st s : Store} {ms : EM}, ms Γ st = .ok (.tup [.int y, .dct (Fd l)]) s → eMake "Table" D_PrefixMap___init__ ms Γ st = .ok (mapD "Table" y (ordS l)) (s ++ [.tomb]) := fun h => makeX_Table h my hl.nd ln ky hl.val
  unfold B_law_2
  refine w_seq (Rn.of (Γ := [a0, .sh (.ref 0), a2, .sh (.int z), .sh (.int y), .sh (.dct (Fd l)), .sh (mapD "Table" z (ordS l)), .sh (mapD "Table" y (ordS l)), .sh (mapD "Table" z (ordS l)), a9, a10, a11]) (s := st ++ [.tomb] ++ [.tomb] ++ [.tomb]) ?_ ?_)
  · have h1 := mk1 (Γ := [a0, .sh (.ref 0), a2, .sh (.int z), .sh (.int y), .sh (.dct (Fd l)), a6, a7, a8, a9, a10, a11]) (st := st) (s := st) (ms := eCons (eVar 3) (eCons (eVar 5) eNil)) rfl
    have h2 := mk2 (Γ := [a0, .sh (.ref 0), a2, .sh (.int z), .sh (.int y), .sh (.dct (Fd l)), a6, a7, a8, a9, a10, a11]) (st := st ++ [.tomb]) (s := st ++ [.tomb]) (ms := eCons (eVar 4) (eCons (eVar 5) eNil)) rfl
    have h3 := mk1 (Γ := [a0, .sh (.ref 0), a2, .sh (.int z), .sh (.int y), .sh (.dct (Fd l)), a6, a7, a8, a9, a10, a11]) (st := st ++ [.tomb] ++ [.tomb]) (s := st ++ [.tomb] ++ [.tomb]) (ms := eCons (eVar 3) (eCons (eVar 5) eNil)) rfl
    rw [sPar3_ap, eCons_ap, h1, ok_bind, eCons_ap, h2, ok_bind, eCons_ap, h3]
    rfl
  dsimp only
  refine w_as (d := .lst [.lst [dueD 0, .str "pair", .str "pair"], .lst [dueD 1, .str "pair", .str "pair"]]) (s := st ++ [.tomb] ++ [.tomb] ++ [.tomb]) (by simp -implicitDefEqProofs [-getElem?_pos, dueD]) ?_
  generalize hs3 : st ++ [.tomb] ++ [.tomb] ++ [.tomb] = s3
  have hp3 : PenX ns c e (r ++ [.tomb] ++ [.tomb] ++ [.tomb]) s3 := by rw [← hs3]; exact ((hp.more _).more _).more _
  refine w_seq (w_rng 2 (fun j Γ s => s = s3 ∧ ∃ b10 b11, Γ = [a0, .sh (.ref 0), a2, .sh (.int z), .sh (.int y), .sh (.dct (Fd l)), .sh (mapD "Table" z (ordS l)), .sh (mapD "Table" y (ordS l)), .sh (mapD "Table" z (ordS l)), .sh (.lst [.lst [dueD 0, .str "pair", .str "pair"], .lst [dueD 1, .str "pair", .str "pair"]]), b10, b11]) (s := s3) (by simp -implicitDefEqProofs [-getElem?_pos]) (by omega) ⟨rfl, _, _, rfl⟩ ?_ ?_)
  · rintro j hj Γ s ⟨rfl, b10, b11, rfl⟩
    obtain ⟨c11, e1⟩ := b1X hl2 nzy hj a0 (.sh (.ref 0)) a2 (.sh (.int z)) (.sh (.int y)) (.sh (.dct (Fd l))) b11 s
    exact ⟨_, rfl, Rn.of e1 ⟨rfl, _, _, rfl⟩⟩
  · rintro Γ s ⟨rfl, b10, b11, rfl⟩
    refine w_ifF (s := s ++ [.tomb]) ?_ (w_skip ⟨_, _, _, _, _, _, _, rfl, hp3.more [.tomb]⟩)
    have fl : ∀ p ∈ ordS l, Flat p.2 := fun p hp => (hl2.val p hp).flat
    have q1 := eqX_Table (z := (z : Int)) hl2.nd fl
    have q2 := eqX_Table (z := (y : Int)) hl2.nd fl
    have q3 := eqZ_Table (l := ordS l) (m := ordS l) (y := (z : Int)) (z := (y : Int)) (by omega)
    generalize hΓ : ([a0, .sh (.ref 0), a2, .sh (.int z), .sh (.int y), .sh (.dct (Fd l)), .sh (mapD "Table" z (ordS l)), .sh (mapD "Table" y (ordS l)), .sh (mapD "Table" z (ordS l)), .sh (.lst [.lst [dueD 0, .str "pair", .str "pair"], .lst [dueD 1, .str "pair", .str "pair"]]), b10, b11] : DEnv) = G
    have hm := mk2 (Γ := G) (st := s) (s := s) (ms := eCons (eVar 4) (eCons (eVar 5) eNil)) (by rw [← hΓ]; rfl)
    have v6 : eVar 6 G = fun st => .ok (mapD "Table" z (ordS l)) st := by rw [← hΓ]; rfl
    have v7 : eVar 7 G = fun st => .ok (mapD "Table" y (ordS l)) st := by rw [← hΓ]; rfl
    have v8 : eVar 8 G = fun st => .ok (mapD "Table" z (ordS l)) st := by rw [← hΓ]; rfl
    have dz : ∀ (z : Int) (l : KV) (st : Store), deref st (mapD "Table" z l) = .ins "Table" [("bits", .int z), ("held", .dct (Fd l))] := fun _ _ _ => rfl
    simp only [eOr_ap, eEqO_ap, v6, v7, v8, hm, ok_bind, dz]
    simp -implicitDefEqProofs [-getElem?_pos, -eMake_ap, hm, dz, List.lookup, q1, q2, q3]
theorem law_spec {ns : List Int} (h : ns.length ≤ 63) : ∃ st', D_law [.scr ns] [] = .ok (.bl true) st' := by
  have : Ev (D_law [.scr ns] []) fun d _ => d = .bl true := by
    unfold D_law
    refine e_run rfl ?_
    unfold m_law
    have hpen := pen_spec (st := []) h
    refine w_as (d := .ref 0) (s := [penD (ns.take 60) 0 0 []]) (by simp -implicitDefEqProofs [-getElem?_pos, initE, hpen]) ?_
    have hp0 : PenX (ns.take 60) 0 0 [] [penD (ns.take 60) 0 0 []] := ⟨0, 0, [], by omega, by omega, by simp, rfl⟩
    refine w_seq (w_rng 6 (fun j Γ s => ∃ a2 a3 a4 a5 a6 a7 a8 a9 a10 a11 r, Γ = [.sh (.scr ns), .sh (.ref 0), a2, a3, a4, a5, a6, a7, a8, a9, a10, a11] ∧ PenX (ns.take 60) (30000 * (j : Int)) 0 r s) (s := [penD (ns.take 60) 0 0 []]) (by simp -implicitDefEqProofs [-getElem?_pos, initE]) (by omega) ⟨_, _, _, _, _, _, _, _, _, _, _, rfl, hp0.mono (by omega)⟩ ?_ ?_)
    · rintro j hj Γ s ⟨a2, a3, a4, a5, a6, a7, a8, a9, a10, a11, r, rfl, hp⟩
      refine ⟨_, rfl, ?_⟩
      unfold B_law_3
      obtain ⟨k1, s1, k10, k11, e1, hp1⟩ := drawX hp (by omega) (b := 31) (by omega)
      have hk1 : ∃ z : Nat, 1 + k1 = (z : Int) ∧ 1 ≤ z ∧ z ≤ 31 := ⟨(1 + k1).toNat, by omega, by omega, by omega⟩
      obtain ⟨z, hz, z1, z2⟩ := hk1
      refine w_as (d := .int z) (s := s1) (by simp -implicitDefEqProofs [-getElem?_pos, e1, hz]) ?_
      obtain ⟨k2, s2, k20, k21, e2, hp2⟩ := drawX hp1 (by omega) (b := 32 - (z : Int)) (by omega)
      have hk2 : ∃ y : Nat, (z : Int) + 1 + k2 = (y : Int) ∧ z < y ∧ y ≤ 32 := ⟨((z : Int) + 1 + k2).toNat, by omega, by omega, by omega⟩
      obtain ⟨y, hy, y1, y2⟩ := hk2
      refine w_as (d := .int y) (s := s2) (by simp -implicitDefEqProofs [-getElem?_pos, e2, hy]) ?_
      obtain ⟨l, s3, e3, nd, ln, gk, gv, hp3⟩ := linesX hp2 (z := z) (m := 4) ⟨z1, by omega⟩ (by omega) (by omega)
      have o1 : MapOK TgD z 10 l := ⟨⟨z1, by omega⟩, nd, by omega, gk, fun p hp => (gv p hp).tg⟩
      have o2 : MapOK TgD z 10 [] := ⟨⟨z1, by omega⟩, by simp [ks], by simp, fun y hy => by simp [ks] at hy, fun p hp => by simp at hp⟩
      have o3 : MapOK TgD z 10 [("", .str "a")] := ⟨⟨z1, by omega⟩, by simp [ks], by simp, fun y hy => by
        have : y = "" := by simpa [ks] using hy
        subst this; exact ⟨b0L.2.2, by rw [l0L.2.2]; omega⟩, fun p hp => by
        have : p = (("" : Str), D.str "a") := by simpa using hp
        subst this; exact (show Name (.str "a") by simp [Name, namesD]).tg⟩
      have hL : ∀ l' ∈ [l, [], [("", .str "a")]], MapOK TgD z 10 l' := fun l' h => by
        simp only [List.mem_cons, List.not_mem_nil, or_false] at h
        rcases h with rfl | rfl | rfl
        · exact o1
        · exact o2
        · exact o3
      refine w_for (fun l : KV => .dct (Fd l)) [l, [], [("", .str "a")]] (fun i Γ s => ∃ a5 a6 a7 a8 a9 a10 a11 r, Γ = [.sh (.scr ns), .sh (.ref 0), .sh (.int j), .sh (.int z), .sh (.int y), a5, a6, a7, a8, a9, a10, a11] ∧ PenX (ns.take 60) (30000 * (j : Int) + 1 + 1 + 20000) 0 r s) (s := s3) ?_ ⟨_, _, _, _, _, _, _, _, rfl, hp3⟩ ?_ ?_
      · simp -implicitDefEqProofs [-getElem?_pos]
        have e3' : D__law_lines [.ref 0, .int z, .int 4] s2 = .ok (.dct (Fd l)) s3 := e3
        rw [e3']
        simp -implicitDefEqProofs [-getElem?_pos, eDisp, eDnew, eePairs, keysD, mergeD, putD, keyD, Fd]
      · rintro i l' hl' Γ s ⟨a5, a6, a7, a8, a9, a10, a11, r, rfl, hp⟩
        refine ⟨_, rfl, (b2X hp (hL l' (List.mem_of_getElem? hl')) ⟨y1, y2⟩ _ _ _ _ _ _ _ _).only ?_⟩
        rintro Γ s ⟨b6, b7, b8, b9, b10, b11, r', rfl, hp'⟩
        exact ⟨_, _, _, _, _, _, _, _, rfl, hp'⟩
      · rintro Γ s ⟨a5, a6, a7, a8, a9, a10, a11, r, rfl, hp⟩
        exact ⟨_, _, _, _, _, _, _, _, _, _, _, rfl, hp.mono (by omega)⟩
    · rintro Γ s ⟨a2, a3, a4, a5, a6, a7, a8, a9, a10, a11, r, rfl, hp⟩
      exact w_ret (Ev.of (d := .bl true) (s := s) rfl rfl)
  obtain ⟨d, s, e, rfl⟩ := this
  exact ⟨s, e⟩
end DL
namespace DL
open PySem PySem.Spec PyProof.Rows L2
theorem all_mk {l : PySem.W.OpenLaw} {w : World} {K : PySem.W.Frag} {h : Heap} {mg : Str → Option Value} {fa : Addr} (X : K.In h) (G : h.Ns mainGlobals mg) (hfa : mg "law" = some (.ref fa))
    {f_InvalidAddress : Addr} (a_InvalidAddress : PySem.W.nsIn K mainGlobals "InvalidAddress" = some (some (.ref f_InvalidAddress)))
    {f_InvalidMap : Addr} (a_InvalidMap : PySem.W.nsIn K mainGlobals "InvalidMap" = some (some (.ref f_InvalidMap)))
    {f_InvalidPair : Addr} (a_InvalidPair : PySem.W.nsIn K mainGlobals "InvalidPair" = some (some (.ref f_InvalidPair)))
    {f_InvalidPrefix : Addr} (a_InvalidPrefix : PySem.W.nsIn K mainGlobals "InvalidPrefix" = some (some (.ref f_InvalidPrefix)))
    {f_PrefixMap : Addr} (a_PrefixMap : PySem.W.nsIn K mainGlobals "PrefixMap" = some (some (.ref f_PrefixMap)))
    (pg_PrefixMap : PySem.W.plainGet K f_PrefixMap Str.empty = true) (hd_PrefixMap : PySem.W.hasDictIn K f_PrefixMap = true) (po_PrefixMap : PySem.W.plainOver K f_PrefixMap = true) (sa_PrefixMap : PySem.W.findIn K (.ref f_PrefixMap) "__setattr__" = some (some (.builtin "object.__setattr__")))
    {f_RouteError : Addr} (a_RouteError : PySem.W.nsIn K mainGlobals "RouteError" = some (some (.ref f_RouteError)))
    {f_Table : Addr} (a_Table : PySem.W.nsIn K mainGlobals "Table" = some (some (.ref f_Table)))
    (pg_Table : PySem.W.plainGet K f_Table Str.empty = true) (hd_Table : PySem.W.hasDictIn K f_Table = true) (po_Table : PySem.W.plainOver K f_Table = true) (sa_Table : PySem.W.findIn K (.ref f_Table) "__setattr__" = some (some (.builtin "object.__setattr__")))
    {f__law_pen : Addr} {od__law_pen an__law_pen : Option Addr} {sl__law_pen : Array (Option Value)} {oc__law_pen kV__law_pen dc__law_pen pm__law_pen cd__law_pen ct__law_pen : Value}
    (a__law_pen : PySem.W.nsIn K mainGlobals "_law_pen" = some (some (.ref f__law_pen)))
    (l__law_pen : K.lookup f__law_pen = some ⟨oc__law_pen, od__law_pen, .func (PySem.W.fnOf "_law_pen" "_law_pen" (defArgs s__law_pen) (defBody s__law_pen) (defScope s__law_pen) .none kV__law_pen dc__law_pen pm__law_pen an__law_pen cd__law_pen ct__law_pen), sl__law_pen⟩) (c__law_pen : PySem.W.codeIn K cd__law_pen "_law_pen" = true) (k__law_pen : PySem.W.keepIn K (.ref f__law_pen) = true)
    {f_PrefixMap_kept_value : Addr} {od_PrefixMap_kept_value an_PrefixMap_kept_value : Option Addr} {sl_PrefixMap_kept_value : Array (Option Value)} {oc_PrefixMap_kept_value kV_PrefixMap_kept_value dc_PrefixMap_kept_value pm_PrefixMap_kept_value cd_PrefixMap_kept_value ct_PrefixMap_kept_value : Value}
    (a_PrefixMap_kept_value : PySem.W.findIn K (.ref f_PrefixMap) "kept_value" = some (some (.ref f_PrefixMap_kept_value))) (i_PrefixMap_kept_value : PySem.W.isFn K (.ref f_PrefixMap_kept_value) = true)
    (l_PrefixMap_kept_value : K.lookup f_PrefixMap_kept_value = some ⟨oc_PrefixMap_kept_value, od_PrefixMap_kept_value, .func (PySem.W.fnOf "kept_value" "PrefixMap.kept_value" (defArgs s_PrefixMap_kept_value) (defBody s_PrefixMap_kept_value) (defScope s_PrefixMap_kept_value) .none kV_PrefixMap_kept_value dc_PrefixMap_kept_value pm_PrefixMap_kept_value an_PrefixMap_kept_value cd_PrefixMap_kept_value ct_PrefixMap_kept_value), sl_PrefixMap_kept_value⟩) (c_PrefixMap_kept_value : PySem.W.codeIn K cd_PrefixMap_kept_value "PrefixMap.kept_value" = true) (k_PrefixMap_kept_value : PySem.W.keepIn K (.ref f_PrefixMap_kept_value) = true)
    {f_is_integer : Addr} {od_is_integer an_is_integer : Option Addr} {sl_is_integer : Array (Option Value)} {oc_is_integer kV_is_integer dc_is_integer pm_is_integer cd_is_integer ct_is_integer : Value}
    (a_is_integer : PySem.W.nsIn K mainGlobals "is_integer" = some (some (.ref f_is_integer)))
    (l_is_integer : K.lookup f_is_integer = some ⟨oc_is_integer, od_is_integer, .func (PySem.W.fnOf "is_integer" "is_integer" (defArgs s_is_integer) (defBody s_is_integer) (defScope s_is_integer) .none kV_is_integer dc_is_integer pm_is_integer an_is_integer cd_is_integer ct_is_integer), sl_is_integer⟩) (c_is_integer : PySem.W.codeIn K cd_is_integer "is_integer" = true) (k_is_integer : PySem.W.keepIn K (.ref f_is_integer) = true)
    {f_PrefixMap___len__ : Addr} {od_PrefixMap___len__ an_PrefixMap___len__ : Option Addr} {sl_PrefixMap___len__ : Array (Option Value)} {oc_PrefixMap___len__ kV_PrefixMap___len__ dc_PrefixMap___len__ pm_PrefixMap___len__ cd_PrefixMap___len__ ct_PrefixMap___len__ : Value}
    (a_PrefixMap___len__ : PySem.W.findIn K (.ref f_PrefixMap) "__len__" = some (some (.ref f_PrefixMap___len__))) (i_PrefixMap___len__ : PySem.W.isFn K (.ref f_PrefixMap___len__) = true)
    (l_PrefixMap___len__ : K.lookup f_PrefixMap___len__ = some ⟨oc_PrefixMap___len__, od_PrefixMap___len__, .func (PySem.W.fnOf "__len__" "PrefixMap.__len__" (defArgs s_PrefixMap___len__) (defBody s_PrefixMap___len__) (defScope s_PrefixMap___len__) .none kV_PrefixMap___len__ dc_PrefixMap___len__ pm_PrefixMap___len__ an_PrefixMap___len__ cd_PrefixMap___len__ ct_PrefixMap___len__), sl_PrefixMap___len__⟩) (c_PrefixMap___len__ : PySem.W.codeIn K cd_PrefixMap___len__ "PrefixMap.__len__" = true) (k_PrefixMap___len__ : PySem.W.keepIn K (.ref f_PrefixMap___len__) = true)
    {f_is_prefix : Addr} {od_is_prefix an_is_prefix : Option Addr} {sl_is_prefix : Array (Option Value)} {oc_is_prefix kV_is_prefix dc_is_prefix pm_is_prefix cd_is_prefix ct_is_prefix : Value}
    (a_is_prefix : PySem.W.nsIn K mainGlobals "is_prefix" = some (some (.ref f_is_prefix)))
    (l_is_prefix : K.lookup f_is_prefix = some ⟨oc_is_prefix, od_is_prefix, .func (PySem.W.fnOf "is_prefix" "is_prefix" (defArgs s_is_prefix) (defBody s_is_prefix) (defScope s_is_prefix) .none kV_is_prefix dc_is_prefix pm_is_prefix an_is_prefix cd_is_prefix ct_is_prefix), sl_is_prefix⟩) (c_is_prefix : PySem.W.codeIn K cd_is_prefix "is_prefix" = true) (k_is_prefix : PySem.W.keepIn K (.ref f_is_prefix) = true)
    {f_Table_is_target : Addr} {od_Table_is_target an_Table_is_target : Option Addr} {sl_Table_is_target : Array (Option Value)} {oc_Table_is_target kV_Table_is_target dc_Table_is_target pm_Table_is_target cd_Table_is_target ct_Table_is_target : Value}
    {p_Table_is_target : Addr} {rr_Table_is_target : List Value} (a_Table_is_target : PySem.W.findIn K (.ref f_Table) "is_target" = some (some (.ref p_Table_is_target))) (sf_Table_is_target : PySem.W.findCls K (.ref f_Table) (.type "type") "is_target" = some (.get (.builtin "staticmethod.__get__") (.ref p_Table_is_target) .none (.ref f_Table))) (rd_Table_is_target : PySem.W.readsIn K f_Table (.type "type") = true) (ga_Table_is_target : PySem.W.specialIn K (.ref f_Table) "__getattribute__" = some (some (.builtin "type.__getattribute__"))) (r_Table_is_target : PySem.W.recIn K p_Table_is_target "staticmethod" = some (.ref f_Table_is_target :: rr_Table_is_target))
    (l_Table_is_target : K.lookup f_Table_is_target = some ⟨oc_Table_is_target, od_Table_is_target, .func (PySem.W.fnOf "is_target" "Table.is_target" (defArgs s_Table_is_target) (defBody s_Table_is_target) (defScope s_Table_is_target) .none kV_Table_is_target dc_Table_is_target pm_Table_is_target an_Table_is_target cd_Table_is_target ct_Table_is_target), sl_Table_is_target⟩) (c_Table_is_target : PySem.W.codeIn K cd_Table_is_target "Table.is_target" = true) (k_Table_is_target : PySem.W.keepIn K (.ref f_Table_is_target) = true)
    {f_Table_is_value : Addr} {od_Table_is_value an_Table_is_value : Option Addr} {sl_Table_is_value : Array (Option Value)} {oc_Table_is_value kV_Table_is_value dc_Table_is_value pm_Table_is_value cd_Table_is_value ct_Table_is_value : Value}
    (a_Table_is_value : PySem.W.findIn K (.ref f_Table) "is_value" = some (some (.ref f_Table_is_value))) (i_Table_is_value : PySem.W.isFn K (.ref f_Table_is_value) = true)
    (l_Table_is_value : K.lookup f_Table_is_value = some ⟨oc_Table_is_value, od_Table_is_value, .func (PySem.W.fnOf "is_value" "Table.is_value" (defArgs s_Table_is_value) (defBody s_Table_is_value) (defScope s_Table_is_value) .none kV_Table_is_value dc_Table_is_value pm_Table_is_value an_Table_is_value cd_Table_is_value ct_Table_is_value), sl_Table_is_value⟩) (c_Table_is_value : PySem.W.codeIn K cd_Table_is_value "Table.is_value" = true) (k_Table_is_value : PySem.W.keepIn K (.ref f_Table_is_value) = true)
    {f_PrefixMap_is_value : Addr} {od_PrefixMap_is_value an_PrefixMap_is_value : Option Addr} {sl_PrefixMap_is_value : Array (Option Value)} {oc_PrefixMap_is_value kV_PrefixMap_is_value dc_PrefixMap_is_value pm_PrefixMap_is_value cd_PrefixMap_is_value ct_PrefixMap_is_value : Value}
    (a_PrefixMap_is_value : PySem.W.findIn K (.ref f_PrefixMap) "is_value" = some (some (.ref f_PrefixMap_is_value))) (i_PrefixMap_is_value : PySem.W.isFn K (.ref f_PrefixMap_is_value) = true)
    (l_PrefixMap_is_value : K.lookup f_PrefixMap_is_value = some ⟨oc_PrefixMap_is_value, od_PrefixMap_is_value, .func (PySem.W.fnOf "is_value" "PrefixMap.is_value" (defArgs s_PrefixMap_is_value) (defBody s_PrefixMap_is_value) (defScope s_PrefixMap_is_value) .none kV_PrefixMap_is_value dc_PrefixMap_is_value pm_PrefixMap_is_value an_PrefixMap_is_value cd_PrefixMap_is_value ct_PrefixMap_is_value), sl_PrefixMap_is_value⟩) (c_PrefixMap_is_value : PySem.W.codeIn K cd_PrefixMap_is_value "PrefixMap.is_value" = true) (k_PrefixMap_is_value : PySem.W.keepIn K (.ref f_PrefixMap_is_value) = true)
    {f_PrefixMap___init__ : Addr} {od_PrefixMap___init__ an_PrefixMap___init__ : Option Addr} {sl_PrefixMap___init__ : Array (Option Value)} {oc_PrefixMap___init__ kV_PrefixMap___init__ dc_PrefixMap___init__ pm_PrefixMap___init__ cd_PrefixMap___init__ ct_PrefixMap___init__ : Value}
    (a_PrefixMap___init__ : PySem.W.findIn K (.ref f_PrefixMap) "__init__" = some (some (.ref f_PrefixMap___init__))) (i_PrefixMap___init__ : PySem.W.isFn K (.ref f_PrefixMap___init__) = true)
    (l_PrefixMap___init__ : K.lookup f_PrefixMap___init__ = some ⟨oc_PrefixMap___init__, od_PrefixMap___init__, .func (PySem.W.fnOf "__init__" "PrefixMap.__init__" (defArgs s_PrefixMap___init__) (defBody s_PrefixMap___init__) (defScope s_PrefixMap___init__) .none kV_PrefixMap___init__ dc_PrefixMap___init__ pm_PrefixMap___init__ an_PrefixMap___init__ cd_PrefixMap___init__ ct_PrefixMap___init__), sl_PrefixMap___init__⟩) (c_PrefixMap___init__ : PySem.W.codeIn K cd_PrefixMap___init__ "PrefixMap.__init__" = true) (k_PrefixMap___init__ : PySem.W.keepIn K (.ref f_PrefixMap___init__) = true)
    {f_PrefixMap_is_same : Addr} {od_PrefixMap_is_same an_PrefixMap_is_same : Option Addr} {sl_PrefixMap_is_same : Array (Option Value)} {oc_PrefixMap_is_same kV_PrefixMap_is_same dc_PrefixMap_is_same pm_PrefixMap_is_same cd_PrefixMap_is_same ct_PrefixMap_is_same : Value}
    (a_PrefixMap_is_same : PySem.W.findIn K (.ref f_PrefixMap) "is_same" = some (some (.ref f_PrefixMap_is_same))) (i_PrefixMap_is_same : PySem.W.isFn K (.ref f_PrefixMap_is_same) = true)
    (l_PrefixMap_is_same : K.lookup f_PrefixMap_is_same = some ⟨oc_PrefixMap_is_same, od_PrefixMap_is_same, .func (PySem.W.fnOf "is_same" "PrefixMap.is_same" (defArgs s_PrefixMap_is_same) (defBody s_PrefixMap_is_same) (defScope s_PrefixMap_is_same) .none kV_PrefixMap_is_same dc_PrefixMap_is_same pm_PrefixMap_is_same an_PrefixMap_is_same cd_PrefixMap_is_same ct_PrefixMap_is_same), sl_PrefixMap_is_same⟩) (c_PrefixMap_is_same : PySem.W.codeIn K cd_PrefixMap_is_same "PrefixMap.is_same" = true) (k_PrefixMap_is_same : PySem.W.keepIn K (.ref f_PrefixMap_is_same) = true)
    {f_Table_sort_of_map : Addr} {od_Table_sort_of_map an_Table_sort_of_map : Option Addr} {sl_Table_sort_of_map : Array (Option Value)} {oc_Table_sort_of_map kV_Table_sort_of_map dc_Table_sort_of_map pm_Table_sort_of_map cd_Table_sort_of_map ct_Table_sort_of_map : Value}
    (a_Table_sort_of_map : PySem.W.findIn K (.ref f_Table) "sort_of_map" = some (some (.ref f_Table_sort_of_map))) (i_Table_sort_of_map : PySem.W.isFn K (.ref f_Table_sort_of_map) = true)
    (l_Table_sort_of_map : K.lookup f_Table_sort_of_map = some ⟨oc_Table_sort_of_map, od_Table_sort_of_map, .func (PySem.W.fnOf "sort_of_map" "Table.sort_of_map" (defArgs s_Table_sort_of_map) (defBody s_Table_sort_of_map) (defScope s_Table_sort_of_map) .none kV_Table_sort_of_map dc_Table_sort_of_map pm_Table_sort_of_map an_Table_sort_of_map cd_Table_sort_of_map ct_Table_sort_of_map), sl_Table_sort_of_map⟩) (c_Table_sort_of_map : PySem.W.codeIn K cd_Table_sort_of_map "Table.sort_of_map" = true) (k_Table_sort_of_map : PySem.W.keepIn K (.ref f_Table_sort_of_map) = true)
    {f_PrefixMap_sort_of_map : Addr} {od_PrefixMap_sort_of_map an_PrefixMap_sort_of_map : Option Addr} {sl_PrefixMap_sort_of_map : Array (Option Value)} {oc_PrefixMap_sort_of_map kV_PrefixMap_sort_of_map dc_PrefixMap_sort_of_map pm_PrefixMap_sort_of_map cd_PrefixMap_sort_of_map ct_PrefixMap_sort_of_map : Value}
    (a_PrefixMap_sort_of_map : PySem.W.findIn K (.ref f_PrefixMap) "sort_of_map" = some (some (.ref f_PrefixMap_sort_of_map))) (i_PrefixMap_sort_of_map : PySem.W.isFn K (.ref f_PrefixMap_sort_of_map) = true)
    (l_PrefixMap_sort_of_map : K.lookup f_PrefixMap_sort_of_map = some ⟨oc_PrefixMap_sort_of_map, od_PrefixMap_sort_of_map, .func (PySem.W.fnOf "sort_of_map" "PrefixMap.sort_of_map" (defArgs s_PrefixMap_sort_of_map) (defBody s_PrefixMap_sort_of_map) (defScope s_PrefixMap_sort_of_map) .none kV_PrefixMap_sort_of_map dc_PrefixMap_sort_of_map pm_PrefixMap_sort_of_map an_PrefixMap_sort_of_map cd_PrefixMap_sort_of_map ct_PrefixMap_sort_of_map), sl_PrefixMap_sort_of_map⟩) (c_PrefixMap_sort_of_map : PySem.W.codeIn K cd_PrefixMap_sort_of_map "PrefixMap.sort_of_map" = true) (k_PrefixMap_sort_of_map : PySem.W.keepIn K (.ref f_PrefixMap_sort_of_map) = true)
    {f_PrefixMap___eq__ : Addr} {od_PrefixMap___eq__ an_PrefixMap___eq__ : Option Addr} {sl_PrefixMap___eq__ : Array (Option Value)} {oc_PrefixMap___eq__ kV_PrefixMap___eq__ dc_PrefixMap___eq__ pm_PrefixMap___eq__ cd_PrefixMap___eq__ ct_PrefixMap___eq__ : Value}
    (a_PrefixMap___eq__ : PySem.W.findIn K (.ref f_PrefixMap) "__eq__" = some (some (.ref f_PrefixMap___eq__))) (i_PrefixMap___eq__ : PySem.W.isFn K (.ref f_PrefixMap___eq__) = true)
    (l_PrefixMap___eq__ : K.lookup f_PrefixMap___eq__ = some ⟨oc_PrefixMap___eq__, od_PrefixMap___eq__, .func (PySem.W.fnOf "__eq__" "PrefixMap.__eq__" (defArgs s_PrefixMap___eq__) (defBody s_PrefixMap___eq__) (defScope s_PrefixMap___eq__) .none kV_PrefixMap___eq__ dc_PrefixMap___eq__ pm_PrefixMap___eq__ an_PrefixMap___eq__ cd_PrefixMap___eq__ ct_PrefixMap___eq__), sl_PrefixMap___eq__⟩) (c_PrefixMap___eq__ : PySem.W.codeIn K cd_PrefixMap___eq__ "PrefixMap.__eq__" = true) (k_PrefixMap___eq__ : PySem.W.keepIn K (.ref f_PrefixMap___eq__) = true)
    {f__law_next : Addr} {od__law_next an__law_next : Option Addr} {sl__law_next : Array (Option Value)} {oc__law_next kV__law_next dc__law_next pm__law_next cd__law_next ct__law_next : Value}
    (a__law_next : PySem.W.nsIn K mainGlobals "_law_next" = some (some (.ref f__law_next)))
    (l__law_next : K.lookup f__law_next = some ⟨oc__law_next, od__law_next, .func (PySem.W.fnOf "_law_next" "_law_next" (defArgs s__law_next) (defBody s__law_next) (defScope s__law_next) .none kV__law_next dc__law_next pm__law_next an__law_next cd__law_next ct__law_next), sl__law_next⟩) (c__law_next : PySem.W.codeIn K cd__law_next "_law_next" = true) (k__law_next : PySem.W.keepIn K (.ref f__law_next) = true)
    {f__law_draw : Addr} {od__law_draw an__law_draw : Option Addr} {sl__law_draw : Array (Option Value)} {oc__law_draw kV__law_draw dc__law_draw pm__law_draw cd__law_draw ct__law_draw : Value}
    (a__law_draw : PySem.W.nsIn K mainGlobals "_law_draw" = some (some (.ref f__law_draw)))
    (l__law_draw : K.lookup f__law_draw = some ⟨oc__law_draw, od__law_draw, .func (PySem.W.fnOf "_law_draw" "_law_draw" (defArgs s__law_draw) (defBody s__law_draw) (defScope s__law_draw) .none kV__law_draw dc__law_draw pm__law_draw an__law_draw cd__law_draw ct__law_draw), sl__law_draw⟩) (c__law_draw : PySem.W.codeIn K cd__law_draw "_law_draw" = true) (k__law_draw : PySem.W.keepIn K (.ref f__law_draw) = true)
    {f__law_bits : Addr} {od__law_bits an__law_bits : Option Addr} {sl__law_bits : Array (Option Value)} {oc__law_bits kV__law_bits dc__law_bits pm__law_bits cd__law_bits ct__law_bits : Value}
    (a__law_bits : PySem.W.nsIn K mainGlobals "_law_bits" = some (some (.ref f__law_bits)))
    (l__law_bits : K.lookup f__law_bits = some ⟨oc__law_bits, od__law_bits, .func (PySem.W.fnOf "_law_bits" "_law_bits" (defArgs s__law_bits) (defBody s__law_bits) (defScope s__law_bits) .none kV__law_bits dc__law_bits pm__law_bits an__law_bits cd__law_bits ct__law_bits), sl__law_bits⟩) (c__law_bits : PySem.W.codeIn K cd__law_bits "_law_bits" = true) (k__law_bits : PySem.W.keepIn K (.ref f__law_bits) = true)
    {f__law_prefixes : Addr} {od__law_prefixes an__law_prefixes : Option Addr} {sl__law_prefixes : Array (Option Value)} {oc__law_prefixes kV__law_prefixes dc__law_prefixes pm__law_prefixes cd__law_prefixes ct__law_prefixes : Value}
    (a__law_prefixes : PySem.W.nsIn K mainGlobals "_law_prefixes" = some (some (.ref f__law_prefixes)))
    (l__law_prefixes : K.lookup f__law_prefixes = some ⟨oc__law_prefixes, od__law_prefixes, .func (PySem.W.fnOf "_law_prefixes" "_law_prefixes" (defArgs s__law_prefixes) (defBody s__law_prefixes) (defScope s__law_prefixes) .none kV__law_prefixes dc__law_prefixes pm__law_prefixes an__law_prefixes cd__law_prefixes ct__law_prefixes), sl__law_prefixes⟩) (c__law_prefixes : PySem.W.codeIn K cd__law_prefixes "_law_prefixes" = true) (k__law_prefixes : PySem.W.keepIn K (.ref f__law_prefixes) = true)
    {f__law_lines : Addr} {od__law_lines an__law_lines : Option Addr} {sl__law_lines : Array (Option Value)} {oc__law_lines kV__law_lines dc__law_lines pm__law_lines cd__law_lines ct__law_lines : Value}
    (a__law_lines : PySem.W.nsIn K mainGlobals "_law_lines" = some (some (.ref f__law_lines)))
    (l__law_lines : K.lookup f__law_lines = some ⟨oc__law_lines, od__law_lines, .func (PySem.W.fnOf "_law_lines" "_law_lines" (defArgs s__law_lines) (defBody s__law_lines) (defScope s__law_lines) .none kV__law_lines dc__law_lines pm__law_lines an__law_lines cd__law_lines ct__law_lines), sl__law_lines⟩) (c__law_lines : PySem.W.codeIn K cd__law_lines "_law_lines" = true) (k__law_lines : PySem.W.keepIn K (.ref f__law_lines) = true)
    {f_PrefixMap_width : Addr} {od_PrefixMap_width an_PrefixMap_width : Option Addr} {sl_PrefixMap_width : Array (Option Value)} {oc_PrefixMap_width kV_PrefixMap_width dc_PrefixMap_width pm_PrefixMap_width cd_PrefixMap_width ct_PrefixMap_width : Value}
    {p_PrefixMap_width : Addr} {rr_PrefixMap_width : List Value} (a_PrefixMap_width : PySem.W.findIn K (.ref f_PrefixMap) "width" = some (some (.ref p_PrefixMap_width))) (g_PrefixMap_width : PySem.W.specialIn K (.ref p_PrefixMap_width) "__get__" = some (some (.builtin "property.__get__"))) (t_PrefixMap_width : PySem.W.takesIn K (.ref p_PrefixMap_width) = some true) (r_PrefixMap_width : PySem.W.recIn K p_PrefixMap_width "property" = some (.ref f_PrefixMap_width :: rr_PrefixMap_width))
    (l_PrefixMap_width : K.lookup f_PrefixMap_width = some ⟨oc_PrefixMap_width, od_PrefixMap_width, .func (PySem.W.fnOf "width" "PrefixMap.width" (defArgs s_PrefixMap_width) (defBody s_PrefixMap_width) (defScope s_PrefixMap_width) .none kV_PrefixMap_width dc_PrefixMap_width pm_PrefixMap_width an_PrefixMap_width cd_PrefixMap_width ct_PrefixMap_width), sl_PrefixMap_width⟩) (c_PrefixMap_width : PySem.W.codeIn K cd_PrefixMap_width "PrefixMap.width" = true) (k_PrefixMap_width : PySem.W.keepIn K (.ref f_PrefixMap_width) = true)
    {f_check_widths : Addr} {od_check_widths an_check_widths : Option Addr} {sl_check_widths : Array (Option Value)} {oc_check_widths kV_check_widths dc_check_widths pm_check_widths cd_check_widths ct_check_widths : Value}
    (a_check_widths : PySem.W.nsIn K mainGlobals "check_widths" = some (some (.ref f_check_widths)))
    (l_check_widths : K.lookup f_check_widths = some ⟨oc_check_widths, od_check_widths, .func (PySem.W.fnOf "check_widths" "check_widths" (defArgs s_check_widths) (defBody s_check_widths) (defScope s_check_widths) .none kV_check_widths dc_check_widths pm_check_widths an_check_widths cd_check_widths ct_check_widths), sl_check_widths⟩) (c_check_widths : PySem.W.codeIn K cd_check_widths "check_widths" = true) (k_check_widths : PySem.W.keepIn K (.ref f_check_widths) = true)
    {f_leaves_of : Addr} {od_leaves_of an_leaves_of : Option Addr} {sl_leaves_of : Array (Option Value)} {oc_leaves_of kV_leaves_of dc_leaves_of pm_leaves_of cd_leaves_of ct_leaves_of : Value}
    (a_leaves_of : PySem.W.nsIn K mainGlobals "leaves_of" = some (some (.ref f_leaves_of)))
    (l_leaves_of : K.lookup f_leaves_of = some ⟨oc_leaves_of, od_leaves_of, .func (PySem.W.fnOf "leaves_of" "leaves_of" (defArgs s_leaves_of) (defBody s_leaves_of) (defScope s_leaves_of) .none kV_leaves_of dc_leaves_of pm_leaves_of an_leaves_of cd_leaves_of ct_leaves_of), sl_leaves_of⟩) (c_leaves_of : PySem.W.codeIn K cd_leaves_of "leaves_of" = true) (k_leaves_of : PySem.W.keepIn K (.ref f_leaves_of) = true)
    {f_closed : Addr} {od_closed an_closed : Option Addr} {sl_closed : Array (Option Value)} {oc_closed kV_closed dc_closed pm_closed cd_closed ct_closed : Value}
    (a_closed : PySem.W.nsIn K mainGlobals "closed" = some (some (.ref f_closed)))
    (l_closed : K.lookup f_closed = some ⟨oc_closed, od_closed, .func (PySem.W.fnOf "closed" "closed" (defArgs s_closed) (defBody s_closed) (defScope s_closed) .none kV_closed dc_closed pm_closed an_closed cd_closed ct_closed), sl_closed⟩) (c_closed : PySem.W.codeIn K cd_closed "closed" = true) (k_closed : PySem.W.keepIn K (.ref f_closed) = true)
    {f_PrefixMap_rows : Addr} {od_PrefixMap_rows an_PrefixMap_rows : Option Addr} {sl_PrefixMap_rows : Array (Option Value)} {oc_PrefixMap_rows kV_PrefixMap_rows dc_PrefixMap_rows pm_PrefixMap_rows cd_PrefixMap_rows ct_PrefixMap_rows : Value}
    {p_PrefixMap_rows : Addr} {rr_PrefixMap_rows : List Value} (a_PrefixMap_rows : PySem.W.findIn K (.ref f_PrefixMap) "rows" = some (some (.ref p_PrefixMap_rows))) (g_PrefixMap_rows : PySem.W.specialIn K (.ref p_PrefixMap_rows) "__get__" = some (some (.builtin "property.__get__"))) (t_PrefixMap_rows : PySem.W.takesIn K (.ref p_PrefixMap_rows) = some true) (r_PrefixMap_rows : PySem.W.recIn K p_PrefixMap_rows "property" = some (.ref f_PrefixMap_rows :: rr_PrefixMap_rows))
    (l_PrefixMap_rows : K.lookup f_PrefixMap_rows = some ⟨oc_PrefixMap_rows, od_PrefixMap_rows, .func (PySem.W.fnOf "rows" "PrefixMap.rows" (defArgs s_PrefixMap_rows) (defBody s_PrefixMap_rows) (defScope s_PrefixMap_rows) .none kV_PrefixMap_rows dc_PrefixMap_rows pm_PrefixMap_rows an_PrefixMap_rows cd_PrefixMap_rows ct_PrefixMap_rows), sl_PrefixMap_rows⟩) (c_PrefixMap_rows : PySem.W.codeIn K cd_PrefixMap_rows "PrefixMap.rows" = true) (k_PrefixMap_rows : PySem.W.keepIn K (.ref f_PrefixMap_rows) = true)
    {f_common_leaves : Addr} {od_common_leaves an_common_leaves : Option Addr} {sl_common_leaves : Array (Option Value)} {oc_common_leaves kV_common_leaves dc_common_leaves pm_common_leaves cd_common_leaves ct_common_leaves : Value}
    (a_common_leaves : PySem.W.nsIn K mainGlobals "common_leaves" = some (some (.ref f_common_leaves)))
    (l_common_leaves : K.lookup f_common_leaves = some ⟨oc_common_leaves, od_common_leaves, .func (PySem.W.fnOf "common_leaves" "common_leaves" (defArgs s_common_leaves) (defBody s_common_leaves) (defScope s_common_leaves) .none kV_common_leaves dc_common_leaves pm_common_leaves an_common_leaves cd_common_leaves ct_common_leaves), sl_common_leaves⟩) (c_common_leaves : PySem.W.codeIn K cd_common_leaves "common_leaves" = true) (k_common_leaves : PySem.W.keepIn K (.ref f_common_leaves) = true)
    {f_PrefixMap_longest : Addr} {od_PrefixMap_longest an_PrefixMap_longest : Option Addr} {sl_PrefixMap_longest : Array (Option Value)} {oc_PrefixMap_longest kV_PrefixMap_longest dc_PrefixMap_longest pm_PrefixMap_longest cd_PrefixMap_longest ct_PrefixMap_longest : Value}
    (a_PrefixMap_longest : PySem.W.findIn K (.ref f_PrefixMap) "longest" = some (some (.ref f_PrefixMap_longest))) (i_PrefixMap_longest : PySem.W.isFn K (.ref f_PrefixMap_longest) = true)
    (l_PrefixMap_longest : K.lookup f_PrefixMap_longest = some ⟨oc_PrefixMap_longest, od_PrefixMap_longest, .func (PySem.W.fnOf "longest" "PrefixMap.longest" (defArgs s_PrefixMap_longest) (defBody s_PrefixMap_longest) (defScope s_PrefixMap_longest) .none kV_PrefixMap_longest dc_PrefixMap_longest pm_PrefixMap_longest an_PrefixMap_longest cd_PrefixMap_longest ct_PrefixMap_longest), sl_PrefixMap_longest⟩) (c_PrefixMap_longest : PySem.W.codeIn K cd_PrefixMap_longest "PrefixMap.longest" = true) (k_PrefixMap_longest : PySem.W.keepIn K (.ref f_PrefixMap_longest) = true)
    {f_Table_target_of : Addr} {od_Table_target_of an_Table_target_of : Option Addr} {sl_Table_target_of : Array (Option Value)} {oc_Table_target_of kV_Table_target_of dc_Table_target_of pm_Table_target_of cd_Table_target_of ct_Table_target_of : Value}
    (a_Table_target_of : PySem.W.findIn K (.ref f_Table) "target_of" = some (some (.ref f_Table_target_of))) (i_Table_target_of : PySem.W.isFn K (.ref f_Table_target_of) = true)
    (l_Table_target_of : K.lookup f_Table_target_of = some ⟨oc_Table_target_of, od_Table_target_of, .func (PySem.W.fnOf "target_of" "Table.target_of" (defArgs s_Table_target_of) (defBody s_Table_target_of) (defScope s_Table_target_of) .none kV_Table_target_of dc_Table_target_of pm_Table_target_of an_Table_target_of cd_Table_target_of ct_Table_target_of), sl_Table_target_of⟩) (c_Table_target_of : PySem.W.codeIn K cd_Table_target_of "Table.target_of" = true) (k_Table_target_of : PySem.W.keepIn K (.ref f_Table_target_of) = true)
    {f_first_address : Addr} {od_first_address an_first_address : Option Addr} {sl_first_address : Array (Option Value)} {oc_first_address kV_first_address dc_first_address pm_first_address cd_first_address ct_first_address : Value}
    (a_first_address : PySem.W.nsIn K mainGlobals "first_address" = some (some (.ref f_first_address)))
    (l_first_address : K.lookup f_first_address = some ⟨oc_first_address, od_first_address, .func (PySem.W.fnOf "first_address" "first_address" (defArgs s_first_address) (defBody s_first_address) (defScope s_first_address) .none kV_first_address dc_first_address pm_first_address an_first_address cd_first_address ct_first_address), sl_first_address⟩) (c_first_address : PySem.W.codeIn K cd_first_address "first_address" = true) (k_first_address : PySem.W.keepIn K (.ref f_first_address) = true)
    {f_first_difference : Addr} {od_first_difference an_first_difference : Option Addr} {sl_first_difference : Array (Option Value)} {oc_first_difference kV_first_difference dc_first_difference pm_first_difference cd_first_difference ct_first_difference : Value}
    (a_first_difference : PySem.W.nsIn K mainGlobals "first_difference" = some (some (.ref f_first_difference)))
    (l_first_difference : K.lookup f_first_difference = some ⟨oc_first_difference, od_first_difference, .func (PySem.W.fnOf "first_difference" "first_difference" (defArgs s_first_difference) (defBody s_first_difference) (defScope s_first_difference) .none kV_first_difference dc_first_difference pm_first_difference an_first_difference cd_first_difference ct_first_difference), sl_first_difference⟩) (c_first_difference : PySem.W.codeIn K cd_first_difference "first_difference" = true) (k_first_difference : PySem.W.keepIn K (.ref f_first_difference) = true)
    {f_same_meaning : Addr} {od_same_meaning an_same_meaning : Option Addr} {sl_same_meaning : Array (Option Value)} {oc_same_meaning kV_same_meaning dc_same_meaning pm_same_meaning cd_same_meaning ct_same_meaning : Value}
    (a_same_meaning : PySem.W.nsIn K mainGlobals "same_meaning" = some (some (.ref f_same_meaning)))
    (l_same_meaning : K.lookup f_same_meaning = some ⟨oc_same_meaning, od_same_meaning, .func (PySem.W.fnOf "same_meaning" "same_meaning" (defArgs s_same_meaning) (defBody s_same_meaning) (defScope s_same_meaning) .none kV_same_meaning dc_same_meaning pm_same_meaning an_same_meaning cd_same_meaning ct_same_meaning), sl_same_meaning⟩) (c_same_meaning : PySem.W.codeIn K cd_same_meaning "same_meaning" = true) (k_same_meaning : PySem.W.keepIn K (.ref f_same_meaning) = true)
    {f__law_outcome : Addr} {od__law_outcome an__law_outcome : Option Addr} {sl__law_outcome : Array (Option Value)} {oc__law_outcome kV__law_outcome dc__law_outcome pm__law_outcome cd__law_outcome ct__law_outcome : Value}
    (a__law_outcome : PySem.W.nsIn K mainGlobals "_law_outcome" = some (some (.ref f__law_outcome)))
    (l__law_outcome : K.lookup f__law_outcome = some ⟨oc__law_outcome, od__law_outcome, .func (PySem.W.fnOf "_law_outcome" "_law_outcome" (defArgs s__law_outcome) (defBody s__law_outcome) (defScope s__law_outcome) .none kV__law_outcome dc__law_outcome pm__law_outcome an__law_outcome cd__law_outcome ct__law_outcome), sl__law_outcome⟩) (c__law_outcome : PySem.W.codeIn K cd__law_outcome "_law_outcome" = true) (k__law_outcome : PySem.W.keepIn K (.ref f__law_outcome) = true)
    {f_law : Addr} {od_law an_law : Option Addr} {sl_law : Array (Option Value)} {oc_law kV_law dc_law pm_law cd_law ct_law : Value}
    (a_law : PySem.W.nsIn K mainGlobals "law" = some (some (.ref f_law)))
    (l_law : K.lookup f_law = some ⟨oc_law, od_law, .func (PySem.W.fnOf "law" "law" (defArgs s_law) (defBody s_law) (defScope s_law) .none kV_law dc_law pm_law an_law cd_law ct_law), sl_law⟩) (c_law : PySem.W.codeIn K cd_law "law" = true) (k_law : PySem.W.keepIn K (.ref f_law) = true)
    (ic_InvalidAddress : PySem.W.isClsIn K f_InvalidAddress = true) (ty_InvalidAddress : PySem.W.typeIn K (.ref f_InvalidAddress) = some (.type "type")) (ss_InvalidAddress : PySem.W.subIn K (.ref f_InvalidAddress) (.ref f_InvalidAddress) = some true)
    (nb0_InvalidAddress : PySem.W.subIn K (.type "NoneType") (.ref f_InvalidAddress) = some false)
    (nb1_InvalidAddress : PySem.W.subIn K (.type "bool") (.ref f_InvalidAddress) = some false)
    (nb2_InvalidAddress : PySem.W.subIn K (.type "int") (.ref f_InvalidAddress) = some false)
    (nb3_InvalidAddress : PySem.W.subIn K (.type "str") (.ref f_InvalidAddress) = some false)
    (nb4_InvalidAddress : PySem.W.subIn K (.type "list") (.ref f_InvalidAddress) = some false)
    (nb5_InvalidAddress : PySem.W.subIn K (.type "tuple") (.ref f_InvalidAddress) = some false)
    (nb6_InvalidAddress : PySem.W.subIn K (.type "dict") (.ref f_InvalidAddress) = some false)
    (ic_InvalidMap : PySem.W.isClsIn K f_InvalidMap = true) (ty_InvalidMap : PySem.W.typeIn K (.ref f_InvalidMap) = some (.type "type")) (ss_InvalidMap : PySem.W.subIn K (.ref f_InvalidMap) (.ref f_InvalidMap) = some true)
    (nb0_InvalidMap : PySem.W.subIn K (.type "NoneType") (.ref f_InvalidMap) = some false)
    (nb1_InvalidMap : PySem.W.subIn K (.type "bool") (.ref f_InvalidMap) = some false)
    (nb2_InvalidMap : PySem.W.subIn K (.type "int") (.ref f_InvalidMap) = some false)
    (nb3_InvalidMap : PySem.W.subIn K (.type "str") (.ref f_InvalidMap) = some false)
    (nb4_InvalidMap : PySem.W.subIn K (.type "list") (.ref f_InvalidMap) = some false)
    (nb5_InvalidMap : PySem.W.subIn K (.type "tuple") (.ref f_InvalidMap) = some false)
    (nb6_InvalidMap : PySem.W.subIn K (.type "dict") (.ref f_InvalidMap) = some false)
    (ic_InvalidPair : PySem.W.isClsIn K f_InvalidPair = true) (ty_InvalidPair : PySem.W.typeIn K (.ref f_InvalidPair) = some (.type "type")) (ss_InvalidPair : PySem.W.subIn K (.ref f_InvalidPair) (.ref f_InvalidPair) = some true)
    (nb0_InvalidPair : PySem.W.subIn K (.type "NoneType") (.ref f_InvalidPair) = some false)
    (nb1_InvalidPair : PySem.W.subIn K (.type "bool") (.ref f_InvalidPair) = some false)
    (nb2_InvalidPair : PySem.W.subIn K (.type "int") (.ref f_InvalidPair) = some false)
    (nb3_InvalidPair : PySem.W.subIn K (.type "str") (.ref f_InvalidPair) = some false)
    (nb4_InvalidPair : PySem.W.subIn K (.type "list") (.ref f_InvalidPair) = some false)
    (nb5_InvalidPair : PySem.W.subIn K (.type "tuple") (.ref f_InvalidPair) = some false)
    (nb6_InvalidPair : PySem.W.subIn K (.type "dict") (.ref f_InvalidPair) = some false)
    (ic_InvalidPrefix : PySem.W.isClsIn K f_InvalidPrefix = true) (ty_InvalidPrefix : PySem.W.typeIn K (.ref f_InvalidPrefix) = some (.type "type")) (ss_InvalidPrefix : PySem.W.subIn K (.ref f_InvalidPrefix) (.ref f_InvalidPrefix) = some true)
    (nb0_InvalidPrefix : PySem.W.subIn K (.type "NoneType") (.ref f_InvalidPrefix) = some false)
    (nb1_InvalidPrefix : PySem.W.subIn K (.type "bool") (.ref f_InvalidPrefix) = some false)
    (nb2_InvalidPrefix : PySem.W.subIn K (.type "int") (.ref f_InvalidPrefix) = some false)
    (nb3_InvalidPrefix : PySem.W.subIn K (.type "str") (.ref f_InvalidPrefix) = some false)
    (nb4_InvalidPrefix : PySem.W.subIn K (.type "list") (.ref f_InvalidPrefix) = some false)
    (nb5_InvalidPrefix : PySem.W.subIn K (.type "tuple") (.ref f_InvalidPrefix) = some false)
    (nb6_InvalidPrefix : PySem.W.subIn K (.type "dict") (.ref f_InvalidPrefix) = some false)
    (ic_PrefixMap : PySem.W.isClsIn K f_PrefixMap = true) (ty_PrefixMap : PySem.W.typeIn K (.ref f_PrefixMap) = some (.type "type")) (ss_PrefixMap : PySem.W.subIn K (.ref f_PrefixMap) (.ref f_PrefixMap) = some true)
    (nb0_PrefixMap : PySem.W.subIn K (.type "NoneType") (.ref f_PrefixMap) = some false)
    (nb1_PrefixMap : PySem.W.subIn K (.type "bool") (.ref f_PrefixMap) = some false)
    (nb2_PrefixMap : PySem.W.subIn K (.type "int") (.ref f_PrefixMap) = some false)
    (nb3_PrefixMap : PySem.W.subIn K (.type "str") (.ref f_PrefixMap) = some false)
    (nb4_PrefixMap : PySem.W.subIn K (.type "list") (.ref f_PrefixMap) = some false)
    (nb5_PrefixMap : PySem.W.subIn K (.type "tuple") (.ref f_PrefixMap) = some false)
    (nb6_PrefixMap : PySem.W.subIn K (.type "dict") (.ref f_PrefixMap) = some false)
    (ic_RouteError : PySem.W.isClsIn K f_RouteError = true) (ty_RouteError : PySem.W.typeIn K (.ref f_RouteError) = some (.type "type")) (ss_RouteError : PySem.W.subIn K (.ref f_RouteError) (.ref f_RouteError) = some true)
    (nb0_RouteError : PySem.W.subIn K (.type "NoneType") (.ref f_RouteError) = some false)
    (nb1_RouteError : PySem.W.subIn K (.type "bool") (.ref f_RouteError) = some false)
    (nb2_RouteError : PySem.W.subIn K (.type "int") (.ref f_RouteError) = some false)
    (nb3_RouteError : PySem.W.subIn K (.type "str") (.ref f_RouteError) = some false)
    (nb4_RouteError : PySem.W.subIn K (.type "list") (.ref f_RouteError) = some false)
    (nb5_RouteError : PySem.W.subIn K (.type "tuple") (.ref f_RouteError) = some false)
    (nb6_RouteError : PySem.W.subIn K (.type "dict") (.ref f_RouteError) = some false)
    (by_RouteError : PySem.W.subIn K (.ref f_RouteError) (.type "BaseException") = some true)
    (en_PrefixMap : PySem.W.findIn K (.ref f_PrefixMap) "__ne__" = some (some (.builtin "object.__ne__"))) (eo_PrefixMap : PySem.W.subIn K (.ref f_PrefixMap) (.type "object") = some true)
    (a_Table___eq__ : PySem.W.findIn K (.ref f_Table) "__eq__" = some (some (.ref f_PrefixMap___eq__)))
    (en_Table : PySem.W.findIn K (.ref f_Table) "__ne__" = some (some (.builtin "object.__ne__"))) (eo_Table : PySem.W.subIn K (.ref f_Table) (.type "object") = some true)
    (ha_PrefixMap : PySem.W.findIn K (.ref f_PrefixMap) "__class__" = some (some (.builtin "object.__class__"))) (hn_PrefixMap : PySem.W.specialIn K (.builtin "object.__class__") "__get__" = some (some (.builtin "getset_descriptor.__get__"))) (htk_PrefixMap : PySem.W.takesIn K (.builtin "object.__class__") = some true) (hm_PrefixMap : PySem.W.mroIn K f_PrefixMap (.type "object") = some true)
    (ha_Table : PySem.W.findIn K (.ref f_Table) "__class__" = some (some (.builtin "object.__class__"))) (hn_Table : PySem.W.specialIn K (.builtin "object.__class__") "__get__" = some (some (.builtin "getset_descriptor.__get__"))) (htk_Table : PySem.W.takesIn K (.builtin "object.__class__") = some true) (hm_Table : PySem.W.mroIn K f_Table (.type "object") = some true)
    (a_Table_is_same : PySem.W.findIn K (.ref f_Table) "is_same" = some (some (.ref f_PrefixMap_is_same)))
    (a_Table_kept_value : PySem.W.findIn K (.ref f_Table) "kept_value" = some (some (.ref f_PrefixMap_kept_value)))
    (a_Table_longest : PySem.W.findIn K (.ref f_Table) "longest" = some (some (.ref f_PrefixMap_longest)))
    (a_Table___init__ : PySem.W.findIn K (.ref f_Table) "__init__" = some (some (.ref f_PrefixMap___init__)))
    (mk_Table : PySem.W.makesIn K f_Table = true)
    (na_PrefixMap_bits : PySem.W.findIn K (.ref f_PrefixMap) "bits" = some none)
    (na_PrefixMap_held : PySem.W.findIn K (.ref f_PrefixMap) "held" = some none)
    (na_Table_bits : PySem.W.findIn K (.ref f_Table) "bits" = some none)
    (na_Table_held : PySem.W.findIn K (.ref f_Table) "held" = some none)
    (nf_PrefixMap_PrefixMap : PySem.W.notFirst K f_PrefixMap (.ref f_PrefixMap) = true)
    (nf_Table_PrefixMap : PySem.W.notFirst K f_Table (.ref f_PrefixMap) = true)
    (nf_Table_Table : PySem.W.notFirst K f_Table (.ref f_Table) = true)
    (a_Table_rows : PySem.W.findIn K (.ref f_Table) "rows" = some (some (.ref p_PrefixMap_rows)))
    (a_Table_width : PySem.W.findIn K (.ref f_Table) "width" = some (some (.ref p_PrefixMap_width)))
    (sb_InvalidMap_InvalidAddress : PySem.W.subIn K (.ref f_InvalidMap) (.ref f_InvalidAddress) = some false)
    (sb_InvalidMap_InvalidMap : PySem.W.subIn K (.ref f_InvalidMap) (.ref f_InvalidMap) = some true)
    (sb_InvalidMap_InvalidPair : PySem.W.subIn K (.ref f_InvalidMap) (.ref f_InvalidPair) = some false)
    (sb_InvalidMap_InvalidPrefix : PySem.W.subIn K (.ref f_InvalidMap) (.ref f_InvalidPrefix) = some false)
    (sb_InvalidMap_RouteError : PySem.W.subIn K (.ref f_InvalidMap) (.ref f_RouteError) = some true)
    (sb_InvalidPair_InvalidAddress : PySem.W.subIn K (.ref f_InvalidPair) (.ref f_InvalidAddress) = some false)
    (sb_InvalidPair_InvalidMap : PySem.W.subIn K (.ref f_InvalidPair) (.ref f_InvalidMap) = some false)
    (sb_InvalidPair_InvalidPair : PySem.W.subIn K (.ref f_InvalidPair) (.ref f_InvalidPair) = some true)
    (sb_InvalidPair_InvalidPrefix : PySem.W.subIn K (.ref f_InvalidPair) (.ref f_InvalidPrefix) = some false)
    (sb_InvalidPair_RouteError : PySem.W.subIn K (.ref f_InvalidPair) (.ref f_RouteError) = some true)
    (sb_InvalidPrefix_InvalidAddress : PySem.W.subIn K (.ref f_InvalidPrefix) (.ref f_InvalidAddress) = some false)
    (sb_InvalidPrefix_InvalidMap : PySem.W.subIn K (.ref f_InvalidPrefix) (.ref f_InvalidMap) = some false)
    (sb_InvalidPrefix_InvalidPair : PySem.W.subIn K (.ref f_InvalidPrefix) (.ref f_InvalidPair) = some false)
    (sb_InvalidPrefix_InvalidPrefix : PySem.W.subIn K (.ref f_InvalidPrefix) (.ref f_InvalidPrefix) = some true)
    (sb_InvalidPrefix_RouteError : PySem.W.subIn K (.ref f_InvalidPrefix) (.ref f_RouteError) = some true)
    (sb_PrefixMap_InvalidAddress : PySem.W.subIn K (.ref f_PrefixMap) (.ref f_InvalidAddress) = some false)
    (sb_PrefixMap_InvalidMap : PySem.W.subIn K (.ref f_PrefixMap) (.ref f_InvalidMap) = some false)
    (sb_PrefixMap_InvalidPair : PySem.W.subIn K (.ref f_PrefixMap) (.ref f_InvalidPair) = some false)
    (sb_PrefixMap_InvalidPrefix : PySem.W.subIn K (.ref f_PrefixMap) (.ref f_InvalidPrefix) = some false)
    (sb_PrefixMap_PrefixMap : PySem.W.subIn K (.ref f_PrefixMap) (.ref f_PrefixMap) = some true)
    (sb_Table_InvalidAddress : PySem.W.subIn K (.ref f_Table) (.ref f_InvalidAddress) = some false)
    (sb_Table_InvalidMap : PySem.W.subIn K (.ref f_Table) (.ref f_InvalidMap) = some false)
    (sb_Table_InvalidPair : PySem.W.subIn K (.ref f_Table) (.ref f_InvalidPair) = some false)
    (sb_Table_InvalidPrefix : PySem.W.subIn K (.ref f_Table) (.ref f_InvalidPrefix) = some false)
    (sb_Table_PrefixMap : PySem.W.subIn K (.ref f_Table) (.ref f_PrefixMap) = some true)
    (xi_InvalidMap : PySem.W.isClsIn K f_InvalidMap = true) (xg_InvalidMap : PySem.W.findIn K (.ref f_InvalidMap) "__getattribute__" = some (some (.builtin "BaseException.__getattribute__"))) (xt_InvalidMap : PySem.W.findIn K (.ref f_InvalidMap) "__getattr__" = some none) (xs_InvalidMap : PySem.W.subIn K (.ref f_InvalidMap) (.type "BaseException") = some true)
    (xa_InvalidMap : PySem.W.findIn K (.ref f_InvalidMap) "__class__" = some (some (.builtin "object.__class__"))) (xn_InvalidMap : PySem.W.specialIn K (.builtin "object.__class__") "__get__" = some (some (.builtin "getset_descriptor.__get__"))) (xk_InvalidMap : PySem.W.takesIn K (.builtin "object.__class__") = some true) (xm_InvalidMap : PySem.W.mroIn K f_InvalidMap (.type "object") = some true)
    (xi_InvalidPair : PySem.W.isClsIn K f_InvalidPair = true) (xg_InvalidPair : PySem.W.findIn K (.ref f_InvalidPair) "__getattribute__" = some (some (.builtin "BaseException.__getattribute__"))) (xt_InvalidPair : PySem.W.findIn K (.ref f_InvalidPair) "__getattr__" = some none) (xs_InvalidPair : PySem.W.subIn K (.ref f_InvalidPair) (.type "BaseException") = some true)
    (xa_InvalidPair : PySem.W.findIn K (.ref f_InvalidPair) "__class__" = some (some (.builtin "object.__class__"))) (xn_InvalidPair : PySem.W.specialIn K (.builtin "object.__class__") "__get__" = some (some (.builtin "getset_descriptor.__get__"))) (xk_InvalidPair : PySem.W.takesIn K (.builtin "object.__class__") = some true) (xm_InvalidPair : PySem.W.mroIn K f_InvalidPair (.type "object") = some true)
    (xi_InvalidPrefix : PySem.W.isClsIn K f_InvalidPrefix = true) (xg_InvalidPrefix : PySem.W.findIn K (.ref f_InvalidPrefix) "__getattribute__" = some (some (.builtin "BaseException.__getattribute__"))) (xt_InvalidPrefix : PySem.W.findIn K (.ref f_InvalidPrefix) "__getattr__" = some none) (xs_InvalidPrefix : PySem.W.subIn K (.ref f_InvalidPrefix) (.type "BaseException") = some true)
    (xa_InvalidPrefix : PySem.W.findIn K (.ref f_InvalidPrefix) "__class__" = some (some (.builtin "object.__class__"))) (xn_InvalidPrefix : PySem.W.specialIn K (.builtin "object.__class__") "__get__" = some (some (.builtin "getset_descriptor.__get__"))) (xk_InvalidPrefix : PySem.W.takesIn K (.builtin "object.__class__") = some true) (xm_InvalidPrefix : PySem.W.mroIn K f_InvalidPrefix (.type "object") = some true)
    (x_InvalidMap : PySem.W.excIn K f_InvalidMap [.type "ValueError", .type "Exception", .type "BaseException", .type "object"] "ValueError.__new__" = true) (kx_InvalidMap : PySem.W.keepIn K (.ref f_InvalidMap) = true) (bx_InvalidMap : PySem.W.subIn K (.ref f_InvalidMap) (.type "BaseException") = some true) (tx_InvalidMap : PySem.W.typeIn K (.ref f_InvalidMap) = some (.type "type"))
    (x_InvalidPair : PySem.W.excIn K f_InvalidPair [.type "ValueError", .type "Exception", .type "BaseException", .type "object"] "ValueError.__new__" = true) (kx_InvalidPair : PySem.W.keepIn K (.ref f_InvalidPair) = true) (bx_InvalidPair : PySem.W.subIn K (.ref f_InvalidPair) (.type "BaseException") = some true) (tx_InvalidPair : PySem.W.typeIn K (.ref f_InvalidPair) = some (.type "type"))
    (x_InvalidPrefix : PySem.W.excIn K f_InvalidPrefix [.type "ValueError", .type "Exception", .type "BaseException", .type "object"] "ValueError.__new__" = true) (kx_InvalidPrefix : PySem.W.keepIn K (.ref f_InvalidPrefix) = true) (bx_InvalidPrefix : PySem.W.subIn K (.ref f_InvalidPrefix) (.type "BaseException") = some true) (tx_InvalidPrefix : PySem.W.typeIn K (.ref f_InvalidPrefix) = some (.type "type"))
    (kc_InvalidAddress : PySem.W.keepIn K (.ref f_InvalidAddress) = true)
    (kc_InvalidMap : PySem.W.keepIn K (.ref f_InvalidMap) = true)
    (kc_InvalidPair : PySem.W.keepIn K (.ref f_InvalidPair) = true)
    (kc_InvalidPrefix : PySem.W.keepIn K (.ref f_InvalidPrefix) = true)
    (kc_PrefixMap : PySem.W.keepIn K (.ref f_PrefixMap) = true)
    (kc_RouteError : PySem.W.keepIn K (.ref f_RouteError) = true)
    (kc_Table : PySem.W.keepIn K (.ref f_Table) = true)
    (z_all : PySem.W.nsIn K mainGlobals "all" = some none)
    (z_bool : PySem.W.nsIn K mainGlobals "bool" = some none)
    (z_dict : PySem.W.nsIn K mainGlobals "dict" = some none)
    (z_int : PySem.W.nsIn K mainGlobals "int" = some none)
    (z_isinstance : PySem.W.nsIn K mainGlobals "isinstance" = some none)
    (z_len : PySem.W.nsIn K mainGlobals "len" = some none)
    (z_list : PySem.W.nsIn K mainGlobals "list" = some none)
    (z_min : PySem.W.nsIn K mainGlobals "min" = some none)
    (z_range : PySem.W.nsIn K mainGlobals "range" = some none)
    (z_repr : PySem.W.nsIn K mainGlobals "repr" = some none)
    (z_sorted : PySem.W.nsIn K mainGlobals "sorted" = some none)
    (z_str : PySem.W.nsIn K mainGlobals "str" = some none)
    {t_LETTERS : Tok} (g_LETTERS : PySem.W.nsIn K mainGlobals "LETTERS" = some (some (.str "abcdefghijklmnopqrstuvwxyz" t_LETTERS)))
    {t_MAX_TARGET : Tok} (g_MAX_TARGET : PySem.W.nsIn K mainGlobals "MAX_TARGET" = some (some (.int 8 t_MAX_TARGET)))
    {t_MAX_WIDTH : Tok} (g_MAX_WIDTH : PySem.W.nsIn K mainGlobals "MAX_WIDTH" = some (some (.int 32 t_MAX_WIDTH))) :
    ∃ fd : FuncData, (∀ (s : Shared) (v : Value), BindsTo s fd ⟨[v], []⟩ [("script", v)]) ∧ ∀ base : Heap, K.In base → base.Ns mainGlobals mg → FnG l.prog w K mg base 9 fa fd ["script"] (spLaw K) := by
  have e := hfa.symm.trans (PySem.W.mg_of X G a_law)
  cases e
  have A_InvalidAddress : cA K "InvalidAddress" = f_InvalidAddress := cA_of a_InvalidAddress
  have A_InvalidMap : cA K "InvalidMap" = f_InvalidMap := cA_of a_InvalidMap
  have A_InvalidPair : cA K "InvalidPair" = f_InvalidPair := cA_of a_InvalidPair
  have A_InvalidPrefix : cA K "InvalidPrefix" = f_InvalidPrefix := cA_of a_InvalidPrefix
  have A_PrefixMap : cA K "PrefixMap" = f_PrefixMap := cA_of a_PrefixMap
  have A_RouteError : cA K "RouteError" = f_RouteError := cA_of a_RouteError
  have A_Table : cA K "Table" = f_Table := cA_of a_Table
  have M_PrefixMap_kept_value : cM K "PrefixMap" "kept_value" = f_PrefixMap_kept_value := cM_of A_PrefixMap a_PrefixMap_kept_value
  have M_PrefixMap___len__ : cM K "PrefixMap" "__len__" = f_PrefixMap___len__ := cM_of A_PrefixMap a_PrefixMap___len__
  have M_Table_is_target : cM K "Table" "is_target" = p_Table_is_target := cM_of A_Table a_Table_is_target
  have S_Table_is_target : cS K "Table" "is_target" = f_Table_is_target := cS_of A_Table a_Table_is_target r_Table_is_target
  have M_Table_is_value : cM K "Table" "is_value" = f_Table_is_value := cM_of A_Table a_Table_is_value
  have M_PrefixMap_is_value : cM K "PrefixMap" "is_value" = f_PrefixMap_is_value := cM_of A_PrefixMap a_PrefixMap_is_value
  have M_PrefixMap___init__ : cM K "PrefixMap" "__init__" = f_PrefixMap___init__ := cM_of A_PrefixMap a_PrefixMap___init__
  have M_PrefixMap_is_same : cM K "PrefixMap" "is_same" = f_PrefixMap_is_same := cM_of A_PrefixMap a_PrefixMap_is_same
  have M_Table_sort_of_map : cM K "Table" "sort_of_map" = f_Table_sort_of_map := cM_of A_Table a_Table_sort_of_map
  have M_PrefixMap_sort_of_map : cM K "PrefixMap" "sort_of_map" = f_PrefixMap_sort_of_map := cM_of A_PrefixMap a_PrefixMap_sort_of_map
  have M_PrefixMap___eq__ : cM K "PrefixMap" "__eq__" = f_PrefixMap___eq__ := cM_of A_PrefixMap a_PrefixMap___eq__
  have M_PrefixMap_width : cM K "PrefixMap" "width" = p_PrefixMap_width := cM_of A_PrefixMap a_PrefixMap_width
  have G_PrefixMap_width : cG K "PrefixMap" "width" = f_PrefixMap_width := cG_of A_PrefixMap a_PrefixMap_width r_PrefixMap_width
  have M_PrefixMap_rows : cM K "PrefixMap" "rows" = p_PrefixMap_rows := cM_of A_PrefixMap a_PrefixMap_rows
  have G_PrefixMap_rows : cG K "PrefixMap" "rows" = f_PrefixMap_rows := cG_of A_PrefixMap a_PrefixMap_rows r_PrefixMap_rows
  have M_PrefixMap_longest : cM K "PrefixMap" "longest" = f_PrefixMap_longest := cM_of A_PrefixMap a_PrefixMap_longest
  have M_Table_target_of : cM K "Table" "target_of" = f_Table_target_of := cM_of A_Table a_Table_target_of
  have T : Txt K mg := ⟨PySem.W.mg_none_of X G z_all,
    PySem.W.mg_none_of X G z_bool,
    PySem.W.mg_none_of X G z_dict,
    PySem.W.mg_none_of X G z_int,
    PySem.W.mg_none_of X G z_isinstance,
    PySem.W.mg_none_of X G z_len,
    PySem.W.mg_none_of X G z_list,
    PySem.W.mg_none_of X G z_min,
    PySem.W.mg_none_of X G z_range,
    PySem.W.mg_none_of X G z_repr,
    PySem.W.mg_none_of X G z_sorted,
    PySem.W.mg_none_of X G z_str,
    ⟨_, PySem.W.mg_of X G g_LETTERS, ⟨_, rfl⟩⟩,
    ⟨_, PySem.W.mg_of X G g_MAX_TARGET, ⟨_, rfl⟩⟩,
    ⟨_, PySem.W.mg_of X G g_MAX_WIDTH, ⟨_, rfl⟩⟩,
    (by rw [A_PrefixMap]; exact ⟨pg_PrefixMap, hd_PrefixMap, po_PrefixMap, sa_PrefixMap⟩),
    (by rw [A_Table]; exact ⟨pg_Table, hd_Table, po_Table, sa_Table⟩),
    (by rw [A_InvalidAddress]; exact PySem.W.mg_of X G a_InvalidAddress),
    (by rw [A_InvalidMap]; exact PySem.W.mg_of X G a_InvalidMap),
    (by rw [A_InvalidPair]; exact PySem.W.mg_of X G a_InvalidPair),
    (by rw [A_InvalidPrefix]; exact PySem.W.mg_of X G a_InvalidPrefix),
    (by rw [A_PrefixMap]; exact PySem.W.mg_of X G a_PrefixMap),
    (by rw [A_RouteError]; exact PySem.W.mg_of X G a_RouteError),
    (by rw [A_Table]; exact PySem.W.mg_of X G a_Table),
    (by rw [A_InvalidAddress]; exact ⟨ic_InvalidAddress, ty_InvalidAddress, ss_InvalidAddress⟩),
    (by rw [A_InvalidAddress]; exact ⟨nb0_InvalidAddress, nb1_InvalidAddress, nb2_InvalidAddress, nb3_InvalidAddress, nb4_InvalidAddress, nb5_InvalidAddress, nb6_InvalidAddress⟩),
    (by rw [A_InvalidMap]; exact ⟨ic_InvalidMap, ty_InvalidMap, ss_InvalidMap⟩),
    (by rw [A_InvalidMap]; exact ⟨nb0_InvalidMap, nb1_InvalidMap, nb2_InvalidMap, nb3_InvalidMap, nb4_InvalidMap, nb5_InvalidMap, nb6_InvalidMap⟩),
    (by rw [A_InvalidPair]; exact ⟨ic_InvalidPair, ty_InvalidPair, ss_InvalidPair⟩),
    (by rw [A_InvalidPair]; exact ⟨nb0_InvalidPair, nb1_InvalidPair, nb2_InvalidPair, nb3_InvalidPair, nb4_InvalidPair, nb5_InvalidPair, nb6_InvalidPair⟩),
    (by rw [A_InvalidPrefix]; exact ⟨ic_InvalidPrefix, ty_InvalidPrefix, ss_InvalidPrefix⟩),
    (by rw [A_InvalidPrefix]; exact ⟨nb0_InvalidPrefix, nb1_InvalidPrefix, nb2_InvalidPrefix, nb3_InvalidPrefix, nb4_InvalidPrefix, nb5_InvalidPrefix, nb6_InvalidPrefix⟩),
    (by rw [A_PrefixMap]; exact ⟨ic_PrefixMap, ty_PrefixMap, ss_PrefixMap⟩),
    (by rw [A_PrefixMap]; exact ⟨nb0_PrefixMap, nb1_PrefixMap, nb2_PrefixMap, nb3_PrefixMap, nb4_PrefixMap, nb5_PrefixMap, nb6_PrefixMap⟩),
    (by rw [A_RouteError]; exact ⟨ic_RouteError, ty_RouteError, ss_RouteError⟩),
    (by rw [A_RouteError]; exact ⟨nb0_RouteError, nb1_RouteError, nb2_RouteError, nb3_RouteError, nb4_RouteError, nb5_RouteError, nb6_RouteError⟩),
    (by rw [A_RouteError]; exact by_RouteError),
    (by rw [A_PrefixMap, M_PrefixMap___eq__]; exact ⟨a_PrefixMap___eq__, i_PrefixMap___eq__⟩),
    (by rw [A_PrefixMap]; exact en_PrefixMap),
    (by rw [A_PrefixMap]; exact eo_PrefixMap),
    (by rw [A_Table, M_PrefixMap___eq__]; exact ⟨a_Table___eq__, i_PrefixMap___eq__⟩),
    (by rw [A_Table]; exact en_Table),
    (by rw [A_Table]; exact eo_Table),
    (by rw [A_PrefixMap]; exact ⟨⟨pg_PrefixMap, hd_PrefixMap, po_PrefixMap, sa_PrefixMap⟩, ha_PrefixMap, hn_PrefixMap, htk_PrefixMap, hm_PrefixMap⟩),
    (by rw [A_Table]; exact ⟨⟨pg_Table, hd_Table, po_Table, sa_Table⟩, ha_Table, hn_Table, htk_Table, hm_Table⟩),
    (by rw [A_PrefixMap, M_PrefixMap_is_same]; exact ⟨a_PrefixMap_is_same, i_PrefixMap_is_same, k_PrefixMap_is_same⟩),
    (by rw [A_PrefixMap, M_PrefixMap_is_value]; exact ⟨a_PrefixMap_is_value, i_PrefixMap_is_value, k_PrefixMap_is_value⟩),
    (by rw [A_PrefixMap, M_PrefixMap_kept_value]; exact ⟨a_PrefixMap_kept_value, i_PrefixMap_kept_value, k_PrefixMap_kept_value⟩),
    (by rw [A_PrefixMap, M_PrefixMap_longest]; exact ⟨a_PrefixMap_longest, i_PrefixMap_longest, k_PrefixMap_longest⟩),
    (by rw [A_PrefixMap, M_PrefixMap_sort_of_map]; exact ⟨a_PrefixMap_sort_of_map, i_PrefixMap_sort_of_map, k_PrefixMap_sort_of_map⟩),
    (by rw [A_Table, M_PrefixMap_is_same]; exact ⟨a_Table_is_same, i_PrefixMap_is_same, k_PrefixMap_is_same⟩),
    (by rw [A_Table, M_Table_is_value]; exact ⟨a_Table_is_value, i_Table_is_value, k_Table_is_value⟩),
    (by rw [A_Table, M_PrefixMap_kept_value]; exact ⟨a_Table_kept_value, i_PrefixMap_kept_value, k_PrefixMap_kept_value⟩),
    (by rw [A_Table, M_PrefixMap_longest]; exact ⟨a_Table_longest, i_PrefixMap_longest, k_PrefixMap_longest⟩),
    (by rw [A_Table, M_Table_sort_of_map]; exact ⟨a_Table_sort_of_map, i_Table_sort_of_map, k_Table_sort_of_map⟩),
    (by rw [A_Table, M_Table_target_of]; exact ⟨a_Table_target_of, i_Table_target_of, k_Table_target_of⟩),
    (by rw [A_Table, M_PrefixMap___init__]; exact ⟨mk_Table, a_Table___init__, i_PrefixMap___init__, kc_Table⟩),
    (by rw [A_PrefixMap]; exact na_PrefixMap_bits),
    (by rw [A_PrefixMap]; exact na_PrefixMap_held),
    (by rw [A_Table]; exact na_Table_bits),
    (by rw [A_Table]; exact na_Table_held),
    (by rw [A_PrefixMap]; exact nf_PrefixMap_PrefixMap),
    (by rw [A_Table, A_PrefixMap]; exact nf_Table_PrefixMap),
    (by rw [A_Table]; exact nf_Table_Table),
    (by rw [A_PrefixMap, M_PrefixMap_rows, G_PrefixMap_rows]; exact ⟨a_PrefixMap_rows, g_PrefixMap_rows, t_PrefixMap_rows, ⟨_, r_PrefixMap_rows⟩⟩),
    (by rw [A_PrefixMap, M_PrefixMap_width, G_PrefixMap_width]; exact ⟨a_PrefixMap_width, g_PrefixMap_width, t_PrefixMap_width, ⟨_, r_PrefixMap_width⟩⟩),
    (by rw [A_Table, M_PrefixMap_rows, G_PrefixMap_rows]; exact ⟨a_Table_rows, g_PrefixMap_rows, t_PrefixMap_rows, ⟨_, r_PrefixMap_rows⟩⟩),
    (by rw [A_Table, M_PrefixMap_width, G_PrefixMap_width]; exact ⟨a_Table_width, g_PrefixMap_width, t_PrefixMap_width, ⟨_, r_PrefixMap_width⟩⟩),
    (by rw [A_InvalidMap, A_InvalidAddress]; exact sb_InvalidMap_InvalidAddress),
    (by rw [A_InvalidMap]; exact sb_InvalidMap_InvalidMap),
    (by rw [A_InvalidMap, A_InvalidPair]; exact sb_InvalidMap_InvalidPair),
    (by rw [A_InvalidMap, A_InvalidPrefix]; exact sb_InvalidMap_InvalidPrefix),
    (by rw [A_InvalidMap, A_RouteError]; exact sb_InvalidMap_RouteError),
    (by rw [A_InvalidPair, A_InvalidAddress]; exact sb_InvalidPair_InvalidAddress),
    (by rw [A_InvalidPair, A_InvalidMap]; exact sb_InvalidPair_InvalidMap),
    (by rw [A_InvalidPair]; exact sb_InvalidPair_InvalidPair),
    (by rw [A_InvalidPair, A_InvalidPrefix]; exact sb_InvalidPair_InvalidPrefix),
    (by rw [A_InvalidPair, A_RouteError]; exact sb_InvalidPair_RouteError),
    (by rw [A_InvalidPrefix, A_InvalidAddress]; exact sb_InvalidPrefix_InvalidAddress),
    (by rw [A_InvalidPrefix, A_InvalidMap]; exact sb_InvalidPrefix_InvalidMap),
    (by rw [A_InvalidPrefix, A_InvalidPair]; exact sb_InvalidPrefix_InvalidPair),
    (by rw [A_InvalidPrefix]; exact sb_InvalidPrefix_InvalidPrefix),
    (by rw [A_InvalidPrefix, A_RouteError]; exact sb_InvalidPrefix_RouteError),
    (by rw [A_PrefixMap, A_InvalidAddress]; exact sb_PrefixMap_InvalidAddress),
    (by rw [A_PrefixMap, A_InvalidMap]; exact sb_PrefixMap_InvalidMap),
    (by rw [A_PrefixMap, A_InvalidPair]; exact sb_PrefixMap_InvalidPair),
    (by rw [A_PrefixMap, A_InvalidPrefix]; exact sb_PrefixMap_InvalidPrefix),
    (by rw [A_PrefixMap]; exact sb_PrefixMap_PrefixMap),
    (by rw [A_Table, A_InvalidAddress]; exact sb_Table_InvalidAddress),
    (by rw [A_Table, A_InvalidMap]; exact sb_Table_InvalidMap),
    (by rw [A_Table, A_InvalidPair]; exact sb_Table_InvalidPair),
    (by rw [A_Table, A_InvalidPrefix]; exact sb_Table_InvalidPrefix),
    (by rw [A_Table, A_PrefixMap]; exact sb_Table_PrefixMap),
    (by rw [A_Table, M_Table_is_target, S_Table_is_target]; exact ⟨⟨.type "type", ⟨rd_Table_is_target, ga_Table_is_target⟩, sf_Table_is_target⟩, ⟨_, r_Table_is_target⟩, k_Table_is_target⟩),
    (by rw [A_InvalidMap]; exact ⟨xi_InvalidMap, xg_InvalidMap, xt_InvalidMap, xs_InvalidMap, xa_InvalidMap, xn_InvalidMap, xk_InvalidMap, xm_InvalidMap⟩),
    (by rw [A_InvalidPair]; exact ⟨xi_InvalidPair, xg_InvalidPair, xt_InvalidPair, xs_InvalidPair, xa_InvalidPair, xn_InvalidPair, xk_InvalidPair, xm_InvalidPair⟩),
    (by rw [A_InvalidPrefix]; exact ⟨xi_InvalidPrefix, xg_InvalidPrefix, xt_InvalidPrefix, xs_InvalidPrefix, xa_InvalidPrefix, xn_InvalidPrefix, xk_InvalidPrefix, xm_InvalidPrefix⟩),
    (⟨by rw [A_InvalidMap]; exact PySem.W.mg_of X G a_InvalidMap, by rw [A_InvalidMap]; exact kx_InvalidMap, ⟨_, _, _, _, PySem.F.excBase_ValueError, by rw [A_InvalidMap]; exact x_InvalidMap⟩, by rw [A_InvalidMap]; exact bx_InvalidMap, by rw [A_InvalidMap]; exact tx_InvalidMap⟩),
    (⟨by rw [A_InvalidPair]; exact PySem.W.mg_of X G a_InvalidPair, by rw [A_InvalidPair]; exact kx_InvalidPair, ⟨_, _, _, _, PySem.F.excBase_ValueError, by rw [A_InvalidPair]; exact x_InvalidPair⟩, by rw [A_InvalidPair]; exact bx_InvalidPair, by rw [A_InvalidPair]; exact tx_InvalidPair⟩),
    (⟨by rw [A_InvalidPrefix]; exact PySem.W.mg_of X G a_InvalidPrefix, by rw [A_InvalidPrefix]; exact kx_InvalidPrefix, ⟨_, _, _, _, PySem.F.excBase_ValueError, by rw [A_InvalidPrefix]; exact x_InvalidPrefix⟩, by rw [A_InvalidPrefix]; exact bx_InvalidPrefix, by rw [A_InvalidPrefix]; exact tx_InvalidPrefix⟩)⟩
  have h__law_pen : HF K mg "_law_pen" s__law_pen := ⟨_, _, fun_mk (st := s__law_pen) l__law_pen c__law_pen k__law_pen, PySem.W.mg_of X G a__law_pen⟩
  have h_PrefixMap_kept_value : HM K "kept_value" "PrefixMap.kept_value" s_PrefixMap_kept_value (cM K "PrefixMap" "kept_value") := by rw [M_PrefixMap_kept_value]; exact ⟨_, fun_mk (st := s_PrefixMap_kept_value) l_PrefixMap_kept_value c_PrefixMap_kept_value k_PrefixMap_kept_value⟩
  have h_is_integer : HF K mg "is_integer" s_is_integer := ⟨_, _, fun_mk (st := s_is_integer) l_is_integer c_is_integer k_is_integer, PySem.W.mg_of X G a_is_integer⟩
  have h_PrefixMap___len__ : HM K "__len__" "PrefixMap.__len__" s_PrefixMap___len__ (cM K "PrefixMap" "__len__") := by rw [M_PrefixMap___len__]; exact ⟨_, fun_mk (st := s_PrefixMap___len__) l_PrefixMap___len__ c_PrefixMap___len__ k_PrefixMap___len__⟩
  have h_is_prefix : HF K mg "is_prefix" s_is_prefix := ⟨_, _, fun_mk (st := s_is_prefix) l_is_prefix c_is_prefix k_is_prefix, PySem.W.mg_of X G a_is_prefix⟩
  have h_Table_is_target : HM K "is_target" "Table.is_target" s_Table_is_target (cS K "Table" "is_target") := by rw [S_Table_is_target]; exact ⟨_, fun_mk (st := s_Table_is_target) l_Table_is_target c_Table_is_target k_Table_is_target⟩
  have h_Table_is_value : HM K "is_value" "Table.is_value" s_Table_is_value (cM K "Table" "is_value") := by rw [M_Table_is_value]; exact ⟨_, fun_mk (st := s_Table_is_value) l_Table_is_value c_Table_is_value k_Table_is_value⟩
  have h_PrefixMap_is_value : HM K "is_value" "PrefixMap.is_value" s_PrefixMap_is_value (cM K "PrefixMap" "is_value") := by rw [M_PrefixMap_is_value]; exact ⟨_, fun_mk (st := s_PrefixMap_is_value) l_PrefixMap_is_value c_PrefixMap_is_value k_PrefixMap_is_value⟩
  have h_PrefixMap___init__ : HM K "__init__" "PrefixMap.__init__" s_PrefixMap___init__ (cM K "PrefixMap" "__init__") := by rw [M_PrefixMap___init__]; exact ⟨_, fun_mk (st := s_PrefixMap___init__) l_PrefixMap___init__ c_PrefixMap___init__ k_PrefixMap___init__⟩
  have h_PrefixMap_is_same : HM K "is_same" "PrefixMap.is_same" s_PrefixMap_is_same (cM K "PrefixMap" "is_same") := by rw [M_PrefixMap_is_same]; exact ⟨_, fun_mk (st := s_PrefixMap_is_same) l_PrefixMap_is_same c_PrefixMap_is_same k_PrefixMap_is_same⟩
  have h_Table_sort_of_map : HM K "sort_of_map" "Table.sort_of_map" s_Table_sort_of_map (cM K "Table" "sort_of_map") := by rw [M_Table_sort_of_map]; exact ⟨_, fun_mk (st := s_Table_sort_of_map) l_Table_sort_of_map c_Table_sort_of_map k_Table_sort_of_map⟩
  have h_PrefixMap_sort_of_map : HM K "sort_of_map" "PrefixMap.sort_of_map" s_PrefixMap_sort_of_map (cM K "PrefixMap" "sort_of_map") := by rw [M_PrefixMap_sort_of_map]; exact ⟨_, fun_mk (st := s_PrefixMap_sort_of_map) l_PrefixMap_sort_of_map c_PrefixMap_sort_of_map k_PrefixMap_sort_of_map⟩
  have h_PrefixMap___eq__ : HM K "__eq__" "PrefixMap.__eq__" s_PrefixMap___eq__ (cM K "PrefixMap" "__eq__") := by rw [M_PrefixMap___eq__]; exact ⟨_, fun_mk (st := s_PrefixMap___eq__) l_PrefixMap___eq__ c_PrefixMap___eq__ k_PrefixMap___eq__⟩
  have h__law_next : HF K mg "_law_next" s__law_next := ⟨_, _, fun_mk (st := s__law_next) l__law_next c__law_next k__law_next, PySem.W.mg_of X G a__law_next⟩
  have h__law_draw : HF K mg "_law_draw" s__law_draw := ⟨_, _, fun_mk (st := s__law_draw) l__law_draw c__law_draw k__law_draw, PySem.W.mg_of X G a__law_draw⟩
  have h__law_bits : HF K mg "_law_bits" s__law_bits := ⟨_, _, fun_mk (st := s__law_bits) l__law_bits c__law_bits k__law_bits, PySem.W.mg_of X G a__law_bits⟩
  have h__law_prefixes : HF K mg "_law_prefixes" s__law_prefixes := ⟨_, _, fun_mk (st := s__law_prefixes) l__law_prefixes c__law_prefixes k__law_prefixes, PySem.W.mg_of X G a__law_prefixes⟩
  have h__law_lines : HF K mg "_law_lines" s__law_lines := ⟨_, _, fun_mk (st := s__law_lines) l__law_lines c__law_lines k__law_lines, PySem.W.mg_of X G a__law_lines⟩
  have h_PrefixMap_width : HM K "width" "PrefixMap.width" s_PrefixMap_width (cG K "PrefixMap" "width") := by rw [G_PrefixMap_width]; exact ⟨_, fun_mk (st := s_PrefixMap_width) l_PrefixMap_width c_PrefixMap_width k_PrefixMap_width⟩
  have h_check_widths : HF K mg "check_widths" s_check_widths := ⟨_, _, fun_mk (st := s_check_widths) l_check_widths c_check_widths k_check_widths, PySem.W.mg_of X G a_check_widths⟩
  have h_leaves_of : HF K mg "leaves_of" s_leaves_of := ⟨_, _, fun_mk (st := s_leaves_of) l_leaves_of c_leaves_of k_leaves_of, PySem.W.mg_of X G a_leaves_of⟩
  have h_closed : HF K mg "closed" s_closed := ⟨_, _, fun_mk (st := s_closed) l_closed c_closed k_closed, PySem.W.mg_of X G a_closed⟩
  have h_PrefixMap_rows : HM K "rows" "PrefixMap.rows" s_PrefixMap_rows (cG K "PrefixMap" "rows") := by rw [G_PrefixMap_rows]; exact ⟨_, fun_mk (st := s_PrefixMap_rows) l_PrefixMap_rows c_PrefixMap_rows k_PrefixMap_rows⟩
  have h_common_leaves : HF K mg "common_leaves" s_common_leaves := ⟨_, _, fun_mk (st := s_common_leaves) l_common_leaves c_common_leaves k_common_leaves, PySem.W.mg_of X G a_common_leaves⟩
  have h_PrefixMap_longest : HM K "longest" "PrefixMap.longest" s_PrefixMap_longest (cM K "PrefixMap" "longest") := by rw [M_PrefixMap_longest]; exact ⟨_, fun_mk (st := s_PrefixMap_longest) l_PrefixMap_longest c_PrefixMap_longest k_PrefixMap_longest⟩
  have h_Table_target_of : HM K "target_of" "Table.target_of" s_Table_target_of (cM K "Table" "target_of") := by rw [M_Table_target_of]; exact ⟨_, fun_mk (st := s_Table_target_of) l_Table_target_of c_Table_target_of k_Table_target_of⟩
  have h_first_address : HF K mg "first_address" s_first_address := ⟨_, _, fun_mk (st := s_first_address) l_first_address c_first_address k_first_address, PySem.W.mg_of X G a_first_address⟩
  have h_first_difference : HF K mg "first_difference" s_first_difference := ⟨_, _, fun_mk (st := s_first_difference) l_first_difference c_first_difference k_first_difference, PySem.W.mg_of X G a_first_difference⟩
  have h_same_meaning : HF K mg "same_meaning" s_same_meaning := ⟨_, _, fun_mk (st := s_same_meaning) l_same_meaning c_same_meaning k_same_meaning, PySem.W.mg_of X G a_same_meaning⟩
  have h__law_outcome : HF K mg "_law_outcome" s__law_outcome := ⟨_, _, fun_mk (st := s__law_outcome) l__law_outcome c__law_outcome k__law_outcome, PySem.W.mg_of X G a__law_outcome⟩
  have F_law := fun_mk (st := s_law) l_law c_law k_law
  refine ⟨_, fun s v => .of_eq rfl, fun base _ _ => law_end (def_ok F_law sc_law fun W => ?_) fun ns hl => law_spec hl⟩
  have n__law_pen := fn__law_pen (P := l.prog) (wd := w) (base := base) T h__law_pen 
  have n_PrefixMap_kept_value := fn_PrefixMap_kept_value (P := l.prog) (wd := w) (base := base) T h_PrefixMap_kept_value 
  have n_is_integer := fn_is_integer (P := l.prog) (wd := w) (base := base) T h_is_integer 
  have n_PrefixMap___len__ := fn_PrefixMap___len__ (P := l.prog) (wd := w) (base := base) T h_PrefixMap___len__ 
  have n_is_prefix := fn_is_prefix (P := l.prog) (wd := w) (base := base) T h_is_prefix 
  have n_Table_is_target := fn_Table_is_target (P := l.prog) (wd := w) (base := base) T h_Table_is_target 
  have n_Table_is_value := fn_Table_is_value (P := l.prog) (wd := w) (base := base) T h_Table_is_value n_Table_is_target
  have n_PrefixMap_is_value := fn_PrefixMap_is_value (P := l.prog) (wd := w) (base := base) T h_PrefixMap_is_value 
  have n_PrefixMap___init__ := fn_PrefixMap___init__ (P := l.prog) (wd := w) (base := base) T h_PrefixMap___init__ n_is_integer n_is_prefix n_Table_is_value n_PrefixMap_is_value n_PrefixMap_kept_value
  have n_PrefixMap_is_same := fn_PrefixMap_is_same (P := l.prog) (wd := w) (base := base) T h_PrefixMap_is_same 
  have n_Table_sort_of_map := fn_Table_sort_of_map (P := l.prog) (wd := w) (base := base) T h_Table_sort_of_map 
  have n_PrefixMap_sort_of_map := fn_PrefixMap_sort_of_map (P := l.prog) (wd := w) (base := base) T h_PrefixMap_sort_of_map 
  have n_PrefixMap___eq__ := fn_PrefixMap___eq__ (P := l.prog) (wd := w) (base := base) T h_PrefixMap___eq__ n_Table_sort_of_map n_PrefixMap_sort_of_map n_PrefixMap_is_same
  have n__law_next := fn__law_next (P := l.prog) (wd := w) (base := base) T h__law_next 
  have n__law_draw := fn__law_draw (P := l.prog) (wd := w) (base := base) T h__law_draw n__law_next
  have n__law_bits := fn__law_bits (P := l.prog) (wd := w) (base := base) T h__law_bits n__law_draw
  have n__law_prefixes := fn__law_prefixes (P := l.prog) (wd := w) (base := base) T h__law_prefixes n__law_draw n__law_bits
  have n__law_lines := fn__law_lines (P := l.prog) (wd := w) (base := base) T h__law_lines n__law_prefixes n__law_draw
  have n_PrefixMap_width := fn_PrefixMap_width (P := l.prog) (wd := w) (base := base) T h_PrefixMap_width 
  have n_check_widths := fn_check_widths (P := l.prog) (wd := w) (base := base) T h_check_widths n_PrefixMap_width
  have n_leaves_of := fn_leaves_of (P := l.prog) (wd := w) (base := base) T h_leaves_of 
  have n_closed := fn_closed (P := l.prog) (wd := w) (base := base) T h_closed 
  have n_PrefixMap_rows := fn_PrefixMap_rows (P := l.prog) (wd := w) (base := base) T h_PrefixMap_rows 
  have n_common_leaves := fn_common_leaves (P := l.prog) (wd := w) (base := base) T h_common_leaves n_leaves_of n_closed n_PrefixMap_rows
  have n_PrefixMap_longest := fn_PrefixMap_longest (P := l.prog) (wd := w) (base := base) T h_PrefixMap_longest n_is_prefix
  have n_Table_target_of := fn_Table_target_of (P := l.prog) (wd := w) (base := base) T h_Table_target_of n_PrefixMap_longest
  have n_first_address := fn_first_address (P := l.prog) (wd := w) (base := base) T h_first_address 
  have n_first_difference := fn_first_difference (P := l.prog) (wd := w) (base := base) T h_first_difference n_check_widths n_common_leaves n_first_address n_Table_target_of n_PrefixMap_width
  have n_same_meaning := fn_same_meaning (P := l.prog) (wd := w) (base := base) T h_same_meaning n_first_difference
  have n__law_outcome := fn__law_outcome (P := l.prog) (wd := w) (base := base) T h__law_outcome n_first_difference n_same_meaning
  exact bd_law T n__law_pen n__law_draw n__law_lines n__law_outcome n_PrefixMap___init__ n_PrefixMap___eq__ W
end DL
open PySem PySem.W PyProof.Rows
set_option maxRecDepth 100000 in
set_option maxHeartbeats 0 in
theorem PySem.Challenge.cw_keptroutes_k22_pairs_of_other_widths_holds : PySem.Challenge.rw_keptroutes_k22_pairs_of_other_widths.Holds := by
  w_on; o_law; k_head; (case hw => w_witness2)
  k_fill
  refine DL.walk (l := PySem.Challenge.rw_keptroutes_k22_pairs_of_other_widths) (k := 9) (x := "script") rfl rfl (by decide +kernel) ⟨rfl, by decide, by decide⟩ (fun w h Y => PySem.W.kIn_of Y) ?F
  case F =>
    intro w mg fa h KX G hmg
    refine' DL.all_mk KX G hmg ?a_InvalidAddress ?a_InvalidMap ?a_InvalidPair ?a_InvalidPrefix ?a_PrefixMap ?pg_PrefixMap ?hd_PrefixMap ?po_PrefixMap ?sa_PrefixMap ?a_RouteError ?a_Table ?pg_Table ?hd_Table ?po_Table ?sa_Table ?a__law_pen ?l__law_pen ?c__law_pen ?k__law_pen ?a_PrefixMap_kept_value ?i_PrefixMap_kept_value ?l_PrefixMap_kept_value ?c_PrefixMap_kept_value ?k_PrefixMap_kept_value ?a_is_integer ?l_is_integer ?c_is_integer ?k_is_integer ?a_PrefixMap___len__ ?i_PrefixMap___len__ ?l_PrefixMap___len__ ?c_PrefixMap___len__ ?k_PrefixMap___len__ ?a_is_prefix ?l_is_prefix ?c_is_prefix ?k_is_prefix ?a_Table_is_target ?sf_Table_is_target ?rd_Table_is_target ?ga_Table_is_target ?r_Table_is_target ?l_Table_is_target ?c_Table_is_target ?k_Table_is_target ?a_Table_is_value ?i_Table_is_value ?l_Table_is_value ?c_Table_is_value ?k_Table_is_value ?a_PrefixMap_is_value ?i_PrefixMap_is_value ?l_PrefixMap_is_value ?c_PrefixMap_is_value ?k_PrefixMap_is_value ?a_PrefixMap___init__ ?i_PrefixMap___init__ ?l_PrefixMap___init__ ?c_PrefixMap___init__ ?k_PrefixMap___init__ ?a_PrefixMap_is_same ?i_PrefixMap_is_same ?l_PrefixMap_is_same ?c_PrefixMap_is_same ?k_PrefixMap_is_same ?a_Table_sort_of_map ?i_Table_sort_of_map ?l_Table_sort_of_map ?c_Table_sort_of_map ?k_Table_sort_of_map ?a_PrefixMap_sort_of_map ?i_PrefixMap_sort_of_map ?l_PrefixMap_sort_of_map ?c_PrefixMap_sort_of_map ?k_PrefixMap_sort_of_map ?a_PrefixMap___eq__ ?i_PrefixMap___eq__ ?l_PrefixMap___eq__ ?c_PrefixMap___eq__ ?k_PrefixMap___eq__ ?a__law_next ?l__law_next ?c__law_next ?k__law_next ?a__law_draw ?l__law_draw ?c__law_draw ?k__law_draw ?a__law_bits ?l__law_bits ?c__law_bits ?k__law_bits ?a__law_prefixes ?l__law_prefixes ?c__law_prefixes ?k__law_prefixes ?a__law_lines ?l__law_lines ?c__law_lines ?k__law_lines ?a_PrefixMap_width ?g_PrefixMap_width ?t_PrefixMap_width ?r_PrefixMap_width ?l_PrefixMap_width ?c_PrefixMap_width ?k_PrefixMap_width ?a_check_widths ?l_check_widths ?c_check_widths ?k_check_widths ?a_leaves_of ?l_leaves_of ?c_leaves_of ?k_leaves_of ?a_closed ?l_closed ?c_closed ?k_closed ?a_PrefixMap_rows ?g_PrefixMap_rows ?t_PrefixMap_rows ?r_PrefixMap_rows ?l_PrefixMap_rows ?c_PrefixMap_rows ?k_PrefixMap_rows ?a_common_leaves ?l_common_leaves ?c_common_leaves ?k_common_leaves ?a_PrefixMap_longest ?i_PrefixMap_longest ?l_PrefixMap_longest ?c_PrefixMap_longest ?k_PrefixMap_longest ?a_Table_target_of ?i_Table_target_of ?l_Table_target_of ?c_Table_target_of ?k_Table_target_of ?a_first_address ?l_first_address ?c_first_address ?k_first_address ?a_first_difference ?l_first_difference ?c_first_difference ?k_first_difference ?a_same_meaning ?l_same_meaning ?c_same_meaning ?k_same_meaning ?a__law_outcome ?l__law_outcome ?c__law_outcome ?k__law_outcome ?a_law ?l_law ?c_law ?k_law ?ic_InvalidAddress ?ty_InvalidAddress ?ss_InvalidAddress ?nb0_InvalidAddress ?nb1_InvalidAddress ?nb2_InvalidAddress ?nb3_InvalidAddress ?nb4_InvalidAddress ?nb5_InvalidAddress ?nb6_InvalidAddress ?ic_InvalidMap ?ty_InvalidMap ?ss_InvalidMap ?nb0_InvalidMap ?nb1_InvalidMap ?nb2_InvalidMap ?nb3_InvalidMap ?nb4_InvalidMap ?nb5_InvalidMap ?nb6_InvalidMap ?ic_InvalidPair ?ty_InvalidPair ?ss_InvalidPair ?nb0_InvalidPair ?nb1_InvalidPair ?nb2_InvalidPair ?nb3_InvalidPair ?nb4_InvalidPair ?nb5_InvalidPair ?nb6_InvalidPair ?ic_InvalidPrefix ?ty_InvalidPrefix ?ss_InvalidPrefix ?nb0_InvalidPrefix ?nb1_InvalidPrefix ?nb2_InvalidPrefix ?nb3_InvalidPrefix ?nb4_InvalidPrefix ?nb5_InvalidPrefix ?nb6_InvalidPrefix ?ic_PrefixMap ?ty_PrefixMap ?ss_PrefixMap ?nb0_PrefixMap ?nb1_PrefixMap ?nb2_PrefixMap ?nb3_PrefixMap ?nb4_PrefixMap ?nb5_PrefixMap ?nb6_PrefixMap ?ic_RouteError ?ty_RouteError ?ss_RouteError ?nb0_RouteError ?nb1_RouteError ?nb2_RouteError ?nb3_RouteError ?nb4_RouteError ?nb5_RouteError ?nb6_RouteError ?by_RouteError ?en_PrefixMap ?eo_PrefixMap ?a_Table___eq__ ?en_Table ?eo_Table ?ha_PrefixMap ?hn_PrefixMap ?htk_PrefixMap ?hm_PrefixMap ?ha_Table ?hn_Table ?htk_Table ?hm_Table ?a_Table_is_same ?a_Table_kept_value ?a_Table_longest ?a_Table___init__ ?mk_Table ?na_PrefixMap_bits ?na_PrefixMap_held ?na_Table_bits ?na_Table_held ?nf_PrefixMap_PrefixMap ?nf_Table_PrefixMap ?nf_Table_Table ?a_Table_rows ?a_Table_width ?sb_InvalidMap_InvalidAddress ?sb_InvalidMap_InvalidMap ?sb_InvalidMap_InvalidPair ?sb_InvalidMap_InvalidPrefix ?sb_InvalidMap_RouteError ?sb_InvalidPair_InvalidAddress ?sb_InvalidPair_InvalidMap ?sb_InvalidPair_InvalidPair ?sb_InvalidPair_InvalidPrefix ?sb_InvalidPair_RouteError ?sb_InvalidPrefix_InvalidAddress ?sb_InvalidPrefix_InvalidMap ?sb_InvalidPrefix_InvalidPair ?sb_InvalidPrefix_InvalidPrefix ?sb_InvalidPrefix_RouteError ?sb_PrefixMap_InvalidAddress ?sb_PrefixMap_InvalidMap ?sb_PrefixMap_InvalidPair ?sb_PrefixMap_InvalidPrefix ?sb_PrefixMap_PrefixMap ?sb_Table_InvalidAddress ?sb_Table_InvalidMap ?sb_Table_InvalidPair ?sb_Table_InvalidPrefix ?sb_Table_PrefixMap ?xi_InvalidMap ?xg_InvalidMap ?xt_InvalidMap ?xs_InvalidMap ?xa_InvalidMap ?xn_InvalidMap ?xk_InvalidMap ?xm_InvalidMap ?xi_InvalidPair ?xg_InvalidPair ?xt_InvalidPair ?xs_InvalidPair ?xa_InvalidPair ?xn_InvalidPair ?xk_InvalidPair ?xm_InvalidPair ?xi_InvalidPrefix ?xg_InvalidPrefix ?xt_InvalidPrefix ?xs_InvalidPrefix ?xa_InvalidPrefix ?xn_InvalidPrefix ?xk_InvalidPrefix ?xm_InvalidPrefix ?x_InvalidMap ?kx_InvalidMap ?bx_InvalidMap ?tx_InvalidMap ?x_InvalidPair ?kx_InvalidPair ?bx_InvalidPair ?tx_InvalidPair ?x_InvalidPrefix ?kx_InvalidPrefix ?bx_InvalidPrefix ?tx_InvalidPrefix ?kc_InvalidAddress ?kc_InvalidMap ?kc_InvalidPair ?kc_InvalidPrefix ?kc_PrefixMap ?kc_RouteError ?kc_Table ?z_all ?z_bool ?z_dict ?z_int ?z_isinstance ?z_len ?z_list ?z_min ?z_range ?z_repr ?z_sorted ?z_str ?g_LETTERS ?g_MAX_TARGET ?g_MAX_WIDTH
    (case a_InvalidAddress => k_is); (case a_InvalidMap => k_is); (case a_InvalidPair => k_is); (case a_InvalidPrefix => k_is)
    (case a_PrefixMap => k_is); (case pg_PrefixMap => k_is); (case hd_PrefixMap => k_is); (case po_PrefixMap => k_is)
    (case sa_PrefixMap => k_is); (case a_RouteError => k_is); (case a_Table => k_is); (case pg_Table => k_is)
    (case hd_Table => k_is); (case po_Table => k_is); (case sa_Table => k_is); (case a__law_pen => k_is)
    (case l__law_pen => k_is); (case c__law_pen => k_is); (case k__law_pen => k_is); (case a_PrefixMap_kept_value => k_is)
    (case i_PrefixMap_kept_value => k_is); (case l_PrefixMap_kept_value => k_is); (case c_PrefixMap_kept_value => k_is); (case k_PrefixMap_kept_value => k_is)
    (case a_is_integer => k_is); (case l_is_integer => k_is); (case c_is_integer => k_is); (case k_is_integer => k_is)
    (case a_PrefixMap___len__ => k_is); (case i_PrefixMap___len__ => k_is); (case l_PrefixMap___len__ => k_is); (case c_PrefixMap___len__ => k_is)
    (case k_PrefixMap___len__ => k_is); (case a_is_prefix => k_is); (case l_is_prefix => k_is); (case c_is_prefix => k_is)
    (case k_is_prefix => k_is); (case a_Table_is_target => k_is); (case sf_Table_is_target => k_is); (case rd_Table_is_target => k_is)
    (case ga_Table_is_target => k_is); (case r_Table_is_target => k_is); (case l_Table_is_target => k_is); (case c_Table_is_target => k_is)
    (case k_Table_is_target => k_is); (case a_Table_is_value => k_is); (case i_Table_is_value => k_is); (case l_Table_is_value => k_is)
    (case c_Table_is_value => k_is); (case k_Table_is_value => k_is); (case a_PrefixMap_is_value => k_is); (case i_PrefixMap_is_value => k_is)
    (case l_PrefixMap_is_value => k_is); (case c_PrefixMap_is_value => k_is); (case k_PrefixMap_is_value => k_is); (case a_PrefixMap___init__ => k_is)
    (case i_PrefixMap___init__ => k_is); (case l_PrefixMap___init__ => k_is); (case c_PrefixMap___init__ => k_is); (case k_PrefixMap___init__ => k_is)
    (case a_PrefixMap_is_same => k_is); (case i_PrefixMap_is_same => k_is); (case l_PrefixMap_is_same => k_is); (case c_PrefixMap_is_same => k_is)
    (case k_PrefixMap_is_same => k_is); (case a_Table_sort_of_map => k_is); (case i_Table_sort_of_map => k_is); (case l_Table_sort_of_map => k_is)
    (case c_Table_sort_of_map => k_is); (case k_Table_sort_of_map => k_is); (case a_PrefixMap_sort_of_map => k_is); (case i_PrefixMap_sort_of_map => k_is)
    (case l_PrefixMap_sort_of_map => k_is); (case c_PrefixMap_sort_of_map => k_is); (case k_PrefixMap_sort_of_map => k_is); (case a_PrefixMap___eq__ => k_is)
    (case i_PrefixMap___eq__ => k_is); (case l_PrefixMap___eq__ => k_is); (case c_PrefixMap___eq__ => k_is); (case k_PrefixMap___eq__ => k_is)
    (case a__law_next => k_is); (case l__law_next => k_is); (case c__law_next => k_is); (case k__law_next => k_is)
    (case a__law_draw => k_is); (case l__law_draw => k_is); (case c__law_draw => k_is); (case k__law_draw => k_is)
    (case a__law_bits => k_is); (case l__law_bits => k_is); (case c__law_bits => k_is); (case k__law_bits => k_is)
    (case a__law_prefixes => k_is); (case l__law_prefixes => k_is); (case c__law_prefixes => k_is); (case k__law_prefixes => k_is)
    (case a__law_lines => k_is); (case l__law_lines => k_is); (case c__law_lines => k_is); (case k__law_lines => k_is)
    (case a_PrefixMap_width => k_is); (case g_PrefixMap_width => k_is); (case t_PrefixMap_width => k_is); (case r_PrefixMap_width => k_is)
    (case l_PrefixMap_width => k_is); (case c_PrefixMap_width => k_is); (case k_PrefixMap_width => k_is); (case a_check_widths => k_is)
    (case l_check_widths => k_is); (case c_check_widths => k_is); (case k_check_widths => k_is); (case a_leaves_of => k_is)
    (case l_leaves_of => k_is); (case c_leaves_of => k_is); (case k_leaves_of => k_is); (case a_closed => k_is)
    (case l_closed => k_is); (case c_closed => k_is); (case k_closed => k_is); (case a_PrefixMap_rows => k_is)
    (case g_PrefixMap_rows => k_is); (case t_PrefixMap_rows => k_is); (case r_PrefixMap_rows => k_is); (case l_PrefixMap_rows => k_is)
    (case c_PrefixMap_rows => k_is); (case k_PrefixMap_rows => k_is); (case a_common_leaves => k_is); (case l_common_leaves => k_is)
    (case c_common_leaves => k_is); (case k_common_leaves => k_is); (case a_PrefixMap_longest => k_is); (case i_PrefixMap_longest => k_is)
    (case l_PrefixMap_longest => k_is); (case c_PrefixMap_longest => k_is); (case k_PrefixMap_longest => k_is); (case a_Table_target_of => k_is)
    (case i_Table_target_of => k_is); (case l_Table_target_of => k_is); (case c_Table_target_of => k_is); (case k_Table_target_of => k_is)
    (case a_first_address => k_is); (case l_first_address => k_is); (case c_first_address => k_is); (case k_first_address => k_is)
    (case a_first_difference => k_is); (case l_first_difference => k_is); (case c_first_difference => k_is); (case k_first_difference => k_is)
    (case a_same_meaning => k_is); (case l_same_meaning => k_is); (case c_same_meaning => k_is); (case k_same_meaning => k_is)
    (case a__law_outcome => k_is); (case l__law_outcome => k_is); (case c__law_outcome => k_is); (case k__law_outcome => k_is)
    (case a_law => k_is); (case l_law => k_is); (case c_law => k_is); (case k_law => k_is)
    (case ic_InvalidAddress => k_is); (case ty_InvalidAddress => k_is); (case ss_InvalidAddress => k_is); (case nb0_InvalidAddress => k_is)
    (case nb1_InvalidAddress => k_is); (case nb2_InvalidAddress => k_is); (case nb3_InvalidAddress => k_is); (case nb4_InvalidAddress => k_is)
    (case nb5_InvalidAddress => k_is); (case nb6_InvalidAddress => k_is); (case ic_InvalidMap => k_is); (case ty_InvalidMap => k_is)
    (case ss_InvalidMap => k_is); (case nb0_InvalidMap => k_is); (case nb1_InvalidMap => k_is); (case nb2_InvalidMap => k_is)
    (case nb3_InvalidMap => k_is); (case nb4_InvalidMap => k_is); (case nb5_InvalidMap => k_is); (case nb6_InvalidMap => k_is)
    (case ic_InvalidPair => k_is); (case ty_InvalidPair => k_is); (case ss_InvalidPair => k_is); (case nb0_InvalidPair => k_is)
    (case nb1_InvalidPair => k_is); (case nb2_InvalidPair => k_is); (case nb3_InvalidPair => k_is); (case nb4_InvalidPair => k_is)
    (case nb5_InvalidPair => k_is); (case nb6_InvalidPair => k_is); (case ic_InvalidPrefix => k_is); (case ty_InvalidPrefix => k_is)
    (case ss_InvalidPrefix => k_is); (case nb0_InvalidPrefix => k_is); (case nb1_InvalidPrefix => k_is); (case nb2_InvalidPrefix => k_is)
    (case nb3_InvalidPrefix => k_is); (case nb4_InvalidPrefix => k_is); (case nb5_InvalidPrefix => k_is); (case nb6_InvalidPrefix => k_is)
    (case ic_PrefixMap => k_is); (case ty_PrefixMap => k_is); (case ss_PrefixMap => k_is); (case nb0_PrefixMap => k_is)
    (case nb1_PrefixMap => k_is); (case nb2_PrefixMap => k_is); (case nb3_PrefixMap => k_is); (case nb4_PrefixMap => k_is)
    (case nb5_PrefixMap => k_is); (case nb6_PrefixMap => k_is); (case ic_RouteError => k_is); (case ty_RouteError => k_is)
    (case ss_RouteError => k_is); (case nb0_RouteError => k_is); (case nb1_RouteError => k_is); (case nb2_RouteError => k_is)
    (case nb3_RouteError => k_is); (case nb4_RouteError => k_is); (case nb5_RouteError => k_is); (case nb6_RouteError => k_is)
    (case by_RouteError => k_is); (case en_PrefixMap => k_is); (case eo_PrefixMap => k_is); (case a_Table___eq__ => k_is)
    (case en_Table => k_is); (case eo_Table => k_is); (case ha_PrefixMap => k_is); (case hn_PrefixMap => k_is)
    (case htk_PrefixMap => k_is); (case hm_PrefixMap => k_is); (case ha_Table => k_is); (case hn_Table => k_is)
    (case htk_Table => k_is); (case hm_Table => k_is); (case a_Table_is_same => k_is); (case a_Table_kept_value => k_is)
    (case a_Table_longest => k_is); (case a_Table___init__ => k_is); (case mk_Table => k_is); (case na_PrefixMap_bits => k_is)
    (case na_PrefixMap_held => k_is); (case na_Table_bits => k_is); (case na_Table_held => k_is); (case nf_PrefixMap_PrefixMap => k_is)
    (case nf_Table_PrefixMap => k_is); (case nf_Table_Table => k_is); (case a_Table_rows => k_is); (case a_Table_width => k_is)
    (case sb_InvalidMap_InvalidAddress => k_is); (case sb_InvalidMap_InvalidMap => k_is); (case sb_InvalidMap_InvalidPair => k_is); (case sb_InvalidMap_InvalidPrefix => k_is)
    (case sb_InvalidMap_RouteError => k_is); (case sb_InvalidPair_InvalidAddress => k_is); (case sb_InvalidPair_InvalidMap => k_is); (case sb_InvalidPair_InvalidPair => k_is)
    (case sb_InvalidPair_InvalidPrefix => k_is); (case sb_InvalidPair_RouteError => k_is); (case sb_InvalidPrefix_InvalidAddress => k_is); (case sb_InvalidPrefix_InvalidMap => k_is)
    (case sb_InvalidPrefix_InvalidPair => k_is); (case sb_InvalidPrefix_InvalidPrefix => k_is); (case sb_InvalidPrefix_RouteError => k_is); (case sb_PrefixMap_InvalidAddress => k_is)
    (case sb_PrefixMap_InvalidMap => k_is); (case sb_PrefixMap_InvalidPair => k_is); (case sb_PrefixMap_InvalidPrefix => k_is); (case sb_PrefixMap_PrefixMap => k_is)
    (case sb_Table_InvalidAddress => k_is); (case sb_Table_InvalidMap => k_is); (case sb_Table_InvalidPair => k_is); (case sb_Table_InvalidPrefix => k_is)
    (case sb_Table_PrefixMap => k_is); (case xi_InvalidMap => k_is); (case xg_InvalidMap => k_is); (case xt_InvalidMap => k_is)
    (case xs_InvalidMap => k_is); (case xa_InvalidMap => k_is); (case xn_InvalidMap => k_is); (case xk_InvalidMap => k_is)
    (case xm_InvalidMap => k_is); (case xi_InvalidPair => k_is); (case xg_InvalidPair => k_is); (case xt_InvalidPair => k_is)
    (case xs_InvalidPair => k_is); (case xa_InvalidPair => k_is); (case xn_InvalidPair => k_is); (case xk_InvalidPair => k_is)
    (case xm_InvalidPair => k_is); (case xi_InvalidPrefix => k_is); (case xg_InvalidPrefix => k_is); (case xt_InvalidPrefix => k_is)
    (case xs_InvalidPrefix => k_is); (case xa_InvalidPrefix => k_is); (case xn_InvalidPrefix => k_is); (case xk_InvalidPrefix => k_is)
    (case xm_InvalidPrefix => k_is); (case x_InvalidMap => k_exc); (case kx_InvalidMap => k_is); (case bx_InvalidMap => k_is)
    (case tx_InvalidMap => k_is); (case x_InvalidPair => k_exc); (case kx_InvalidPair => k_is); (case bx_InvalidPair => k_is)
    (case tx_InvalidPair => k_is); (case x_InvalidPrefix => k_exc); (case kx_InvalidPrefix => k_is); (case bx_InvalidPrefix => k_is)
    (case tx_InvalidPrefix => k_is); (case kc_InvalidAddress => k_is); (case kc_InvalidMap => k_is); (case kc_InvalidPair => k_is)
    (case kc_InvalidPrefix => k_is); (case kc_PrefixMap => k_is); (case kc_RouteError => k_is); (case kc_Table => k_is)
    (case z_all => k_is); (case z_bool => k_is); (case z_dict => k_is); (case z_int => k_is)
    (case z_isinstance => k_is); (case z_len => k_is); (case z_list => k_is); (case z_min => k_is)
    (case z_range => k_is); (case z_repr => k_is); (case z_sorted => k_is); (case z_str => k_is)
    (case g_LETTERS => k_is); (case g_MAX_TARGET => k_is); (case g_MAX_WIDTH => k_is)
#print axioms PySem.Challenge.cw_keptroutes_k22_pairs_of_other_widths_holds
