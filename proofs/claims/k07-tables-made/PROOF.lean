import PyProof.Rows.All
import Wide.All
import OpenK.AllK
import Wide.FinOn
import HandS.ForMost
import HandS.Exc
import HandS.ExcOwn
import HandS.TryOnly
import HandS.WordsExc
import HandS.Lambda
import HandS.RaiseOp
import HandS.IsInst
import HandS.Ends
import HandS.Set
import HandS.Strs
import KE.SortData
import PyProof.Rows.SetFrom
import KE.KDictCopyH
import HandS.More
import HandS.Property
import HandS.DictComp
import HandS.Style
import HandS.ClsMeth
import HandS.Defaults
import PyProof.DictUpdate
import HandS.Small
import HandS.Star
import HandS.SetBool
import HandS.ListItems
import KE.KDictList
import HandS.OwnEq
import PyProof.InstEq
import KE.KEqDict
import KE.DataEq
import HandS.Finally
import HandS.SetFor
import KE.SortKeyHeap
import HandS.SortKw
import HandS.ExcValue
import KE.KExcIs
import PyProof.WalkInts
import PyProof.EqKinds
import HandS.DictEq
import HandS.GenOver
import PyProof.GenRules
import PyProof.GenQ
import PyProof.ForAny
import HandS.GenList
import PyProof.P3Eq
import PySem.Challenge.RW_keptroutes_k07_tables_made
set_option Elab.async false
set_option linter.all false
set_option maxRecDepth 100000
set_option maxHeartbeats 4000000
/-! DL: data in place of heaps. First: a def's promise where it is known that nothing is being shown (repr's guards are empty). -/
namespace DL
open PySem L2 PySem.Spec PyProof.Rows
/-- what is known of the place: nothing is being shown, sys.modules stands -/
def Tp (A : Around) (base : Heap) : Prop := A.guards = some [] ∧ ∃ o, base.get? sysModules = some o
structure FnG (P : Program) (wd : World) (K : PySem.W.Frag) (mg : Str → Option Value) (base : Heap) (k : Nat) (f : Addr) (fd : FuncData) (ps : List Str) (sp : Sp) : Prop where
  len : ∀ vs H Q E, sp vs H Q E → vs.length = ps.length
  go : ∀ {A : Around} {outer : List PySem.Env} {s : Shared} {H : Hp} {args : Args} {us : List Value} {vs : List V} {Q : VK} {E : XK}, Room k A ∧ Tp A base → Env0 P wd K mg base A outer s H → BindsTo s fd args (ps.zip us) → Vals vs us → sp vs H Q E →
    codeAny (model P wd) A (.call (.ref f) args) (CR (L2.CX P wd) outer P wd H s Q E) s
section
variable {P : Program} {wd : World} {K : PySem.W.Frag} {mg : Str → Option Value} {base : Heap} {k : Nat} {f : Addr} {fd : FuncData} {ps : List Str} {sp : Sp}
theorem FnG.imp {sp' : Sp} (F : FnG P wd K mg base k f fd ps sp) (h : ∀ vs H Q E, sp' vs H Q E → sp vs H Q E) : FnG P wd K mg base k f fd ps sp' :=
  ⟨fun _ _ _ _ q => F.len _ _ _ _ (h _ _ _ _ q), fun hr he hb hv hs => F.go hr he hb hv (h _ _ _ _ hs)⟩
theorem FnG.mono {j : Nat} (F : FnG P wd K mg base j f fd ps sp) (h : j ≤ k) : FnG P wd K mg base k f fd ps sp := ⟨F.len, fun hr => F.go ⟨hr.1.mono h, hr.2⟩⟩
/-- a def of the text keeps its promise, by its body -/
theorem FnG.mk' {x qual : Str} {st : Stmt} {N : List Str} (F : Fun K x qual st f fd) (S : FnScope N ps (defScope st)) (len : ∀ vs H Q E, sp vs H Q E → vs.length = ps.length)
    (body : ∀ (cdv : Value) (A : Around) (outer : List PySem.Env) (s : Shared) (H : Hp) (vs : List V) (Q : VK) (E : XK), fd.code = cdv → Room k (A.deeper (envOfC qual (defScope st) s.heap.objs.size f cdv)) ∧ Tp (A.deeper (envOfC qual (defScope st) s.heap.objs.size f cdv)) base → sp vs H Q E →
      ∃ t, PSs (cxOf (L2.CX P wd) P wd K mg base N qual (defScope st) f cdv A outer s H E) (defBody st) t ∧ t { nx := fun _ H' => Q .non H', rt := Q } (L2.start N vs) H) : FnG P wd K mg base (k + 1) f fd ps sp := by
  obtain ⟨oc, od, kV, doc, pm, an, cdv, ct, osl, rfl, look, code⟩ := F.ex
  refine ⟨len, fun {A outer s H args us vs Q E} room env bound rel ask => ?_⟩
  have inK : K.In s.heap := env.mod.kin.keeps fun b o e => (env.bs b o e).1
  have noLim : s.heap.NoLimit := env.mod.nolimit.keeps fun b o e => (env.bs b o e).1
  have kinds : ∀ y ∈ ps.zip us, (defScope st).names.lookup y.1 = some .local ∨ ((defScope st).names.lookup y.1 = some .cell ∧ ((cellsFrom (s.heap.objs.size + 1) (defScope st).names []).lookup y.1).isSome = true) := by
    rintro ⟨n, v⟩ hy
    exact (S.par n (List.of_mem_zip hy).1).imp _root_.id fun q => ⟨q, PySem.W.cellsFrom_some _ _ _ (.inl q)⟩
  refine codeAny_call_function room.1.depth (inK _ _ look) rfl S.co S.gen rfl (PySem.W.codeRec_of inK code) (bound _ _ _ _ (wpAny_newFunctionEnv_cells S.kind kinds ?_))
  intro env' heq s1 inC
  subst heq
  refine ⟨noLim.keeps inC.toInCall.keep, codeAny_func ?_⟩
  obtain ⟨t, ht, hq⟩ := body cdv A outer s H vs Q E rfl ⟨room.1.deeper _, room.2⟩ ask
  have J0 := inv_start (CX := L2.CX P wd) (qual := qual) (E := E) S room.1.hd env (len _ _ _ _ ask) rel inC
  refine wpAny_mono (ht.run [] s1 _ H _ J0 hq) ?_ fun _ _ z => z
  intro fl s' hs
  match fl, hs with
  | .ret u, ⟨v, _, H', J, rv, q⟩ => exact ⟨v, H', J.os, J.bare, J.base, J.hok, rv, q⟩
  | .next, ⟨_, H', J, q⟩ => exact ⟨.non, H', J.os, J.bare, J.base, J.hok, rfl, q⟩
  | .brk, ⟨_, _, _, q⟩ => exact q.elim
  | .cont, ⟨_, _, _, q⟩ => exact q.elim
end
section
variable {X : Cx} {k : Nat} {f C : Addr} {fd : FuncData} {ps : List Str} {sp : Sp} {ds : List Value} {pins : List (Addr × Obj)} {σ : L2.St} {H : Hp} {s : Shared} {Q : VK} {us : List Value} {vs : List V} {E : L2.St → XK}
/-- a def is called with args, which bind its parameters to us -/
theorem call_g {Post : Result → Shared → Prop} (F : FnG X.prog X.w X.K X.mg X.base k f fd ps sp) (hr : Room k X.A ∧ Tp X.A X.base) (args : Args) (hb : BindsTo s fd args (ps.zip us)) (hx : PassesAt (L2.CX X.prog X.w) X σ (E σ)) (I : Inv X pins σ H s) (rel : Vals vs us) (h : sp vs H Q (E σ))
    (pe : ∀ e s', X.xe e s' → Post (.error e) s') (pr : ∀ u s', EP X pins σ Q u s' → Post (.ok (.ret u)) s') : codeAny (model X.prog X.w) X.A (.call (.ref f) args) Post s := by
  refine codeAny_mono (F.go hr I.env0 hb rel h) fun r s' hq => ?_
  match r, hq with
  | .error e, hq => exact pe e s' (hx pins H s e s' I hq)
  | .ok (.ret u), hq => exact pr u s' (I.after hq)
end
end DL
/-! A value of the program is a tree (D); mutable things are a slot's own (ow) or stand in a store. -/
namespace DL
open PySem L2

inductive D where
  | non | bl (b : Bool) | int (i : Int) | str (x : Str)
  | tup (xs : List D) | lst (xs : List D) | dct (kvs : List (Key × D)) | ins (C : String) (fs : List (Str × D))
  | ref (l : Nat) | scr (ns : List Int) | ty (n : String) | cls (n : String) | opq | tomb | exc (C : String) (fs : List (Str × D)) | tab (n : String) | fn (a c : Addr) (q : Str)

/-- where the module's class of that name stands -/
def cA (K : PySem.W.Frag) (n : String) : Addr := match PySem.W.nsIn K mainGlobals (Str.ofString n) with
  | some (some (.ref C)) => C
  | _ => 0
abbrev Store := List D
/-- the table of code objects of the module's def n; the name that its lambdas bear -/
def tA (K : PySem.W.Frag) (n : String) : Addr := match PySem.W.tabIn K (Str.ofString n) with
  | some (_, P) => P
  | none => 0
def qL (n : String) : Str := (Str.ofString n ++ ".<locals>.") ++ "<lambda>"
/-- what stands: the frozen part M, where the store's things lie, the store, the heap -/
structure Wd where
  M : Hp
  ρ : Nat → Addr
  st : Store
  H : Hp

/-- an exception that is kept: its class is known -/
def ExK (cls : Value) (d : Option Addr) (a : Addr) : HO := .ext fun h => ∃ (oe : Obj) (vs : Array Value), h.get? a = some oe ∧ Zc cls d oe ∧ oe.data = .fields vs
inductive Rep (K : PySem.W.Frag) (w : Wd) : V → D → Prop
  | non : Rep K w .non .non
  | bl {b : Bool} : Rep K w (.bl b) (.bl b)
  | int {i : Int} : Rep K w (.int i) (.int i)
  | str {x : Str} : Rep K w (.str x) (.str x)
  | tup {a : Addr} {vs : List V} {xs : List D} : SqT K w.M a vs → vs.length = xs.length → (∀ (i : Nat) (v : V) (x : D), vs[i]? = some v → xs[i]? = some x → Rep K w v x) → Rep K w (.ref a) (.tup xs)
  | lst {a : Addr} {vs : List V} {xs : List D} : w.M a = some (.lst vs) → vs.length = xs.length → (∀ (i : Nat) (v : V) (x : D), vs[i]? = some v → xs[i]? = some x → Rep K w v x) → Rep K w (.ref a) (.lst xs)
  | dct {a : Addr} {o : Obj} {vs : List (Key × V)} {xs : List (Key × D)} : w.M a = some (.frz o (.dK vs)) → vs.map (·.1) = xs.map (·.1) → (∀ (i : Nat) (v : Key × V) (x : Key × D), vs[i]? = some v → xs[i]? = some x → Rep K w v.2 x.2) → Rep K w (.ref a) (.dct xs)
  | ins {a dx : Addr} {C : String} {vs : List (Str × V)} {xs : List (Str × D)} : w.M a = some (.ins (cA K C) dx vs) → vs.map (·.1) = xs.map (·.1) → (∀ (i : Nat) (v : Str × V) (x : Str × D), vs[i]? = some v → xs[i]? = some x → Rep K w v.2 x.2) → Rep K w (.ref a) (.ins C xs)
  | ref {l : Nat} : l < w.st.length → Rep K w (.ref (w.ρ l)) (.ref l)
  | scr {a : Addr} {ns : List Int} : SqL K w.M a (ns.map V.int) → Rep K w (.ref a) (.scr ns)
  | ty {n : String} : Rep K w (.ty n) (.ty n)
  | cls {n : String} : Rep K w (.ref (cA K n)) (.cls n)
  | opq {a : Addr} : Rep K w (.ref a) .opq
  | fn {a c : Addr} {q : Str} : w.M c = some (LamX.CodeO c q) → Rep K w (.ref a) (.fn a c q)
  | exc0 {a : Addr} {C : String} : w.M a = some (ExK (.ref (cA K C)) none a) → Rep K w (.ref a) (.exc C [])
  | exc1 {a d : Addr} {C : String} {vs : List (Str × V)} {xs : List (Str × D)} : w.M a = some (ExK (.ref (cA K C)) (some d) a) → w.M d = some (.xd vs) → xs ≠ [] → vs.map (·.1) = xs.map (·.1) → (∀ (i : Nat) (v : Str × V) (x : Str × D), vs[i]? = some v → xs[i]? = some x → Rep K w v.2 x.2) → Rep K w (.ref a) (.exc C xs)

/-- lists, alike by place -/
def RepL (K : PySem.W.Frag) (w : Wd) (vs : List V) (xs : List D) : Prop := vs.length = xs.length ∧ ∀ (i : Nat) (v : V) (x : D), vs[i]? = some v → xs[i]? = some x → Rep K w v x
def RepP {κ : Type} (K : PySem.W.Frag) (w : Wd) (vs : List (κ × V)) (xs : List (κ × D)) : Prop := vs.map (·.1) = xs.map (·.1) ∧ ∀ (i : Nat) (v : κ × V) (x : κ × D), vs[i]? = some v → xs[i]? = some x → Rep K w v.2 x.2

/-- what a mutable thing holds -/
def RO (K : PySem.W.Frag) (w : Wd) (o : HO) (d : D) : Prop := match d with
  | .lst xs => ∃ vs, o = .lst vs ∧ RepL K w vs xs
  | .dct xs => ∃ vs, o = .dK vs ∧ RepP K w vs xs
  | .ins C xs => ∃ dx vs, o = .ins (cA K C) dx vs ∧ RepP K w vs xs
  | _ => False
/-- a table of code objects -/
def TabO (w : Wd) (o : HO) (n : String) : Prop := ∃ ps : Array Value, o = .tbl ps ∧ TriplesOk ps.toList ∧ ∀ (pos : Pos) (cv : Value), codeAmong pos ps.toList = some cv → ∃ c, cv = .ref c ∧ w.M c = some (LamX.CodeO c (qL n))
/-- what stands in the store -/
def RS (K : PySem.W.Frag) (w : Wd) (a : Addr) (o : HO) (d : D) : Prop := RO K w o d ∨ ∃ n, d = .tab n ∧ a = tA K n ∧ TabO w o n

structure Ok (K : PySem.W.Frag) (w : Wd) : Prop where
  ex : ∀ a o, w.M a = some o → w.H a = some o
  sto : ∀ (l : Nat) (d : D), w.st[l]? = some d → ∃ o, w.H (w.ρ l) = some o ∧ (d = .tomb ∨ (w.M (w.ρ l) = none ∧ RS K w (w.ρ l) o d))
  inj : ∀ l m, l < w.st.length → m < w.st.length → w.ρ l = w.ρ m → l = m

theorem Ok.live {K : PySem.W.Frag} {w : Wd} (k : Ok K w) {l : Nat} {d : D} (h : w.st[l]? = some d) (hd : d ≠ .tomb) (ht : ∀ n, d ≠ .tab n := by intro n z; cases z) : ∃ o, w.H (w.ρ l) = some o ∧ w.M (w.ρ l) = none ∧ RO K w o d := by
  obtain ⟨o, a, b⟩ := k.sto l d h
  rcases b with b | b
  · exact absurd b hd
  · rcases b with ⟨b1, b2 | ⟨n, e, _⟩⟩
    · exact ⟨o, a, b1, b2⟩
    · exact absurd e (ht n)
structure Evo (w w' : Wd) : Prop where
  mono : ∀ a o, w.M a = some o → w'.M a = some o
  rho : ∀ l, l < w.st.length → w'.ρ l = w.ρ l
  le : w.st.length ≤ w'.st.length
  newM : ∀ a o, w'.M a = some o → w.M a = none → w.H a = none
  newR : ∀ l, w.st.length ≤ l → l < w'.st.length → w.H (w'.ρ l) = none
  keep : ∀ a o, w.H a = some o → w.M a = none → (∀ l, l < w.st.length → w.ρ l ≠ a) → w'.H a = some o

/-- what is told of data goes on being so -/
structure Ext (w w' : Wd) : Prop where
  mono : ∀ a o, w.M a = some o → w'.M a = some o
  rho : ∀ l, l < w.st.length → w'.ρ l = w.ρ l
  le : w.st.length ≤ w'.st.length
theorem Evo.ext {w w' : Wd} (e : Evo w w') : Ext w w' := ⟨e.mono, e.rho, e.le⟩
theorem Ext.refl (w : Wd) : Ext w w := ⟨fun _ _ h => h, fun _ _ => rfl, Nat.le_refl _⟩
theorem Ext.trans {w w' w'' : Wd} (a : Ext w w') (b : Ext w' w'') : Ext w w'' := ⟨fun x o h => b.mono x o (a.mono x o h), fun l h => (b.rho l (Nat.lt_of_lt_of_le h a.le)).trans (a.rho l h), Nat.le_trans a.le b.le⟩

section
variable {K : PySem.W.Frag} {w w' w'' : Wd}
theorem Evo.refl (w : Wd) : Evo w w := ⟨fun _ _ h => h, fun _ _ => rfl, Nat.le_refl _, fun a o h n => absurd (h.symm.trans n) (fun q => nomatch q), fun l h1 h2 => absurd (Nat.lt_of_lt_of_le h2 h1) (Nat.lt_irrefl _), fun _ _ h _ _ => h⟩
theorem Evo.dom (e : Evo w w') (k : Ok K w') {a : Addr} {o : HO} (h : w.H a = some o) : ∃ o', w'.H a = some o' := by
  cases m : w.M a with
  | some u => exact ⟨_, k.ex a _ (e.mono a _ m)⟩
  | none =>
    by_cases z : ∃ l, l < w.st.length ∧ w.ρ l = a
    · obtain ⟨l, hl, rfl⟩ := z
      have hl' := Nat.lt_of_lt_of_le hl e.le
      obtain ⟨u, hu, _⟩ := k.sto l w'.st[l] (List.getElem?_eq_getElem hl')
      rw [e.rho l hl] at hu
      exact ⟨u, hu⟩
    · exact ⟨o, e.keep a o h m fun l hl q => z ⟨l, hl, q⟩⟩
theorem Evo.dom0 (e : Evo w w') (k : Ok K w') {a : Addr} (h : w'.H a = none) : w.H a = none := by
  cases q : w.H a with
  | none => rfl
  | some o => obtain ⟨u, hu⟩ := e.dom k q; rw [hu] at h; cases h
theorem Evo.trans (a : Evo w w') (k : Ok K w') (b : Evo w' w'') : Evo w w'' where
  mono := fun x o h => b.mono x o (a.mono x o h)
  rho := fun l h => (b.rho l (Nat.lt_of_lt_of_le h a.le)).trans (a.rho l h)
  le := Nat.le_trans a.le b.le
  newM := fun x o h n => by
    cases q : w'.M x with
    | some u => exact a.newM x u q n
    | none => exact a.dom0 k (b.newM x o h q)
  newR := fun l h1 h2 => by
    by_cases q : l < w'.st.length
    · rw [b.rho l q]; exact a.newR l h1 q
    · exact a.dom0 k (b.newR l (Nat.le_of_not_lt q) h2)
  keep := fun x o h n nl => by
    have h1 := a.keep x o h n nl
    refine b.keep x o h1 ?_ fun l hl q => ?_
    · cases q : w'.M x with
      | none => rfl
      | some u => have z := a.newM x u q n; rw [h] at z; cases z
    · by_cases z : l < w.st.length
      · exact nl l z ((a.rho l z).symm.trans q)
      · have y := a.newR l (Nat.le_of_not_lt z) hl
        rw [q, h] at y; cases y

theorem Ext.sqT (e : Ext w w') {a : Addr} {vs : List V} (h : SqT K w.M a vs) : SqT K w'.M a vs := by
  rcases h with (h | ⟨o, h⟩) | h
  · exact .inl (.inl (e.mono _ _ h))
  · exact .inl (.inr ⟨o, e.mono _ _ h⟩)
  · exact .inr h
theorem Ext.sqL (e : Ext w w') {a : Addr} {vs : List V} (h : SqL K w.M a vs) : SqL K w'.M a vs := by
  rcases h with (h | ⟨o, h⟩) | h
  · exact .inl (.inl (e.mono _ _ h))
  · exact .inl (.inr ⟨o, e.mono _ _ h⟩)
  · exact .inr h
theorem Ok.sqT (k : Ok K w) {a : Addr} {vs : List V} (h : SqT K w.M a vs) : SqT K w.H a vs := by
  rcases h with (h | ⟨o, h⟩) | h
  · exact .inl (.inl (k.ex _ _ h))
  · exact .inl (.inr ⟨o, k.ex _ _ h⟩)
  · exact .inr h
theorem Ok.sqL (k : Ok K w) {a : Addr} {vs : List V} (h : SqL K w.M a vs) : SqL K w.H a vs := by
  rcases h with (h | ⟨o, h⟩) | h
  · exact .inl (.inl (k.ex _ _ h))
  · exact .inl (.inr ⟨o, k.ex _ _ h⟩)
  · exact .inr h
theorem Rep.ext (e : Ext w w') {v : V} {d : D} (r : Rep K w v d) : Rep K w' v d := by
  induction r with
  | non => exact .non
  | bl => exact .bl
  | int => exact .int
  | str => exact .str
  | tup h l _ ih => exact .tup (e.sqT h) l ih
  | lst h l _ ih => exact .lst (e.mono _ _ h) l ih
  | dct h l _ ih => exact .dct (e.mono _ _ h) l ih
  | ins h l _ ih => exact .ins (e.mono _ _ h) l ih
  | ref h => rw [← e.rho _ h]; exact .ref (Nat.lt_of_lt_of_le h e.le)
  | scr h => exact .scr (e.sqL h)
  | ty => exact .ty
  | cls => exact .cls
  | opq => exact .opq
  | fn h => exact .fn (e.mono _ _ h)
  | exc0 h => exact .exc0 (e.mono _ _ h)
  | exc1 h h' ne l _ ih => exact .exc1 (e.mono _ _ h) (e.mono _ _ h') ne l ih
theorem Rep.evo (e : Evo w w') {v : V} {d : D} (r : Rep K w v d) : Rep K w' v d := r.ext e.ext
theorem RepL.ext (e : Ext w w') {vs : List V} {xs : List D} (r : RepL K w vs xs) : RepL K w' vs xs := ⟨r.1, fun i v x a b => (r.2 i v x a b).ext e⟩
theorem RepL.evo (e : Evo w w') {vs : List V} {xs : List D} (r : RepL K w vs xs) : RepL K w' vs xs := r.ext e.ext
theorem RepP.ext {κ : Type} (e : Ext w w') {vs : List (κ × V)} {xs : List (κ × D)} (r : RepP K w vs xs) : RepP K w' vs xs := ⟨r.1, fun i v x a b => (r.2 i v x a b).ext e⟩
theorem RepP.evo {κ : Type} (e : Evo w w') {vs : List (κ × V)} {xs : List (κ × D)} (r : RepP K w vs xs) : RepP K w' vs xs := r.ext e.ext
theorem RO.ext (e : Ext w w') {o : HO} {d : D} (r : RO K w o d) : RO K w' o d := by
  cases d with
  | lst xs => obtain ⟨vs, z, r⟩ := r; exact ⟨vs, z, r.ext e⟩
  | dct xs => obtain ⟨vs, z, r⟩ := r; exact ⟨vs, z, r.ext e⟩
  | ins C xs => obtain ⟨dx, vs, z, r⟩ := r; exact ⟨dx, vs, z, r.ext e⟩
  | _ => exact r.elim
theorem RO.evo (e : Evo w w') {o : HO} {d : D} (r : RO K w o d) : RO K w' o d := r.ext e.ext
theorem TabO.ext (e : Ext w w') {o : HO} {n : String} (r : TabO w o n) : TabO w' o n := by
  obtain ⟨ps, z, h1, h2⟩ := r
  exact ⟨ps, z, h1, fun pos cv q => let ⟨c, a, b⟩ := h2 pos cv q; ⟨c, a, e.mono _ _ b⟩⟩
theorem RS.ext (e : Ext w w') {a : Addr} {o : HO} {d : D} (r : RS K w a o d) : RS K w' a o d := r.imp (fun r => r.ext e) fun ⟨n, h1, h2, h3⟩ => ⟨n, h1, h2, h3.ext e⟩
theorem RS.evo (e : Evo w w') {a : Addr} {o : HO} {d : D} (r : RS K w a o d) : RS K w' a o d := r.ext e.ext

theorem RepL.nil : RepL K w [] [] := ⟨rfl, fun i v x h => by simp at h⟩
theorem RepL.cons {v : V} {x : D} {vs : List V} {xs : List D} (h : Rep K w v x) (t : RepL K w vs xs) : RepL K w (v :: vs) (x :: xs) := ⟨by simp [t.1], fun i a b p q => by
  cases i with
  | zero => simp at p q; subst p; subst q; exact h
  | succ i => simp at p q; exact t.2 i a b p q⟩
theorem RepL.inv {vs : List V} {x : D} {xs : List D} (h : RepL K w vs (x :: xs)) : ∃ v r, vs = v :: r ∧ Rep K w v x ∧ RepL K w r xs := by
  cases vs with
  | nil => simp [RepL] at h
  | cons v r => exact ⟨v, r, rfl, h.2 0 v x rfl rfl, by have := h.1; simpa using this, fun i a b p q => h.2 (i + 1) a b (by simpa using p) (by simpa using q)⟩
theorem RepL.inv0 {vs : List V} (h : RepL K w vs []) : vs = [] := List.length_eq_zero_iff.mp h.1
theorem RepL.append {vs us : List V} {xs ys : List D} (h : RepL K w vs xs) (t : RepL K w us ys) : RepL K w (vs ++ us) (xs ++ ys) := by
  induction xs generalizing vs with
  | nil => rw [h.inv0]; exact t
  | cons x xs ih => obtain ⟨v, r, rfl, a, b⟩ := h.inv; exact .cons a (ih b)
theorem RepL.get {vs : List V} {xs : List D} (h : RepL K w vs xs) {i : Nat} {x : D} (e : xs[i]? = some x) : ∃ v, vs[i]? = some v ∧ Rep K w v x := by
  have hl : i < vs.length := by rw [h.1]; exact (List.getElem?_eq_some_iff.mp e).1
  exact ⟨vs[i], List.getElem?_eq_getElem hl, h.2 i _ x (List.getElem?_eq_getElem hl) e⟩
theorem RepL.of_map {α : Type} {f : α → V} {g : α → D} (h : ∀ a, Rep K w (f a) (g a)) : ∀ l : List α, RepL K w (l.map f) (l.map g)
  | [] => .nil
  | a :: l => .cons (h a) (RepL.of_map h l)
theorem RepL.drop {vs : List V} {xs : List D} (h : RepL K w vs xs) (n : Nat) : RepL K w (vs.drop n) (xs.drop n) := ⟨by simp [h.1], fun i v x a b => h.2 (n + i) v x (by simpa using a) (by simpa using b)⟩
theorem RepL.take {vs : List V} {xs : List D} (h : RepL K w vs xs) (n : Nat) : RepL K w (vs.take n) (xs.take n) := ⟨by simp [h.1], fun i v x a b => by
  by_cases q : i < n
  · rw [List.getElem?_take_of_lt q] at a b; exact h.2 i v x a b
  · rw [List.getElem?_eq_none (by simp; omega)] at a; cases a⟩
theorem RepL.set {vs : List V} {xs : List D} (h : RepL K w vs xs) {v : V} {x : D} (r : Rep K w v x) (n : Nat) : RepL K w (vs.set n v) (xs.set n x) := ⟨by simp [h.1], fun i a b p q => by
  by_cases z : n = i
  · subst z
    have hl : n < vs.length := by have := (List.getElem?_eq_some_iff.mp p).1; simpa using this
    rw [List.getElem?_set_self hl] at p
    rw [List.getElem?_set_self (h.1 ▸ hl)] at q
    cases p; cases q; exact r
  · rw [List.getElem?_set_ne z] at p q; exact h.2 i a b p q⟩
/-- what is read of a value: its top, by the heap as it stands -/
def Vw (K : PySem.W.Frag) (w : Wd) (v : V) (d : D) : Prop := match d with
  | .non => v = .non
  | .bl b => v = .bl b
  | .int i => v = .int i
  | .str x => v = .str x
  | .tup xs => ∃ a vs, v = .ref a ∧ SqT K w.H a vs ∧ RepL K w vs xs
  | .lst xs => ∃ a vs, v = .ref a ∧ w.H a = some (.lst vs) ∧ RepL K w vs xs
  | .dct xs => ∃ a vs, v = .ref a ∧ Rd w.H a (.dK vs) ∧ RepP K w vs xs
  | .ins C xs => ∃ a dx vs, v = .ref a ∧ w.H a = some (.ins (cA K C) dx vs) ∧ RepP K w vs xs
  | .scr ns => ∃ a, v = .ref a ∧ SqL K w.H a (ns.map V.int)
  | .ty n => v = .ty n
  | .cls n => v = .ref (cA K n)
  | .opq => ∃ a, v = .ref a
  | .exc C xs => ∃ a dd, v = .ref a ∧ w.H a = some (ExK (.ref (cA K C)) dd a) ∧ (match xs with | [] => dd = none | _ => ∃ d vs, dd = some d ∧ w.H d = some (.xd vs) ∧ RepP K w vs xs)
  | .tomb => ∃ a, v = .ref a
  | .tab _ => ∃ a, v = .ref a
  | .fn a c q => v = .ref a ∧ w.M c = some (LamX.CodeO c q)
  | .ref l => v = .ref (w.ρ l) ∧ l < w.st.length
def deref (st : Store) (d : D) : D := match d with
  | .ref l => st[l]?.getD .non
  | d => d
theorem RO.vw {a : Addr} {o : HO} {d : D} (h : w.H a = some o) (r : RO K w o d) : Vw K w (.ref a) d := by
  cases d with
  | lst xs => obtain ⟨vs, rfl, r⟩ := r; exact ⟨a, vs, rfl, h, r⟩
  | dct xs => obtain ⟨vs, rfl, r⟩ := r; exact ⟨a, vs, rfl, .inl h, r⟩
  | ins C xs => obtain ⟨dx, vs, rfl, r⟩ := r; exact ⟨a, dx, vs, rfl, h, r⟩
  | _ => exact r.elim
theorem Rep.vw (k : Ok K w) {v : V} {d : D} (r : Rep K w v d) : Vw K w v (deref w.st d) := by
  cases r with
  | non => rfl
  | bl => rfl
  | int => rfl
  | str => rfl
  | tup h l z => exact ⟨_, _, rfl, k.sqT h, l, z⟩
  | lst h l z => exact ⟨_, _, rfl, k.ex _ _ h, l, z⟩
  | dct h l z => exact ⟨_, _, rfl, .inr ⟨_, k.ex _ _ h⟩, l, z⟩
  | ins h l z => exact ⟨_, _, _, rfl, k.ex _ _ h, l, z⟩
  | @ref l h =>
    have e : w.st[l]? = some w.st[l] := List.getElem?_eq_getElem h
    obtain ⟨o, ho, q⟩ := k.sto l _ e
    show Vw K w (.ref (w.ρ l)) (w.st[l]?.getD .non)
    rw [e]
    rcases q with q | ⟨_, r⟩
    · show Vw K w _ w.st[l]
      rw [q]; exact ⟨_, rfl⟩
    · rcases r with r | ⟨n, q, _⟩
      · exact r.vw ho
      · show Vw K w _ w.st[l]
        rw [q]; exact ⟨_, rfl⟩
  | scr h => exact ⟨_, rfl, k.sqL h⟩
  | ty => rfl
  | cls => rfl
  | opq => exact ⟨_, rfl⟩
  | fn h => exact ⟨rfl, h⟩
  | exc0 h => exact ⟨_, _, rfl, k.ex _ _ h, rfl⟩
  | @exc1 a d' C vs xs h h' ne l z =>
    cases xs with
    | nil => exact absurd rfl ne
    | cons x xs => exact ⟨_, _, rfl, k.ex _ _ h, _, _, rfl, k.ex _ _ h', l, z⟩
end

/-! ### the frame's slots -/
inductive Sl where
  | no | sh (d : D) | ow (d : D)
abbrev DEnv := List Sl
structure Fr (K : PySem.W.Frag) (H0 : Hp) (w : Wd) (Γ : DEnv) (σ : L2.St) : Prop where
  len : σ.length = Γ.length
  sh : ∀ (i : Nat) (d : D), Γ[i]? = some (.sh d) → ∃ v, σ[i]? = some (some v) ∧ Rep K w v d
  ow : ∀ (i : Nat) (d : D), Γ[i]? = some (.ow d) → ∃ a o, σ[i]? = some (some (.ref a)) ∧ w.H a = some o ∧ w.M a = none ∧ H0 a = none ∧ (∀ l, l < w.st.length → w.ρ l ≠ a) ∧ RO K w o d
  dj : ∀ (i j : Nat) (d e : D) (a : Addr), i ≠ j → Γ[i]? = some (.ow d) → Γ[j]? = some (.ow e) → σ[i]? = some (some (.ref a)) → σ[j]? ≠ some (some (.ref a))
section
variable {K : PySem.W.Frag} {w w' : Wd} {H0 : Hp} {Γ : DEnv} {σ : L2.St}
theorem Fr.evo (f : Fr K H0 w Γ σ) (e : Evo w w') : Fr K H0 w' Γ σ where
  len := f.len
  sh := fun i d h => let ⟨v, a, b⟩ := f.sh i d h; ⟨v, a, b.evo e⟩
  ow := fun i d h => by
    obtain ⟨a, o, h1, h2, h3, h4, h5, h6⟩ := f.ow i d h
    refine ⟨a, o, h1, e.keep a o h2 h3 h5, ?_, h4, fun l hl q => ?_, h6.evo e⟩
    · cases q : w'.M a with
      | none => rfl
      | some u => have z := e.newM a u q h3; rw [h2] at z; cases z
    · by_cases z : l < w.st.length
      · exact h5 l z ((e.rho l z).symm.trans q)
      · have y := e.newR l (Nat.le_of_not_lt z) hl
        rw [q, h2] at y; cases y
  dj := f.dj
/-- a slot's value, own or shared: readable now -/
def Den (K : PySem.W.Frag) (w : Wd) (Γ : DEnv) (σ : L2.St) (v : V) (d : D) : Prop := Rep K w v d ∨ ∃ i : Nat, Γ[i]? = some (.ow d) ∧ σ[i]? = some (some v)
theorem Den.evo {v : V} {d : D} (h : Den K w Γ σ v d) (e : Evo w w') : Den K w' Γ σ v d := h.elim (fun r => .inl (r.evo e)) .inr
theorem RO.noref {o : HO} {d : D} (r : RO K w o d) (st : Store) : deref st d = d := by
  cases d <;> first | rfl | exact r.elim
theorem Den.vw (k : Ok K w) (f : Fr K H0 w Γ σ) {v : V} {d : D} (h : Den K w Γ σ v d) : Vw K w v (deref w.st d) := by
  rcases h with r | ⟨i, a, b⟩
  · exact r.vw k
  · obtain ⟨p, o, h1, h2, _, _, _, r⟩ := f.ow i d a
    rw [b] at h1; cases h1
    rw [r.noref]
    exact r.vw h2
end

/-! ### what comes of an expression, a test, a statement -/
structure Xn where
  own : Bool
  C : String
  fs : List (Str × D)
inductive ER where
  | ok (d : D) (st : Store) | err (x : Xn) (st : Store) | no
inductive SR where
  | nx (Γ : DEnv) (st : Store) | ret (d : D) (st : Store) | bk (Γ : DEnv) (st : Store) | ct (Γ : DEnv) (st : Store) | err (x : Xn) (Γ : DEnv) (st : Store) | no
abbrev EM := DEnv → Store → ER
abbrev SM := DEnv → Store → SR

def RepX (K : PySem.W.Frag) (w : Wd) (cls : Value) (dd : Option Addr) (x : Xn) : Prop := cls = (if x.own = true then .ref (cA K x.C) else .type x.C) ∧ match x.fs with
  | [] => dd = none
  | fs => ∃ d gs, dd = some d ∧ w.M d = some (.xd gs) ∧ RepP K w gs fs
def PostE (K : PySem.W.Frag) (w : Wd) (r : ER) (Q : VK) (W : XK) : Prop := match r with
  | .ok d st' => ∀ v w', Evo w w' → Ok K w' → w'.st = st' → Rep K w' v d → Q v w'.H
  | .err x st' => ∀ c dd w', Evo w w' → Ok K w' → w'.st = st' → RepX K w' c dd x → W c dd w'.H
  | .no => False
def PostB (K : PySem.W.Frag) (w : Wd) (Γ : DEnv) (σ : L2.St) (r : ER) (Q : VK) (W : XK) : Prop := match r with
  | .ok d st' => ∀ v w', Evo w w' → Ok K w' → w'.st = st' → Den K w' Γ σ v d → Q v w'.H
  | .err x st' => ∀ c dd w', Evo w w' → Ok K w' → w'.st = st' → RepX K w' c dd x → W c dd w'.H
  | .no => False
def PostT (K : PySem.W.Frag) (w : Wd) (r : ER) (Q : Bool → Hp → Prop) (W : XK) : Prop := match r with
  | .ok (.bl b) st' => ∀ w', Evo w w' → Ok K w' → w'.st = st' → Q b w'.H
  | .ok _ _ => False
  | .err x st' => ∀ c dd w', Evo w w' → Ok K w' → w'.st = st' → RepX K w' c dd x → W c dd w'.H
  | .no => False
def PostA (K : PySem.W.Frag) (w : Wd) (r : ER) (Q : List V → Hp → Prop) (W : XK) : Prop := match r with
  | .ok (.tup ds) st' => ∀ vs w', Evo w w' → Ok K w' → w'.st = st' → RepL K w' vs ds → Q vs w'.H
  | .ok _ _ => False
  | .err x st' => ∀ c dd w', Evo w w' → Ok K w' → w'.st = st' → RepX K w' c dd x → W c dd w'.H
  | .no => False
def PostS (K : PySem.W.Frag) (w0 w : Wd) (r : SR) (D : Ends) (W : WX) : Prop := match r with
  | .nx Γ st' => ∀ w' σ, Evo w0 w' → Ext w w' → Ok K w' → w'.st = st' → Fr K w0.H w' Γ σ → D.nx σ w'.H
  | .bk Γ st' => ∀ w' σ, Evo w0 w' → Ext w w' → Ok K w' → w'.st = st' → Fr K w0.H w' Γ σ → D.bk σ w'.H
  | .ct Γ st' => ∀ w' σ, Evo w0 w' → Ext w w' → Ok K w' → w'.st = st' → Fr K w0.H w' Γ σ → D.ct σ w'.H
  | .ret d st' => ∀ v w', Evo w0 w' → Ok K w' → w'.st = st' → Rep K w' v d → D.rt v w'.H
  | .err x Γ st' => ∀ c dd w' σ, Evo w0 w' → Ext w w' → Ok K w' → w'.st = st' → Fr K w0.H w' Γ σ → RepX K w' c dd x → W c dd σ w'.H
  | .no => False
theorem PostS.shift {K : PySem.W.Frag} {w0 w w' : Wd} (e : Ext w w') {r : SR} {D : Ends} {W : WX} (p : PostS K w0 w r D W) : PostS K w0 w' r D W := by
  cases r with
  | nx Γ st => exact fun w2 σ a b => p w2 σ a (e.trans b)
  | bk Γ st => exact fun w2 σ a b => p w2 σ a (e.trans b)
  | ct Γ st => exact fun w2 σ a b => p w2 σ a (e.trans b)
  | ret d st => exact p
  | err x Γ st => exact fun c dd w2 σ a b => p c dd w2 σ a (e.trans b)
  | no => exact p

abbrev at_ (W : WX) (σ : L2.St) : XK := fun c d H => W c d σ H
def RT (K : PySem.W.Frag) (W : WX) (t : TE) (m : EM) : Prop := ∀ (H0 : Hp) (w : Wd) (Γ : DEnv) (σ : L2.St), Ok K w → Fr K H0 w Γ σ → ∀ Q : VK, PostE K w (m Γ w.st) Q (at_ W σ) → t σ w.H Q
def RB (K : PySem.W.Frag) (W : WX) (t : TE) (m : EM) : Prop := ∀ (H0 : Hp) (w : Wd) (Γ : DEnv) (σ : L2.St), Ok K w → Fr K H0 w Γ σ → ∀ Q : VK, PostB K w Γ σ (m Γ w.st) Q (at_ W σ) → t σ w.H Q
def RTT (K : PySem.W.Frag) (W : WX) (t : TT) (m : EM) : Prop := ∀ (H0 : Hp) (w : Wd) (Γ : DEnv) (σ : L2.St), Ok K w → Fr K H0 w Γ σ → ∀ Q : Bool → Hp → Prop, PostT K w (m Γ w.st) Q (at_ W σ) → t σ w.H Q
def RTA (K : PySem.W.Frag) (W : WX) (t : TA) (m : EM) : Prop := ∀ (H0 : Hp) (w : Wd) (Γ : DEnv) (σ : L2.St), Ok K w → Fr K H0 w Γ σ → ∀ Q : List V → Hp → Prop, PostA K w (m Γ w.st) Q (at_ W σ) → t σ w.H Q
def RTS (K : PySem.W.Frag) (W : WX) (t : TS) (m : SM) : Prop := ∀ (w0 w : Wd) (Γ : DEnv) (σ : L2.St), Evo w0 w → Ok K w → Fr K w0.H w Γ σ → ∀ D : Ends, PostS K w0 w (m Γ w.st) D W → t D σ w.H


/-! ### one after the other -/
def ER.bind (r : ER) (f : D → Store → ER) : ER := match r with
  | .ok d st => f d st
  | .err x st => .err x st
  | .no => .no
def ER.bs (r : ER) (Γ : DEnv) (f : D → Store → SR) : SR := match r with
  | .ok d st => f d st
  | .err x st => .err x Γ st
  | .no => .no
def SR.bind (r : SR) (f : DEnv → Store → SR) : SR := match r with
  | .nx Γ st => f Γ st
  | r => r
@[simp] theorem ok_bind {d : D} {st : Store} {f : D → Store → ER} : (ER.ok d st).bind f = f d st := rfl
@[simp] theorem err_bind {x : Xn} {st : Store} {f : D → Store → ER} : (ER.err x st).bind f = .err x st := rfl
@[simp] theorem no_bind {f : D → Store → ER} : ER.no.bind f = .no := rfl
@[simp] theorem ok_bs {d : D} {st : Store} {Γ : DEnv} {f : D → Store → SR} : (ER.ok d st).bs Γ f = f d st := rfl
@[simp] theorem err_bs {x : Xn} {st : Store} {Γ : DEnv} {f : D → Store → SR} : (ER.err x st).bs Γ f = .err x Γ st := rfl
@[simp] theorem no_bs {Γ : DEnv} {f : D → Store → SR} : ER.no.bs Γ f = .no := rfl
@[simp] theorem nx_bind {Γ : DEnv} {st : Store} {f : DEnv → Store → SR} : (SR.nx Γ st).bind f = f Γ st := rfl
@[simp] theorem ret_bind {d : D} {st : Store} {f : DEnv → Store → SR} : (SR.ret d st).bind f = .ret d st := rfl
@[simp] theorem bk_bind {Γ : DEnv} {st : Store} {f : DEnv → Store → SR} : (SR.bk Γ st).bind f = .bk Γ st := rfl
@[simp] theorem ct_bind {Γ : DEnv} {st : Store} {f : DEnv → Store → SR} : (SR.ct Γ st).bind f = .ct Γ st := rfl
@[simp] theorem errS_bind {x : Xn} {Γ : DEnv} {st : Store} {f : DEnv → Store → SR} : (SR.err x Γ st).bind f = .err x Γ st := rfl
@[simp] theorem noS_bind {f : DEnv → Store → SR} : SR.no.bind f = .no := rfl

section
variable {K : PySem.W.Frag} {W : WX} {w w' : Wd} {H0 : Hp} {Γ : DEnv} {σ : L2.St}
theorem PostE.shift (e : Evo w w') (k : Ok K w') {r : ER} {Q : VK} {E : XK} (p : PostE K w r Q E) : PostE K w' r Q E := by
  cases r with
  | ok d st => exact fun v w2 e2 k2 s r => p v w2 (e.trans k e2) k2 s r
  | err x st => exact fun c dd w2 e2 k2 s r => p c dd w2 (e.trans k e2) k2 s r
  | no => exact p
theorem PostT.shift (e : Evo w w') (k : Ok K w') {r : ER} {Q : Bool → Hp → Prop} {E : XK} (p : PostT K w r Q E) : PostT K w' r Q E := by
  cases r with
  | ok d st =>
    cases d with
    | bl b => exact fun w2 e2 k2 s => p w2 (e.trans k e2) k2 s
    | _ => exact p
  | err x st => exact fun c dd w2 e2 k2 s r => p c dd w2 (e.trans k e2) k2 s r
  | no => exact p
theorem PostA.shift (e : Evo w w') (k : Ok K w') {r : ER} {Q : List V → Hp → Prop} {E : XK} (p : PostA K w r Q E) : PostA K w' r Q E := by
  cases r with
  | ok d st =>
    cases d with
    | tup ds => exact fun v w2 e2 k2 s r => p v w2 (e.trans k e2) k2 s r
    | _ => exact p
  | err x st => exact fun c dd w2 e2 k2 s r => p c dd w2 (e.trans k e2) k2 s r
  | no => exact p
/-- what stands still is told at once -/
theorem PostE.now {d : D} {Q : VK} {E : XK} (p : PostE K w (.ok d w.st) Q E) (k : Ok K w) {v : V} (r : Rep K w v d) : Q v w.H := p v w (Evo.refl w) k rfl r
theorem PostB.now {d : D} {Q : VK} {E : XK} (p : PostB K w Γ σ (.ok d w.st) Q E) (k : Ok K w) {v : V} (r : Den K w Γ σ v d) : Q v w.H := p v w (Evo.refl w) k rfl r
theorem PostT.now {b : Bool} {Q : Bool → Hp → Prop} {E : XK} (p : PostT K w (.ok (.bl b) w.st) Q E) (k : Ok K w) : Q b w.H := p w (Evo.refl w) k rfl

/-- a part is evaluated, then g goes on: P is a later want that shifts -/
theorem RT.use {t : TE} {m : EM} (h : RT K W t m) (k : Ok K w) (f : Fr K H0 w Γ σ) {Q : VK} {P : Wd → ER → Prop} {g : D → Store → ER}
    (sh : ∀ w' r, Evo w w' → Ok K w' → P w r → P w' r) (pe : ∀ x st, P w (.err x st) → PostE K w (.err x st) Q (at_ W σ)) (pn : ¬ P w .no)
    (p : P w ((m Γ w.st).bind g)) (q : ∀ d v w', Evo w w' → Ok K w' → Fr K H0 w' Γ σ → Rep K w' v d → P w' (g d w'.st) → Q v w'.H) : t σ w.H Q := by
  refine h H0 w Γ σ k f Q ?_
  cases e : m Γ w.st with
  | ok d st => rw [e] at p; exact fun v w' ev k' s r => q d v w' ev k' (f.evo ev) r (by subst s; exact sh w' _ ev k' p)
  | err x st => rw [e] at p; exact pe x st p
  | no => rw [e] at p; exact (pn p).elim
theorem RB.use {t : TE} {m : EM} (h : RB K W t m) (k : Ok K w) (f : Fr K H0 w Γ σ) {Q : VK} {P : Wd → ER → Prop} {g : D → Store → ER}
    (sh : ∀ w' r, Evo w w' → Ok K w' → P w r → P w' r) (pe : ∀ x st, P w (.err x st) → PostB K w Γ σ (.err x st) Q (at_ W σ)) (pn : ¬ P w .no)
    (p : P w ((m Γ w.st).bind g)) (q : ∀ d v w', Evo w w' → Ok K w' → Fr K H0 w' Γ σ → Den K w' Γ σ v d → P w' (g d w'.st) → Q v w'.H) : t σ w.H Q := by
  refine h H0 w Γ σ k f Q ?_
  cases e : m Γ w.st with
  | ok d st => rw [e] at p; exact fun v w' ev k' s r => q d v w' ev k' (f.evo ev) r (by subst s; exact sh w' _ ev k' p)
  | err x st => rw [e] at p; exact pe x st p
  | no => rw [e] at p; exact (pn p).elim
theorem RTT.use {t : TT} {m : EM} (h : RTT K W t m) (k : Ok K w) (f : Fr K H0 w Γ σ) {Q : Bool → Hp → Prop} {P : Wd → ER → Prop} {g : D → Store → ER}
    (sh : ∀ w' r, Evo w w' → Ok K w' → P w r → P w' r) (pe : ∀ x st, P w (.err x st) → PostT K w (.err x st) Q (at_ W σ)) (pn : ¬ P w .no) (gn : ∀ d st, (∀ b, d ≠ .bl b) → g d st = .no)
    (p : P w ((m Γ w.st).bind g)) (q : ∀ b w', Evo w w' → Ok K w' → Fr K H0 w' Γ σ → P w' (g (.bl b) w'.st) → Q b w'.H) : t σ w.H Q := by
  refine h H0 w Γ σ k f Q ?_
  cases e : m Γ w.st with
  | ok d st =>
    rw [e] at p
    cases d with
    | bl b => exact fun w' ev k' s => q b w' ev k' (f.evo ev) (by subst s; exact sh w' _ ev k' p)
    | _ => rw [ok_bind, gn _ _ (fun b z => by cases z)] at p; exact (pn p).elim
  | err x st => rw [e] at p; exact pe x st p
  | no => rw [e] at p; exact (pn p).elim
theorem RTA.use {t : TA} {m : EM} (h : RTA K W t m) (k : Ok K w) (f : Fr K H0 w Γ σ) {Q : List V → Hp → Prop} {P : Wd → ER → Prop} {g : D → Store → ER}
    (sh : ∀ w' r, Evo w w' → Ok K w' → P w r → P w' r) (pe : ∀ x st, P w (.err x st) → PostA K w (.err x st) Q (at_ W σ)) (pn : ¬ P w .no) (gn : ∀ d st, (∀ b, d ≠ .tup b) → g d st = .no)
    (p : P w ((m Γ w.st).bind g)) (q : ∀ ds vs w', Evo w w' → Ok K w' → Fr K H0 w' Γ σ → RepL K w' vs ds → P w' (g (.tup ds) w'.st) → Q vs w'.H) : t σ w.H Q := by
  refine h H0 w Γ σ k f Q ?_
  cases e : m Γ w.st with
  | ok d st =>
    rw [e] at p
    cases d with
    | tup ds => exact fun vs w' ev k' s r => q ds vs w' ev k' (f.evo ev) r (by subst s; exact sh w' _ ev k' p)
    | _ => rw [ok_bind, gn _ _ (fun b z => by cases z)] at p; exact (pn p).elim
  | err x st => rw [e] at p; exact pe x st p
  | no => rw [e] at p; exact (pn p).elim
end
theorem RT.b {K : PySem.W.Frag} {W : WX} {t : TE} {m : EM} (h : RT K W t m) : RB K W t m := fun H0 w Γ σ k f Q p => h H0 w Γ σ k f Q (by
  cases e : m Γ w.st with
  | ok d st' => rw [e] at p; exact fun v w' a b c r => p v w' a b c (.inl r)
  | err x st' => rw [e] at p; exact p
  | no => rw [e] at p; exact p)
end DL
namespace DL
open PySem L2
section
variable {K : PySem.W.Frag} {W : WX} {w w' w0 : Wd} {H0 : Hp} {Γ : DEnv} {σ : L2.St}
theorem RT.useS {t : TE} {m : EM} (h : RT K W t m) (e0 : Evo w0 w) (k : Ok K w) (f : Fr K w0.H w Γ σ) {Q : VK} {Dn : Ends} {g : D → Store → SR}
    (p : PostS K w0 w ((m Γ w.st).bs Γ g) Dn W) (q : ∀ d v w', Evo w0 w' → Ok K w' → Fr K w0.H w' Γ σ → Rep K w' v d → Ext w w' → PostS K w0 w' (g d w'.st) Dn W → Q v w'.H) : t σ w.H Q := by
  refine h w0.H w Γ σ k f Q ?_
  cases e : m Γ w.st with
  | ok d st => rw [e] at p; exact fun v w' ev k' s r => q d v w' (e0.trans k ev) k' (f.evo ev) r ev.ext (by subst s; exact p.shift ev.ext)
  | err x st => rw [e] at p; exact fun c dd w' ev k' s r => p c dd w' σ (e0.trans k ev) ev.ext k' s (f.evo ev) r
  | no => rw [e] at p; exact p
theorem RTT.useS {t : TT} {m : EM} (h : RTT K W t m) (e0 : Evo w0 w) (k : Ok K w) (f : Fr K w0.H w Γ σ) {Q : Bool → Hp → Prop} {Dn : Ends} {g : D → Store → SR}
    (p : PostS K w0 w ((m Γ w.st).bs Γ g) Dn W) (gn : ∀ d st, (∀ b, d ≠ .bl b) → g d st = .no) (q : ∀ b w', Evo w0 w' → Ok K w' → Fr K w0.H w' Γ σ → Ext w w' → PostS K w0 w' (g (.bl b) w'.st) Dn W → Q b w'.H) : t σ w.H Q := by
  refine h w0.H w Γ σ k f Q ?_
  cases e : m Γ w.st with
  | ok d st =>
    rw [e] at p
    cases d with
    | bl b => exact fun w' ev k' s => q b w' (e0.trans k ev) k' (f.evo ev) ev.ext (by subst s; exact p.shift ev.ext)
    | _ => rw [ok_bs, gn _ _ (fun b z => by cases z)] at p; exact p
  | err x st => rw [e] at p; exact fun c dd w' ev k' s r => p c dd w' σ (e0.trans k ev) ev.ext k' s (f.evo ev) r
  | no => rw [e] at p; exact p

/-! ### a new frozen thing -/
theorem Ok.none (k : Ok K w) {p : Addr} (hp : w.H p = Option.none) : w.M p = Option.none := by
  cases q : w.M p with
  | none => rfl
  | some o => rw [k.ex p o q] at hp; cases hp
/-- the world with a frozen object o at p -/
def Wd.fz (w : Wd) (p : Addr) (o : HO) : Wd := { w with M := upd w.M p o, H := upd w.H p o }
theorem evo_fz (k : Ok K w) {p : Addr} (o : HO) (hp : w.H p = Option.none) : Evo w (w.fz p o) where
  mono := fun a u h => by show upd _ _ _ _ = _; rw [upd_ne (ne_of_none h (k.none hp))]; exact h
  rho := fun _ _ => rfl
  le := Nat.le_refl _
  newM := fun a u h n => by
    by_cases q : a = p
    · subst q; exact hp
    · have h' : upd w.M p o a = some u := h
      rw [upd_ne q, n] at h'; cases h'
  newR := fun l h1 h2 => absurd (Nat.lt_of_lt_of_le h2 h1) (Nat.lt_irrefl _)
  keep := fun a u h _ _ => by show upd _ _ _ _ = _; rw [upd_ne (ne_of_none h hp)]; exact h
theorem ok_fz (k : Ok K w) {p : Addr} (o : HO) (hp : w.H p = Option.none) : Ok K (w.fz p o) where
  ex := fun a u h => by
    have h' : upd w.M p o a = some u := h
    show upd w.H p o a = some u
    by_cases q : a = p
    · subst q; rw [upd_same] at h' ⊢; exact h'
    · rw [upd_ne q] at h' ⊢; exact k.ex a u h'
  sto := fun l d h => by
    obtain ⟨u, h1, h2⟩ := k.sto l d h
    have ne : w.ρ l ≠ p := ne_of_none h1 hp
    exact ⟨u, by show upd w.H p o (w.ρ l) = _; rw [upd_ne ne]; exact h1, h2.imp id fun ⟨h2, h3⟩ => ⟨by show upd w.M p o (w.ρ l) = _; rw [upd_ne ne]; exact h2, h3.evo (evo_fz k o hp)⟩⟩
  inj := k.inj
theorem rep_lst {p : Addr} {vs : List V} {xs : List D} (k : Ok K w) (hp : w.H p = Option.none) (r : RepL K w vs xs) : Rep K (w.fz p (.lst vs)) (.ref p) (.lst xs) :=
  have r' := r.evo (evo_fz k (.lst vs) hp)
  .lst (by show upd _ _ _ _ = _; exact upd_same) r'.1 r'.2
theorem rep_tup {p : Addr} {vs : List V} {xs : List D} (k : Ok K w) (hp : w.H p = Option.none) (r : RepL K w vs xs) : Rep K (w.fz p (.tup vs)) (.ref p) (.tup xs) :=
  have r' := r.evo (evo_fz k (.tup vs) hp)
  .tup (.inl (.inl (by show upd _ _ _ _ = _; exact upd_same))) r'.1 r'.2
theorem PostE.lst {st : Store} {xs : List D} {Q : VK} {E : XK} (p : PostE K w (.ok (.lst xs) st) Q E) (s : w.st = st) (k : Ok K w) {vs : List V} (r : RepL K w vs xs) (a : Addr) (ha : w.H a = Option.none) : Q (.ref a) (upd w.H a (.lst vs)) :=
  p (.ref a) (w.fz a (.lst vs)) (evo_fz k _ ha) (ok_fz k _ ha) s (rep_lst k ha r)
theorem PostE.tup {st : Store} {xs : List D} {Q : VK} {E : XK} (p : PostE K w (.ok (.tup xs) st) Q E) (s : w.st = st) (k : Ok K w) {vs : List V} (r : RepL K w vs xs) (a : Addr) (ha : w.H a = Option.none) : Q (.ref a) (upd w.H a (.tup vs)) :=
  p (.ref a) (w.fz a (.tup vs)) (evo_fz k _ ha) (ok_fz k _ ha) s (rep_tup k ha r)
end

/-- a scope, and the names whose cells were made at its entry -/
structure SC where
  s : Scope
  fn : Str → Bool
  cd : Option (Addr × Str)
/-! ### the contexts that a def's body (and its comprehensions) run in -/
structure G (P : Program) (wd : World) (K : PySem.W.Frag) (mg : Str → Option Value) (base : Heap) (k : Nat) (N : List Str) (sc : SC) (W : WX) (X : Cx) : Prop where
  prog : X.prog = P
  wd : X.w = wd
  kk : X.K = K
  mg : X.mg = mg
  bs : X.base = base
  nn : X.N = N
  scp : X.env.scope = sc.s
  calm : X.calm = true
  room : Room k X.A
  grd : Tp X.A X.base
  tk : Takes X W
  pass : PassesOwn (model X.prog X.w) X.A X.env X.xe
  fnc : X.fn = sc.fn
  code : ∀ c q, sc.cd = some (c, q) → X.env.code = .ref c ∧ X.env.qual = q
  top : X.fn = (fun _ => true) → X.stack = X.env :: X.outer ∧ X.env.frame = some X.env.locals ∧ X.ex = []
def PR (P : Program) (wd : World) (K : PySem.W.Frag) (mg : Str → Option Value) (base : Heap) (k : Nat) (N : List Str) (sc : SC) (W : WX) (e : Expr) (m : EM) : Prop := ∃ t : TE, (∀ X, G P wd K mg base k N sc W X → PE X e t) ∧ RT K W t m
def PB (P : Program) (wd : World) (K : PySem.W.Frag) (mg : Str → Option Value) (base : Heap) (k : Nat) (N : List Str) (sc : SC) (W : WX) (e : Expr) (m : EM) : Prop := ∃ t : TE, (∀ X, G P wd K mg base k N sc W X → PE X e t) ∧ RB K W t m
def PTt (P : Program) (wd : World) (K : PySem.W.Frag) (mg : Str → Option Value) (base : Heap) (k : Nat) (N : List Str) (sc : SC) (W : WX) (e : Expr) (m : EM) : Prop := ∃ t : TT, (∀ X, G P wd K mg base k N sc W X → PT X e t) ∧ RTT K W t m
def PWt (P : Program) (wd : World) (K : PySem.W.Frag) (mg : Str → Option Value) (base : Heap) (k : Nat) (N : List Str) (sc : SC) (W : WX) (e : Expr) (m : EM) : Prop := ∃ t : TT, (∀ X, G P wd K mg base k N sc W X → PW X e t) ∧ RTT K W t m
def PAr (P : Program) (wd : World) (K : PySem.W.Frag) (mg : Str → Option Value) (base : Heap) (k : Nat) (N : List Str) (sc : SC) (W : WX) (es : List Expr) (m : EM) : Prop := ∃ t : TA, (∀ X, G P wd K mg base k N sc W X → PA X es t) ∧ RTA K W t m
def PSt (P : Program) (wd : World) (K : PySem.W.Frag) (mg : Str → Option Value) (base : Heap) (k : Nat) (N : List Str) (sc : SC) (W : WX) (s : Stmt) (m : SM) : Prop := ∃ t : TS, (∀ X, G P wd K mg base k N sc W X → PS X s t) ∧ RTS K W t m
def PSl (P : Program) (wd : World) (K : PySem.W.Frag) (mg : Str → Option Value) (base : Heap) (k : Nat) (N : List Str) (sc : SC) (W : WX) (ss : List Stmt) (m : SM) : Prop := ∃ t : TS, (∀ X, G P wd K mg base k N sc W X → PSs X ss t) ∧ RTS K W t m

section
variable {P : Program} {wd : World} {K : PySem.W.Frag} {mg : Str → Option Value} {base : Heap} {k : Nat} {N : List Str} {sc : SC} {W : WX}
theorem PR.b {e : Expr} {m : EM} (h : PR P wd K mg base k N sc W e m) : PB P wd K mg base k N sc W e m := let ⟨t, a, b⟩ := h; ⟨t, a, b.b⟩

/-! ### names and constants -/
def eVar (i : Nat) : EM := fun Γ st => match Γ[i]? with
  | some (.sh d) => .ok d st
  | _ => .no
def eVarB (i : Nat) : EM := fun Γ st => match Γ[i]? with
  | some (.sh d) => .ok d st
  | some (.ow d) => .ok d st
  | _ => .no
def eC (d : D) : EM := fun _ st => .ok d st
def VisS (sc : SC) (x : Str) : Prop := Vis sc.s x
theorem pr_var (i : Nat) {x : Str} {pos : Pos} (hN : N[i]? = some x := by rfl) (hv : Vis sc.s x := by first | exact Or.inl rfl | exact Or.inr (Or.inl rfl) | exact Or.inr (Or.inr rfl)) (hd : (x == ("__debug__" : Str)) = false := by decide)
    (hcd : (x == ("__classdict__" : Str)) = false := by decide) : PR P wd K mg base k N sc W (.Name x pos) (eVar i) := by
  refine ⟨tVar i, fun X g => pe_var (by rw [g.nn]; exact hN) (by rw [g.scp]; exact hv) hd hcd, ?_⟩
  intro H0 w Γ σ ok f Q p
  unfold eVar at p
  split at p
  · rename_i d h
    obtain ⟨v, h1, r⟩ := f.sh i d h
    exact ⟨v, h1, p.now ok r⟩
  · exact p.elim
theorem pb_var (i : Nat) {x : Str} {pos : Pos} (hN : N[i]? = some x := by rfl) (hv : Vis sc.s x := by first | exact Or.inl rfl | exact Or.inr (Or.inl rfl) | exact Or.inr (Or.inr rfl)) (hd : (x == ("__debug__" : Str)) = false := by decide)
    (hcd : (x == ("__classdict__" : Str)) = false := by decide) : PB P wd K mg base k N sc W (.Name x pos) (eVarB i) := by
  refine ⟨tVar i, fun X g => pe_var (by rw [g.nn]; exact hN) (by rw [g.scp]; exact hv) hd hcd, ?_⟩
  intro H0 w Γ σ ok f Q p
  unfold eVarB at p
  split at p
  · rename_i d h
    obtain ⟨v, h1, r⟩ := f.sh i d h
    exact ⟨v, h1, p.now ok (.inl r)⟩
  · rename_i d h
    obtain ⟨a, o, h1, _⟩ := f.ow i d h
    exact ⟨_, h1, p.now ok (.inr ⟨i, h, h1⟩)⟩
  · exact p.elim
theorem rt_c {v : V} {d : D} (r : ∀ w, Rep K w v d) : RT K W (tC v) (eC d) := fun H0 w Γ σ ok f Q p => p.now ok (r w)
theorem pr_int {i : Int} {j : Nat} {pos : Pos} : PR P wd K mg base k N sc W (.Constant (.int i) j pos) (eC (.int i)) := ⟨_, fun X g => pe_int, rt_c fun _ => .int⟩
theorem pr_bl {b : Bool} {j : Nat} {pos : Pos} : PR P wd K mg base k N sc W (.Constant (.bool b) j pos) (eC (.bl b)) := ⟨_, fun X g => pe_bl, rt_c fun _ => .bl⟩
theorem pr_non {j : Nat} {pos : Pos} : PR P wd K mg base k N sc W (.Constant .none j pos) (eC .non) := ⟨_, fun X g => pe_non, rt_c fun _ => .non⟩
theorem pr_str {x : Str} {j : Nat} {pos : Pos} : PR P wd K mg base k N sc W (.Constant (.str x) j pos) (eC (.str x)) := ⟨_, fun X g => pe_str, rt_c fun _ => .str⟩
/-- a constant of the module -/
theorem pr_glob {x : Str} {v : V} {d : D} {pos : Pos} (hm : ∃ u, mg x = some u ∧ RelV v u) (r : ∀ w, Rep K w v d) (hg : sc.s.names.lookup x = some .globalImplicit := by rfl) (hd : (x == ("__debug__" : Str)) = false := by decide) :
    PR P wd K mg base k N sc W (.Name x pos) (eC d) := by
  obtain ⟨u, hu, ru⟩ := hm
  exact ⟨tC v, fun X g => pe_glob (by unfold Gl PySem.Env.kindOf; rw [g.scp]; exact hg) (by rw [g.mg]; exact hu) ru hd, rt_c r⟩

/-! ### operators -/
def eOp (f : D → D → Store → ER) (ma mb : EM) : EM := fun Γ st => (ma Γ st).bind fun x s1 => (mb Γ s1).bind fun y s2 => f (deref s2 x) (deref s2 y) s2
/-- what an operation by values wants is had from the data -/
def OpD (K : PySem.W.Frag) (r : R2) (f : D → D → Store → ER) : Prop := ∀ (w : Wd) (x y : V) (dx dy : D) (Q : VK) (E : XK), Ok K w → Vw K w x dx → Vw K w y dy → PostE K w (f dx dy w.st) Q E → r x y w.H Q
theorem rt_op {r : R2} {f : D → D → Store → ER} {ta tb : TE} {ma mb : EM} (h : OpD K r f) (ra : RB K W ta ma) (rb : RB K W tb mb) : RT K W (tOp r ta tb) (eOp f ma mb) := by
  intro H0 w Γ σ ok f0 Q p
  refine ra.use ok f0 (P := fun w r => PostE K w r Q (at_ W σ)) (fun _ _ e k p => p.shift e k) (fun _ _ p => p) (fun p => p) p fun dx x w1 e1 k1 f1 vx p1 => ?_
  refine rb.use k1 f1 (P := fun w r => PostE K w r Q (at_ W σ)) (fun _ _ e k p => p.shift e k) (fun _ _ p => p) (fun p => p) p1 fun dy y w2 e2 k2 f2 vy p2 => ?_
  exact h w2 x y _ _ Q _ k2 ((vx.evo e2).vw k2 f2) (vy.vw k2 f2) p2
theorem pr_op {op : Operator} {r : R2} {f : D → D → Store → ER} {a b : Expr} {ma mb : EM} {pos : Pos} (ho : ∀ X, G P wd K mg base k N sc W X → OpR X (binaryOp op) r) (h : OpD K r f) (ha : PB P wd K mg base k N sc W a ma) (hb : PB P wd K mg base k N sc W b mb) :
    PR P wd K mg base k N sc W (.BinOp a op b pos) (eOp f ma mb) := by
  obtain ⟨ta, pa, ra⟩ := ha
  obtain ⟨tb, pb, rb⟩ := hb
  exact ⟨_, fun X g => pe_op (ho X g) (pa X g) (pb X g), rt_op h ra rb⟩
theorem pr_cmp {op : CmpOp} {r : R2} {f : D → D → Store → ER} {a b : Expr} {ma mb : EM} {pos : Pos} (ho : ∀ X, G P wd K mg base k N sc W X → OpR X (compareOp op) r) (h : OpD K r f) (ha : PB P wd K mg base k N sc W a ma) (hb : PB P wd K mg base k N sc W b mb)
    (hm : behindInMarks op b = false := by first | exact nomark _ | rfl) : PR P wd K mg base k N sc W (.Compare a [op] [b] pos) (eOp f ma mb) := by
  obtain ⟨ta, pa, ra⟩ := ha
  obtain ⟨tb, pb, rb⟩ := hb
  exact ⟨_, fun X g => pe_cmpR (ho X g) (pa X g) (pb X g) hm, rt_op h ra rb⟩
/-- a truth value as a test -/
theorem rtt_test {t : TE} {m : EM} (h : RT K W t m) : RTT K W (tTest t) m := by
  intro H0 w Γ σ ok f Q p
  refine h H0 w Γ σ ok f _ ?_
  cases e : m Γ w.st with
  | ok d st =>
    rw [e] at p
    cases d with
    | bl b => exact fun v w' ev k' s r => by cases r; exact ⟨b, rfl, p w' ev k' s⟩
    | _ => exact p.elim
  | err x st => rw [e] at p; exact p
  | no => rw [e] at p; exact p
theorem pt_cmp' {op : CmpOp} {r : R2} {f : D → D → Store → ER} {a b : Expr} {ma mb : EM} {pos : Pos} (ho : ∀ X, G P wd K mg base k N sc W X → OpR X (compareOp op) r) (h : OpD K r f) (ha : PB P wd K mg base k N sc W a ma) (hb : PB P wd K mg base k N sc W b mb)
    (hm : behindInMarks op b = false := by first | exact nomark _ | rfl) : PTt P wd K mg base k N sc W (.Compare a [op] [b] pos) (eOp f ma mb) := by
  obtain ⟨ta, pa, ra⟩ := ha
  obtain ⟨tb, pb, rb⟩ := hb
  exact ⟨_, fun X g => pt_cmpR (ho X g) (pa X g) (pb X g) hm, rtt_test (rt_op h ra rb)⟩
theorem pt_val' {e : Expr} {m : EM} (h : PR P wd K mg base k N sc W e m) (he : ∀ env whole, isTrue e env whole = (do let v ← whole; standAt e.pos; holding [v] (truthy v)) := by intro _ _; rfl) : PTt P wd K mg base k N sc W e m := by
  obtain ⟨t, p, r⟩ := h
  exact ⟨_, fun X g => pt_val (p X g) (fun whole => he X.env whole), rtt_test r⟩
theorem pt_not' {e : Expr} {m : EM} {pos : Pos} (h : PTt P wd K mg base k N sc W e m) : PTt P wd K mg base k N sc W (.UnaryOp .Not e pos) (fun Γ st => (m Γ st).bind fun d s => match d with | .bl b => .ok (.bl !b) s | _ => .no) := by
  obtain ⟨t, p, r⟩ := h
  refine ⟨_, fun X g => pt_not (p X g), ?_⟩
  intro H0 w Γ σ ok f Q q
  exact r.use ok f (P := fun w r => PostT K w r Q (at_ W σ)) (fun _ _ e k p => p.shift e k) (fun _ _ p => p) (fun p => p) (fun d st hb => by cases d <;> first | rfl | exact absurd rfl (hb _)) q fun b w1 e1 k1 f1 p1 => p1.now k1
end
end DL
namespace DL
open PySem L2
section
variable {P : Program} {wd : World} {K : PySem.W.Frag} {mg : Str → Option Value} {base : Heap} {k : Nat} {N : List Str} {sc : SC} {W : WX}

/-! ### and, or, if as expressions -/
def eAnd (ma mb : EM) : EM := fun Γ st => (ma Γ st).bind fun d s => match d with | .bl true => mb Γ s | .bl false => .ok (.bl false) s | _ => .no
def eOr (ma mb : EM) : EM := fun Γ st => (ma Γ st).bind fun d s => match d with | .bl true => .ok (.bl true) s | .bl false => mb Γ s | _ => .no
def eNot (ma : EM) : EM := fun Γ st => (ma Γ st).bind fun d s => match d with | .bl b => .ok (.bl !b) s | _ => .no
def eIf (mc ma mb : EM) : EM := fun Γ st => (mc Γ st).bind fun d s => match d with | .bl true => ma Γ s | .bl false => mb Γ s | _ => .no
theorem rtt_and {ta tb : TT} {ma mb : EM} (ra : RTT K W ta ma) (rb : RTT K W tb mb) : RTT K W (tAnd ta tb) (eAnd ma mb) := by
  intro H0 w Γ σ ok f Q q
  refine ra.use ok f (P := fun w r => PostT K w r Q (at_ W σ)) (fun _ _ e k p => p.shift e k) (fun _ _ p => p) (fun p => p) (fun d st hb => by cases d <;> first | rfl | exact absurd rfl (hb _)) q fun b w1 e1 k1 f1 p1 => ?_
  cases b with
  | true => exact iteT (rb H0 w1 Γ σ k1 f1 Q p1)
  | false => exact iteF (p1.now k1)
theorem rtt_or {ta tb : TT} {ma mb : EM} (ra : RTT K W ta ma) (rb : RTT K W tb mb) : RTT K W (tOr ta tb) (eOr ma mb) := by
  intro H0 w Γ σ ok f Q q
  refine ra.use ok f (P := fun w r => PostT K w r Q (at_ W σ)) (fun _ _ e k p => p.shift e k) (fun _ _ p => p) (fun p => p) (fun d st hb => by cases d <;> first | rfl | exact absurd rfl (hb _)) q fun b w1 e1 k1 f1 p1 => ?_
  cases b with
  | true => exact iteT (p1.now k1)
  | false => exact iteF (rb H0 w1 Γ σ k1 f1 Q p1)
theorem pw_and1' {a : Expr} {ma : EM} {pos : Pos} (h : PTt P wd K mg base k N sc W a ma) : PWt P wd K mg base k N sc W (.BoolOp .And [a] pos) ma := let ⟨t, p, r⟩ := h; ⟨t, fun X g => pw_and1 (p X g), r⟩
theorem pw_or1' {a : Expr} {ma : EM} {pos : Pos} (h : PTt P wd K mg base k N sc W a ma) : PWt P wd K mg base k N sc W (.BoolOp .Or [a] pos) ma := let ⟨t, p, r⟩ := h; ⟨t, fun X g => pw_or1 (p X g), r⟩
theorem pw_and' {a b : Expr} {rest : List Expr} {ma mb : EM} {pos : Pos} (h : PTt P wd K mg base k N sc W a ma) (h' : PWt P wd K mg base k N sc W (.BoolOp .And (b :: rest) pos) mb) : PWt P wd K mg base k N sc W (.BoolOp .And (a :: b :: rest) pos) (eAnd ma mb) :=
  let ⟨_, p, r⟩ := h; let ⟨_, p', r'⟩ := h'; ⟨_, fun X g => pw_and (p X g) (p' X g), rtt_and r r'⟩
theorem pw_or' {a b : Expr} {rest : List Expr} {ma mb : EM} {pos : Pos} (h : PTt P wd K mg base k N sc W a ma) (h' : PWt P wd K mg base k N sc W (.BoolOp .Or (b :: rest) pos) mb) : PWt P wd K mg base k N sc W (.BoolOp .Or (a :: b :: rest) pos) (eOr ma mb) :=
  let ⟨_, p, r⟩ := h; let ⟨_, p', r'⟩ := h'; ⟨_, fun X g => pw_or (p X g) (p' X g), rtt_or r r'⟩
theorem pt_w {e : Expr} {m : EM} (h : PWt P wd K mg base k N sc W e m) : PTt P wd K mg base k N sc W e m := let ⟨t, p, r⟩ := h; ⟨t, fun X g => (p X g).pt, r⟩
theorem pt_not'' {e : Expr} {m : EM} {pos : Pos} (h : PTt P wd K mg base k N sc W e m) : PTt P wd K mg base k N sc W (.UnaryOp .Not e pos) (eNot m) := pt_not' h
/-- and, or as values -/
theorem pr_one {op : BoolOp} {a : Expr} {ma : EM} {pos : Pos} (h : PR P wd K mg base k N sc W a ma) : PR P wd K mg base k N sc W (.BoolOp op [a] pos) ma := let ⟨t, p, r⟩ := h; ⟨t, fun X g => pe_one (p X g), r⟩
theorem rt_and {ta tb : TE} {ma mb : EM} (ra : RT K W ta ma) (rb : RT K W tb mb) : RT K W (tAndV ta tb) (eAnd ma mb) := by
  intro H0 w Γ σ ok f Q q
  refine ra.use ok f (P := fun w r => PostE K w r Q (at_ W σ)) (fun _ _ e k p => p.shift e k) (fun _ _ p => p) (fun p => p) q fun d v w1 e1 k1 f1 r p1 => ?_
  cases r with
  | @bl b =>
    refine ⟨b, rfl, ?_⟩
    cases b with
    | true => exact iteT (rb H0 w1 Γ σ k1 f1 Q p1)
    | false => exact iteF (p1.now k1 .bl)
  | _ => exact p1.elim
theorem rt_not {ta : TE} {ma : EM} (ra : RT K W ta ma) : RT K W (tNotV ta) (eNot ma) := by
  intro H0 w Γ σ ok f Q q
  refine ra.use ok f (P := fun w r => PostE K w r Q (at_ W σ)) (fun _ _ e k p => p.shift e k) (fun _ _ p => p) (fun p => p) q fun d v w1 e1 k1 f1 r p1 => ?_
  cases r with
  | @bl b => exact ⟨b, rfl, p1.now k1 .bl⟩
  | _ => exact p1.elim
theorem pr_and {a b : Expr} {rest : List Expr} {ma mb : EM} {pos : Pos} (h : PR P wd K mg base k N sc W a ma) (h' : PR P wd K mg base k N sc W (.BoolOp .And (b :: rest) pos) mb) : PR P wd K mg base k N sc W (.BoolOp .And (a :: b :: rest) pos) (eAnd ma mb) :=
  let ⟨_, p, r⟩ := h; let ⟨_, p', r'⟩ := h'; ⟨_, fun X g => pe_and (p X g) (p' X g), rt_and r r'⟩
theorem pr_not {a : Expr} {ma : EM} {pos : Pos} (h : PR P wd K mg base k N sc W a ma) : PR P wd K mg base k N sc W (.UnaryOp .Not a pos) (eNot ma) :=
  let ⟨_, p, r⟩ := h; ⟨_, fun X g => pe_not (p X g), rt_not r⟩
theorem pr_if {c a b : Expr} {mc ma mb : EM} {pos : Pos} (hc : PTt P wd K mg base k N sc W c mc) (ha : PR P wd K mg base k N sc W a ma) (hb : PR P wd K mg base k N sc W b mb) : PR P wd K mg base k N sc W (.IfExp c a b pos) (eIf mc ma mb) := by
  obtain ⟨tc, pc, rc⟩ := hc
  obtain ⟨ta, pa, ra⟩ := ha
  obtain ⟨tb, pb, rb⟩ := hb
  refine ⟨_, fun X g => pe_ifExp (pc X g) (pa X g) (pb X g), ?_⟩
  intro H0 w Γ σ ok f Q q
  refine RTT.use (P := fun w r => PostE K w r Q (at_ W σ)) rc ok f (fun _ _ e k p => p.shift e k) (fun _ _ p => p) (fun p => p) (fun d st hb => by cases d <;> first | rfl | exact absurd rfl (hb _)) q fun b w1 e1 k1 f1 p1 => ?_
  cases b with
  | true => exact iteT (ra H0 w1 Γ σ k1 f1 Q p1)
  | false => exact iteF (rb H0 w1 Γ σ k1 f1 Q p1)

/-! ### arguments, displays, calls -/
def eNil : EM := fun _ st => .ok (.tup []) st
def eCons (ma mr : EM) : EM := fun Γ st => (ma Γ st).bind fun d s => (mr Γ s).bind fun r s2 => match r with | .tup ds => .ok (.tup (d :: ds)) s2 | _ => .no
theorem pa_nil' : PAr P wd K mg base k N sc W [] eNil := ⟨_, fun X g => pa_nil, fun H0 w Γ σ ok f Q p => p [] w (Evo.refl w) ok rfl .nil⟩
theorem pa_cons' {e : Expr} {es : List Expr} {ma mr : EM} (ha : PR P wd K mg base k N sc W e ma) (hr : PAr P wd K mg base k N sc W es mr) (hs : ∀ env, starEach (e :: es) env = (false, eval e env) :: starEach es env := by intro _; rfl) :
    PAr P wd K mg base k N sc W (e :: es) (eCons ma mr) := by
  obtain ⟨ta, pa, ra⟩ := ha
  obtain ⟨tr, pr, rr⟩ := hr
  refine ⟨_, fun X g => pa_cons (pa X g) (pr X g) (hs X.env), ?_⟩
  intro H0 w Γ σ ok f Q q
  refine RT.use (P := fun w r => PostA K w r Q (at_ W σ)) ra ok f (fun _ _ e k p => p.shift e k) (fun _ _ p => p) (fun p => p) q fun d v w1 e1 k1 f1 r p1 => ?_
  refine RTA.use (P := fun w r => PostA K w r Q (at_ W σ)) rr k1 f1 (fun _ _ e k p => p.shift e k) (fun _ _ p => p) (fun p => p) (fun d st hb => by cases d <;> first | rfl | exact absurd rfl (hb _)) p1 fun ds vs w2 e2 k2 f2 r2 p2 => ?_
  exact p2 (v :: vs) w2 (Evo.refl w2) k2 rfl (.cons (r.evo e2) r2)
def eTup (ms : EM) : EM := fun Γ st => (ms Γ st).bind fun d s => match d with | .tup ds => if ds.length ≤ 16777216 then .ok (.tup ds) s else .no | _ => .no
def eLst (ms : EM) : EM := fun Γ st => (ms Γ st).bind fun d s => match d with | .tup ds => if ds.length ≤ 16777216 then .ok (.lst ds) s else .no | _ => .no
theorem pr_tup {es : List Expr} {ms : EM} {x1 : Nat} {pos : Pos} (h : PAr P wd K mg base k N sc W es ms) : PR P wd K mg base k N sc W (.Tuple es x1 pos) (eTup ms) := by
  obtain ⟨t, p, r⟩ := h
  refine ⟨_, fun X g => pe_tup (p X g), ?_⟩
  intro H0 w Γ σ ok f Q q
  refine RTA.use (P := fun w r => PostE K w r Q (at_ W σ)) r ok f (fun _ _ e k p => p.shift e k) (fun _ _ p => p) (fun p => p) (fun d st hb => by cases d <;> first | rfl | exact absurd rfl (hb _)) q fun ds vs w1 e1 k1 f1 r1 p1 => ?_
  simp only at p1
  split at p1
  · rename_i hl
    exact ⟨by rw [r1.1, sizeLine_eq]; exact hl, fun a ha => p1.tup rfl k1 r1 a ha⟩
  · exact p1.elim
theorem pr_lst {es : List Expr} {ms : EM} {pos : Pos} (h : PAr P wd K mg base k N sc W es ms) : PR P wd K mg base k N sc W (.List es pos) (eLst ms) := by
  obtain ⟨t, p, r⟩ := h
  refine ⟨_, fun X g => pe_lst (p X g), ?_⟩
  intro H0 w Γ σ ok f Q q
  refine RTA.use (P := fun w r => PostE K w r Q (at_ W σ)) r ok f (fun _ _ e k p => p.shift e k) (fun _ _ p => p) (fun p => p) (fun d st hb => by cases d <;> first | rfl | exact absurd rfl (hb _)) q fun ds vs w1 e1 k1 f1 r1 p1 => ?_
  simp only at p1
  split at p1
  · rename_i hl
    exact ⟨by rw [r1.1, sizeLine_eq]; exact hl, fun a ha => p1.lst rfl k1 r1 a ha⟩
  · exact p1.elim

/-- a def of data: what it does of its arguments and the store -/
abbrev DF := List D → Store → ER
def spD (K : PySem.W.Frag) (F : DF) : Sp := fun vs H Q E => ∃ (w : Wd) (ds : List D), w.H = H ∧ Ok K w ∧ RepL K w vs ds ∧ PostE K w (F ds w.st) Q E
structure Fn (P : Program) (wd : World) (K : PySem.W.Frag) (mg : Str → Option Value) (base : Heap) (k : Nat) (x : Str) (F : DF) : Prop where
  ex : ∃ (f : Addr) (fd : FuncData) (ps : List Str), FnG P wd K mg base k f fd ps (spD K F) ∧ mg x = some (.ref f) ∧ PySem.W.keepIn K (.ref f) = true ∧ Binds K fd ps []
def eCall (F : DF) (ms : EM) : EM := fun Γ st => (ms Γ st).bind fun d s => match d with | .tup ds => F ds s | _ => .no
theorem rt_call {F : DF} {t : TA} {ms : EM} (r : RTA K W t ms) : RT K W (tCallS (spD K F) (WE W) t) (eCall F ms) := by
  intro H0 w Γ σ ok f Q q
  refine RTA.use (P := fun w r => PostE K w r Q (at_ W σ)) r ok f (fun _ _ e k p => p.shift e k) (fun _ _ p => p) (fun p => p) (fun d st hb => by cases d <;> first | rfl | exact absurd rfl (hb _)) q fun ds vs w1 e1 k1 f1 r1 p1 => ?_
  exact ⟨w1, ds, rfl, k1, r1, p1⟩
theorem pr_call {j : Nat} {x : Str} {F : DF} {e : Expr} {es : List Expr} {ms : EM} {p pos : Pos} (c : Fn P wd K mg base j x F) (ha : PAr P wd K mg base k N sc W (e :: es) ms) (hk : j ≤ k := by decide) (hg : sc.s.names.lookup x = some .globalImplicit := by rfl)
    (hdb : (x == ("__debug__" : Str)) = false := by decide) (he : ∀ env, starEach (e :: es) env = (false, eval e env) :: starEach es env := by intro _; rfl) (hpl : ∀ env, (backTo pos (starEach es env)).any (·.1) = false := by intro _; rfl) :
    PR P wd K mg base k N sc W (.Call (.Name x p) (e :: es) [] pos) (eCall F ms) := by
  obtain ⟨f, fd, ps, F1, hm, hk1, hb⟩ := c.ex
  obtain ⟨t, pt, r⟩ := ha
  refine ⟨_, fun X g => ?_, rt_call r⟩
  have pa := pt X g
  obtain ⟨rfl, rfl, rfl, rfl, rfl, rfl, hsc, hc, hr, hgd, tk, _, _⟩ := g
  refine ⟨fun pins s σ H Q I want => ?_⟩
  have gl : Gl X x := by unfold Gl PySem.Env.kindOf; rw [hsc]; exact hg
  refine wpAny_Call_Name_kw (ld_glob (Q := _) I gl hm ?_ hdb)
  refine PySem.W.callWith_K (h₀ := X.base) I.ok.mod.kin hk1 (thn (pa.run pos pins s σ H _ I want) ?_) (he X.env) (hpl X.env)
  rintro us s1 ⟨vs, H1, I1, r1, q⟩
  refine ⟨I1.kIn, wpAny_call ?_⟩
  have hl : us.length = ps.length := by rw [← r1.length]; exact F1.len _ _ _ _ q
  have bd := hb s1 us I1.kIn (by rw [List.append_nil]; exact hl)
  rw [List.append_nil] at bd
  exact call_g (E := WE W) F1 ⟨hr.mono hk, hgd⟩ ⟨[] ++ us, []⟩ bd (passAt tk σ) I1 r1 q (fun _ _ z => z) fun _ _ z => z
end
end DL
namespace DL
open PySem L2
section
variable {P : Program} {wd : World} {K : PySem.W.Frag} {mg : Str → Option Value} {base : Heap} {k : Nat} {N : List Str} {sc : SC} {W : WX}

/-! ### statements -/
def sSkip : SM := fun Γ st => .nx Γ st
def sSeq (a b : SM) : SM := fun Γ st => (a Γ st).bind b
def sDrop (m : EM) : SM := fun Γ st => (m Γ st).bs Γ fun _ s => .nx Γ s
def sRet (m : EM) : SM := fun Γ st => (m Γ st).bs Γ fun d s => .ret d s
def sRetN : SM := fun _ st => .ret .non st
def sIf (c : EM) (a b : SM) : SM := fun Γ st => (c Γ st).bs Γ fun d s => match d with | .bl true => a Γ s | .bl false => b Γ s | _ => .no
def sAsg (i : Nat) (m : EM) : SM := fun Γ st => (m Γ st).bs Γ fun d s => .nx (Γ.set i (.sh d)) s
def sBreak : SM := fun Γ st => .bk Γ st
def sCont : SM := fun Γ st => .ct Γ st

theorem fr_set {H0 : Hp} {w : Wd} {Γ : DEnv} {σ : L2.St} (f : Fr K H0 w Γ σ) {v : V} {d : D} (r : Rep K w v d) (i : Nat) : Fr K H0 w (Γ.set i (.sh d)) (σ.set i (some v)) where
  len := by simp [f.len]
  sh := fun j e h => by
    by_cases q : i = j
    · subst q
      have hl : i < Γ.length := by have := (List.getElem?_eq_some_iff.mp h).1; simpa using this
      rw [List.getElem?_set_self hl] at h
      cases h
      exact ⟨v, List.getElem?_set_self (by rw [f.len]; exact hl), r⟩
    · rw [List.getElem?_set_ne q] at h ⊢; exact f.sh j e h
  ow := fun j e h => by
    by_cases q : i = j
    · subst q
      have hl : i < Γ.length := by have := (List.getElem?_eq_some_iff.mp h).1; simpa using this
      rw [List.getElem?_set_self hl] at h
      cases h
    · rw [List.getElem?_set_ne q] at h ⊢; exact f.ow j e h
  dj := fun a b d1 d2 x ne h1 h2 h3 h4 => by
    have na : i ≠ a := fun q => by
      subst q
      have hl : i < Γ.length := by have := (List.getElem?_eq_some_iff.mp h1).1; simpa using this
      rw [List.getElem?_set_self hl] at h1; cases h1
    have nb : i ≠ b := fun q => by
      subst q
      have hl : i < Γ.length := by have := (List.getElem?_eq_some_iff.mp h2).1; simpa using this
      rw [List.getElem?_set_self hl] at h2; cases h2
    rw [List.getElem?_set_ne na] at h1 h3
    rw [List.getElem?_set_ne nb] at h2 h4
    exact f.dj a b d1 d2 x ne h1 h2 h3 h4

theorem ps_nil' : PSl P wd K mg base k N sc W [] sSkip := ⟨_, fun X g => pss_nil, fun w0 w Γ σ e ok f D p => p w σ e (Ext.refl w) ok rfl f⟩
theorem rts_seq {t u : TS} {a b : SM} (ra : RTS K W t a) (rb : RTS K W u b) : RTS K W (tSeq t u) (sSeq a b) := by
  intro w0 w Γ σ e0 ok f Dn p
  refine ra w0 w Γ σ e0 ok f _ ?_
  have p' : PostS K w0 w ((a Γ w.st).bind b) Dn W := p
  cases h : a Γ w.st with
  | nx Γ' st' => rw [h] at p'; exact fun w' σ' e1 x1 k1 s1 f1 => rb w0 w' Γ' σ' e1 k1 f1 Dn (by rw [s1]; exact p'.shift x1)
  | ret d st' => rw [h] at p'; exact p'
  | bk Γ' st' => rw [h] at p'; exact p'
  | ct Γ' st' => rw [h] at p'; exact p'
  | err x Γ' st' => rw [h] at p'; exact p'
  | no => rw [h] at p'; exact p'
theorem ps_cons' {s : Stmt} {ss : List Stmt} {a b : SM} (ha : PSt P wd K mg base k N sc W s a) (hb : PSl P wd K mg base k N sc W ss b) : PSl P wd K mg base k N sc W (s :: ss) (sSeq a b) :=
  let ⟨_, p, r⟩ := ha; let ⟨_, p', r'⟩ := hb; ⟨_, fun X g => pss_cons (p X g) (p' X g), rts_seq r r'⟩
theorem ps_one' {s : Stmt} {a : SM} (ha : PSt P wd K mg base k N sc W s a) : PSl P wd K mg base k N sc W [s] a := let ⟨_, p, r⟩ := ha; ⟨_, fun X g => pss_one (p X g), r⟩
theorem ps_ret' {e : Expr} {m : EM} {pos : Pos} (h : PR P wd K mg base k N sc W e m) : PSt P wd K mg base k N sc W (.Return (some e) pos) (sRet m) := by
  obtain ⟨t, p, r⟩ := h
  refine ⟨_, fun X g => ps_ret (p X g), ?_⟩
  intro w0 w Γ σ e0 ok f Dn q
  exact r.useS e0 ok f q fun d v w1 e1 k1 f1 r1 x1 p1 => p1 v w1 e1 k1 rfl r1
theorem ps_if' {c : Expr} {a b : List Stmt} {mc : EM} {ma mb : SM} {pos : Pos} (hc : PTt P wd K mg base k N sc W c mc) (ha : PSl P wd K mg base k N sc W a ma) (hb : PSl P wd K mg base k N sc W b mb) : PSt P wd K mg base k N sc W (.If c a b pos) (sIf mc ma mb) := by
  obtain ⟨tc, pc, rc⟩ := hc
  obtain ⟨ta, pa, ra⟩ := ha
  obtain ⟨tb, pb, rb⟩ := hb
  refine ⟨_, fun X g => ps_if (pc X g) (pa X g) (pb X g), ?_⟩
  intro w0 w Γ σ e0 ok f Dn q
  refine rc.useS e0 ok f q (fun d st hb => by cases d <;> first | rfl | exact absurd rfl (hb _)) fun b w1 e1 k1 f1 x1 p1 => ?_
  cases b with
  | true => exact iteT (ra w0 w1 Γ σ e1 k1 f1 Dn p1)
  | false => exact iteF (rb w0 w1 Γ σ e1 k1 f1 Dn p1)
theorem ps_asg' (i : Nat) {x : Str} {e : Expr} {m : EM} {pos pos' : Pos} (nd : N.Nodup) (h : PR P wd K mg base k N sc W e m) (hi : N[i]? = some x := by rfl) (hx : Loc sc.s x := by first | exact Or.inl rfl | exact Or.inr rfl) (hf : sc.fn x = true ∨ sc.s.names.lookup x = some .local := by first | exact Or.inl rfl | exact Or.inr rfl)
    (hs : ∀ env, swapsWith e (some (.Name x pos')) pos.line env = pure false := by intro _; rfl) (hw : ∀ env, swappedStores [.Name x pos'] e env = pure none := by intro _; rfl) (hn : ∀ env, swapsWithSole [.Name x pos'] e pos.line env = pure false := by intro _; rfl) :
    PSt P wd K mg base k N sc W (.Assign [.Name x pos'] e pos) (sAsg i m) := by
  obtain ⟨t, p, r⟩ := h
  refine ⟨tAsg t (gName i), fun X g => ps_asg (p X g) (pg_name (by rw [g.nn]; exact nd) (by rw [g.nn]; exact hi) (by rw [g.scp]; exact hx) ?_) (hn X.env) (hw X.env), ?_⟩
  · rw [g.fnc, g.scp]; exact hf
  intro w0 w Γ σ e0 ok f Dn q
  exact r.useS e0 ok f q fun d v w1 e1 k1 f1 r1 x1 p1 => p1 w1 _ e1 (Ext.refl w1) k1 rfl (fr_set f1 r1 i)

/-! ### a def -/
def initE (N : List Str) (ds : List D) : DEnv := ds.map Sl.sh ++ List.replicate (N.length - ds.length) Sl.no
def fin (r : SR) : ER := match r with
  | .nx _ st => .ok .non st
  | .ret d st => .ok d st
  | .err x _ st => .err x st
  | _ => .no
def run (N ps : List Str) (m : SM) : DF := fun ds st => if ds.length = ps.length then fin (m (initE N ds) st) else .no
theorem fr_init {w : Wd} {vs : List V} {ds : List D} (r : RepL K w vs ds) (N : List Str) : Fr K w.H w (initE N ds) (L2.start N vs) where
  len := by simp [initE, L2.start, r.1]
  sh := fun i d h => by
    unfold initE at h
    unfold L2.start
    by_cases q : i < ds.length
    · rw [List.getElem?_append_left (by simpa using q), List.getElem?_map] at h
      cases e : ds[i]? with
      | none => rw [e] at h; cases h
      | some d' =>
        rw [e] at h
        cases h
        obtain ⟨v, hv, rv⟩ := r.get e
        refine ⟨v, ?_, rv⟩
        rw [List.getElem?_append_left (by simpa [r.1] using q), List.getElem?_map, hv]
        all_goals rfl
    · rw [List.getElem?_append_right (by simpa using q)] at h
      have := List.mem_of_getElem? h
      simp at this
  ow := fun i d h => by
    unfold initE at h
    have := List.mem_of_getElem? h
    simp at this
  dj := fun i j d e a ne h => by
    unfold initE at h
    have := List.mem_of_getElem? h
    simp at this
/-- a def keeps its promise: it does what its body does of the data -/
theorem def_ok {x qual : Str} {st : Stmt} {f : Addr} {fd : FuncData} {ps : List Str} {m : SM} (F : Fun K x qual st f fd) (S : FnScope N ps (defScope st)) (h : ∀ W : WX, PSl P wd K mg base k N ⟨defScope st, fun _ => true, none⟩ W (defBody st) m) :
    FnG P wd K mg base (k + 1) f fd ps (spD K (run N ps m)) := by
  refine FnG.mk' F S (fun vs H Q E h => ?_) (fun cdv A outer s H vs Q E _ hr h' => ?_)
  · obtain ⟨w, ds, rfl, ok, r, p⟩ := h
    unfold run at p
    split at p
    · rename_i q; rw [r.1, q]
    · exact p.elim
  · obtain ⟨w, ds, rfl, ok, r, p⟩ := h'
    unfold run at p
    split at p
    · obtain ⟨t, pt, rt⟩ := h (fun cls d _ H => E cls d H)
      refine ⟨t, pt _ ⟨rfl, rfl, rfl, rfl, rfl, rfl, rfl, rfl, hr.1, hr.2, takes_of rfl rfl rfl rfl, passes_of rfl, rfl, (fun _ _ h => nomatch h), fun _ => ⟨rfl, rfl, rfl⟩⟩, ?_⟩
      refine rt w w _ _ (Evo.refl w) ok (fr_init r N) _ ?_
      cases e : m (initE N ds) w.st with
      | nx Γ st' => rw [e] at p; exact fun w' σ e1 x1 k1 s1 f1 => p .non w' e1 k1 s1 .non
      | ret d st' => rw [e] at p; exact fun v w' e1 k1 s1 r1 => p v w' e1 k1 s1 r1
      | err x Γ st' => rw [e] at p; exact fun c dd w' σ e1 x1 k1 s1 f1 r1 => p c dd w' e1 k1 s1 r1
      | bk Γ st' => rw [e] at p; exact p.elim
      | ct Γ st' => rw [e] at p; exact p.elim
      | no => rw [e] at p; exact p.elim
    · exact p.elim
end
end DL
namespace DL
open PySem L2

theorem PostE.ite {K : PySem.W.Frag} {w : Wd} {c : Prop} [Decidable c] {r : ER} {Q : VK} {E : XK} (p : PostE K w (if c then r else .no) Q E) : c ∧ PostE K w r Q E := by
  by_cases h : c
  · rw [if_pos h] at p; exact ⟨h, p⟩
  · rw [if_neg h] at p; exact p.elim
/-! ### arithmetic -/
def oAdd : D → D → Store → ER
  | .int i, .int j, st => .ok (.int (i + j)) st
  | .str a, .str b, st => if a.length + b.length ≤ 16777216 then .ok (.str (a ++ b)) st else .no
  | .lst a, .lst b, st => if a.length + b.length ≤ 16777216 then .ok (.lst (a ++ b)) st else .no
  | _, _, _ => .no
def oSub : D → D → Store → ER
  | .int i, .int j, st => .ok (.int (i - j)) st
  | _, _, _ => .no
def oMul : D → D → Store → ER
  | .int i, .int j, st => if (-18446744073709551616 < i ∧ i < 18446744073709551616) ∨ (-18446744073709551616 < j ∧ j < 18446744073709551616) then .ok (.int (i * j)) st else .no
  | _, _, _ => .no
def oFdiv : D → D → Store → ER
  | .int i, .int j, st => if 0 < j ∧ j < 1073741824 then .ok (.int (i / j)) st else .no
  | _, _, _ => .no
def oMod : D → D → Store → ER
  | .int i, .int j, st => if 0 < j then .ok (.int (i % j)) st else .no
  | _, _, _ => .no
def oPow : D → D → Store → ER
  | .int i, .int j, st => if 0 ≤ j ∧ j ≤ 1000000 ∧ i.natAbs < 18446744073709551616 then .ok (.int (i ^ j.toNat)) st else .no
  | _, _, _ => .no
def oLt : D → D → Store → ER
  | .int i, .int j, st => .ok (.bl (decide (i < j))) st
  | .str a, .str b, st => .ok (.bl (decide (a.cps.toList < b.cps.toList))) st
  | _, _, _ => .no
def oGt : D → D → Store → ER
  | .int i, .int j, st => .ok (.bl (decide (j < i))) st
  | .str a, .str b, st => .ok (.bl (decide (b.cps.toList < a.cps.toList))) st
  | _, _, _ => .no
def oLe : D → D → Store → ER
  | .int i, .int j, st => .ok (.bl (decide (i ≤ j))) st
  | .str a, .str b, st => .ok (.bl (!decide (b.cps.toList < a.cps.toList))) st
  | _, _, _ => .no
def oGe : D → D → Store → ER
  | .int i, .int j, st => .ok (.bl (decide (j ≤ i))) st
  | .str a, .str b, st => .ok (.bl (!decide (a.cps.toList < b.cps.toList))) st
  | _, _, _ => .no
def oIsN : D → D → Store → ER
  | .non, .non, st => .ok (.bl true) st
  | _, .non, st => .ok (.bl false) st
  | _, _, _ => .no
def oNotN : D → D → Store → ER
  | .non, .non, st => .ok (.bl false) st
  | _, .non, st => .ok (.bl true) st
  | _, _, _ => .no

section
variable {P : Program} {wd : World} {K : PySem.W.Frag} {mg : Str → Option Value} {base : Heap} {k : Nat} {N : List Str} {sc : SC} {W : WX}
def rOr (r r' : R2) : R2 := fun x y H Q => r x y H Q ∨ r' x y H Q
theorem OpR.or' {X : Cx} {f : Value → Value → Sem Value} {r r' : R2} (h : OpR X f r) (h' : OpR X f r') : OpR X f (rOr r r') := OpR.or h h'
theorem pr_add {a b : Expr} {ma mb : EM} {pos : Pos} (ha : PB P wd K mg base k N sc W a ma) (hb : PB P wd K mg base k N sc W b mb) : PR P wd K mg base k N sc W (.BinOp a .Add b pos) (eOp oAdd ma mb) :=
  pr_op (fun X g => OpR.or' op_add (OpR.or' op_add_str op_cat)) (fun w x y dx dy Q E k vx vy p => by
    cases dx <;> cases dy <;> try exact p.elim
    case int.int i j => obtain rfl := vx; obtain rfl := vy; exact .inl ⟨i, j, rfl, rfl, p.now k .int⟩
    case str.str a b => obtain rfl := vx; obtain rfl := vy; obtain ⟨h, p⟩ := PostE.ite p; exact .inr (.inl ⟨a, b, rfl, rfl, by rw [sizeLine_eq]; exact h, p.now k .str⟩)
    case lst.lst a b =>
      obtain ⟨p1, vs, rfl, h1, r1⟩ := vx; obtain ⟨p2, us, rfl, h2, r2⟩ := vy
      obtain ⟨h, p⟩ := PostE.ite p
      exact .inr (.inr ⟨p1, p2, vs, us, rfl, rfl, h1, h2, by rw [sizeLine_eq, r1.1, r2.1]; exact h, fun c hc => p.lst rfl k (r1.append r2) c hc⟩)) ha hb
theorem pr_fdiv {a b : Expr} {ma mb : EM} {pos : Pos} (ha : PB P wd K mg base k N sc W a ma) (hb : PB P wd K mg base k N sc W b mb) : PR P wd K mg base k N sc W (.BinOp a .FloorDiv b pos) (eOp oFdiv ma mb) :=
  pr_op (fun X g => op_fdiv) (fun w x y dx dy Q E k vx vy p => by
    cases dx <;> cases dy <;> try exact p.elim
    case int.int i j => obtain rfl := vx; obtain rfl := vy; obtain ⟨h, p⟩ := PostE.ite p; exact ⟨i, j, rfl, rfl, h, p.now k .int⟩) ha hb
theorem pr_mod {a b : Expr} {ma mb : EM} {pos : Pos} (ha : PB P wd K mg base k N sc W a ma) (hb : PB P wd K mg base k N sc W b mb) : PR P wd K mg base k N sc W (.BinOp a .Mod b pos) (eOp oMod ma mb) :=
  pr_op (fun X g => op_mod) (fun w x y dx dy Q E k vx vy p => by
    cases dx <;> cases dy <;> try exact p.elim
    case int.int i j => obtain rfl := vx; obtain rfl := vy; obtain ⟨h, p⟩ := PostE.ite p; exact ⟨i, j, rfl, rfl, h, p.now k .int⟩) ha hb
theorem pr_pow {a b : Expr} {ma mb : EM} {pos : Pos} (ha : PB P wd K mg base k N sc W a ma) (hb : PB P wd K mg base k N sc W b mb) : PR P wd K mg base k N sc W (.BinOp a .Pow b pos) (eOp oPow ma mb) :=
  pr_op (fun X g => op_pow) (fun w x y dx dy Q E k vx vy p => by
    cases dx <;> cases dy <;> try exact p.elim
    case int.int i j => obtain rfl := vx; obtain rfl := vy; obtain ⟨h, p⟩ := PostE.ite p; exact ⟨i, j, rfl, rfl, h, p.now k .int⟩) ha hb

/-! ### comparisons: the rule, what it wants of the data -/
theorem od_lt : OpD K (rOr (rI0 fun i j => .bl (decide (i < j))) (fun x y H Q => ∃ i j, x = .str i ∧ y = .str j ∧ Q (.bl (decide (i.cps.toList < j.cps.toList))) H)) oLt := fun w x y dx dy Q E k vx vy p => by
  cases dx <;> cases dy <;> try exact p.elim
  case int.int i j => obtain rfl := vx; obtain rfl := vy; exact .inl ⟨i, j, rfl, rfl, p.now k .bl⟩
  case str.str i j => obtain rfl := vx; obtain rfl := vy; exact .inr ⟨i, j, rfl, rfl, p.now k .bl⟩
theorem od_gt : OpD K (rOr (rI0 fun i j => .bl (decide (j < i))) (fun x y H Q => ∃ i j, x = .str i ∧ y = .str j ∧ Q (.bl (decide (j.cps.toList < i.cps.toList))) H)) oGt := fun w x y dx dy Q E k vx vy p => by
  cases dx <;> cases dy <;> try exact p.elim
  case int.int i j => obtain rfl := vx; obtain rfl := vy; exact .inl ⟨i, j, rfl, rfl, p.now k .bl⟩
  case str.str i j => obtain rfl := vx; obtain rfl := vy; exact .inr ⟨i, j, rfl, rfl, p.now k .bl⟩
theorem od_le : OpD K (rOr (rI0 fun i j => .bl (decide (i ≤ j))) (fun x y H Q => ∃ i j, x = .str i ∧ y = .str j ∧ Q (.bl (!decide (j.cps.toList < i.cps.toList))) H)) oLe := fun w x y dx dy Q E k vx vy p => by
  cases dx <;> cases dy <;> try exact p.elim
  case int.int i j => obtain rfl := vx; obtain rfl := vy; exact .inl ⟨i, j, rfl, rfl, p.now k .bl⟩
  case str.str i j => obtain rfl := vx; obtain rfl := vy; exact .inr ⟨i, j, rfl, rfl, p.now k .bl⟩
theorem od_ge : OpD K (rOr (rI0 fun i j => .bl (decide (j ≤ i))) (fun x y H Q => ∃ i j, x = .str i ∧ y = .str j ∧ Q (.bl (!decide (i.cps.toList < j.cps.toList))) H)) oGe := fun w x y dx dy Q E k vx vy p => by
  cases dx <;> cases dy <;> try exact p.elim
  case int.int i j => obtain rfl := vx; obtain rfl := vy; exact .inl ⟨i, j, rfl, rfl, p.now k .bl⟩
  case str.str i j => obtain rfl := vx; obtain rfl := vy; exact .inr ⟨i, j, rfl, rfl, p.now k .bl⟩
theorem Vw.nn {w : Wd} {x : V} {dx : D} (v : Vw K w x dx) : decide (x = .non) = (match dx with | .non => true | _ => false) := by
  cases dx with
  | non => obtain rfl := v; rfl
  | bl b => obtain rfl := v; rfl
  | int b => obtain rfl := v; rfl
  | str b => obtain rfl := v; rfl
  | ty b => obtain rfl := v; rfl
  | cls b => obtain rfl := v; rfl
  | opq => obtain ⟨_, rfl⟩ := v; rfl
  | tomb => obtain ⟨_, rfl⟩ := v; rfl
  | exc C xs => obtain ⟨_, _, rfl, _⟩ := v; rfl
  | tab n => obtain ⟨_, rfl⟩ := v; rfl
  | fn a c q => obtain ⟨rfl, _⟩ := v; rfl
  | tup xs => obtain ⟨_, _, rfl, _⟩ := v; rfl
  | lst xs => obtain ⟨_, _, rfl, _⟩ := v; rfl
  | dct xs => obtain ⟨_, _, rfl, _⟩ := v; rfl
  | ins C xs => obtain ⟨_, _, _, rfl, _⟩ := v; rfl
  | ref l => obtain ⟨rfl, _⟩ := v; rfl
  | scr ns => obtain ⟨_, rfl, _⟩ := v; rfl
theorem od_isN : OpD K (fun x y H Q => y = .non ∧ Q (.bl (decide (x = .non))) H) oIsN := fun w x y dx dy Q E k vx vy p => by
  have e := vx.nn
  cases dy <;> try (cases dx <;> exact p.elim)
  obtain rfl := vy
  show V.non = V.non ∧ Q (.bl (decide (x = .non))) w.H
  rw [e]
  refine ⟨rfl, ?_⟩
  cases dx <;> exact p.now k .bl
/-! ### data -/
mutual
def D.py : D → Option PyData
  | .non => some .none
  | .bl b => some (.bool b)
  | .int i => some (.int i)
  | .str x => some (.str x)
  | .lst xs => (D.pyL xs).map .list
  | .tup xs => (D.pyL xs).map .tuple
  | _ => none
def D.pyL : List D → Option (List PyData)
  | [] => some []
  | x :: xs => match D.py x, D.pyL xs with
    | some d, some ds => some (d :: ds)
    | _, _ => none
end
mutual
theorem rep_dp {w : Wd} (k : Ok K w) : ∀ (d : D) (v : V) (e : PyData), Rep K w v d → d.py = some e → Dp K w.H v e
  | .non, _, _, r, h => by cases r; cases h; exact .non
  | .bl b, _, _, r, h => by cases r; cases h; exact .bl b
  | .int i, _, _, r, h => by cases r; cases h; exact .int i
  | .str x, _, _, r, h => by cases r; cases h; exact .str x
  | .lst xs, _, _, r, h => by
    cases r with
    | lst m l z =>
      cases q : D.pyL xs with
      | none => simp [D.py, q] at h
      | some es =>
        simp only [D.py, q, Option.map_some, Option.some.injEq] at h
        subst h
        exact .lst (SqL.of (k.ex _ _ m)) (repL_dp k xs _ es ⟨l, z⟩ q)
  | .tup xs, _, _, r, h => by
    cases r with
    | tup m l z =>
      cases q : D.pyL xs with
      | none => simp [D.py, q] at h
      | some es =>
        simp only [D.py, q, Option.map_some, Option.some.injEq] at h
        subst h
        exact .tup (k.sqT m) (repL_dp k xs _ es ⟨l, z⟩ q)
  | .dct _, _, _, _, h => by simp [D.py] at h
  | .ins _ _, _, _, _, h => by simp [D.py] at h
  | .ref _, _, _, _, h => by simp [D.py] at h
  | .scr _, _, _, _, h => by simp [D.py] at h
  | .ty _, _, _, _, h => by simp [D.py] at h
  | .cls _, _, _, _, h => by simp [D.py] at h
  | .opq, _, _, _, h => by simp [D.py] at h
  | .tomb, _, _, _, h => by simp [D.py] at h
  | .exc _ _, _, _, _, h => by simp [D.py] at h
theorem repL_dp {w : Wd} (k : Ok K w) : ∀ (ds : List D) (vs : List V) (es : List PyData), RepL K w vs ds → D.pyL ds = some es → DpAll K w.H vs es
  | [], _, _, r, h => by rw [r.inv0]; simp only [D.pyL, Option.some.injEq] at h; subst h; exact .nil
  | d :: ds, _, _, r, h => by
    obtain ⟨v, vs, rfl, r1, r2⟩ := r.inv
    unfold D.pyL at h
    cases q1 : D.py d with
    | none => rw [q1] at h; cases h
    | some e =>
      cases q2 : D.pyL ds with
      | none => rw [q1, q2] at h; cases h
      | some es =>
        rw [q1, q2] at h
        cases h
        exact .cons (rep_dp k d v e r1 q1) (repL_dp k ds vs es r2 q2)
end
/-- .. read -/
theorem vw_dp {w : Wd} (k : Ok K w) {d : D} {v : V} {e : PyData} (r : Vw K w v d) (h : d.py = some e) : Dp K w.H v e := by
  cases d with
  | non => obtain rfl := r; cases h; exact .non
  | bl b => obtain rfl := r; cases h; exact .bl b
  | int i => obtain rfl := r; cases h; exact .int i
  | str x => obtain rfl := r; cases h; exact .str x
  | lst xs =>
    obtain ⟨a, vs, rfl, m, z⟩ := r
    cases q : D.pyL xs with
    | none => simp [D.py, q] at h
    | some es =>
      simp only [D.py, q, Option.map_some, Option.some.injEq] at h
      subst h
      exact .lst (SqL.of m) (repL_dp k xs _ es z q)
  | tup xs =>
    obtain ⟨a, vs, rfl, m, z⟩ := r
    cases q : D.pyL xs with
    | none => simp [D.py, q] at h
    | some es =>
      simp only [D.py, q, Option.map_some, Option.some.injEq] at h
      subst h
      exact .tup m (repL_dp k xs _ es z q)
  | _ => simp [D.py] at h
/-- scalars -/
def sclEq : D → D → Option Bool
  | .int i, .int j => some (decide (i = j))
  | .str i, .str j => some (decide (i = j))
  | .bl i, .bl j => some (decide (i = j))
  | .non, .non => some true
  | .non, .int _ => some false
  | .int _, .non => some false
  | .non, .bl _ => some false
  | .bl _, .non => some false
  | .non, .str _ => some false
  | .str _, .non => some false
  | .int _, .str _ => some false
  | .str _, .int _ => some false
  | .bl _, .str _ => some false
  | .str _, .bl _ => some false
  | _, _ => none
def pyEq (x y : D) : Option Bool := match x.py, y.py with
  | some a, some b => if SeqAt.shaped a = true ∧ SeqAt.shaped b = true then some (PyData.eqv a b) else none
  | _, _ => none
/-- are they equal (none: no rule) -/
def dEq (x y : D) : Option Bool := match sclEq x y with
  | some b => some b
  | none => pyEq x y
def oEq : D → D → Store → ER := fun x y st => match dEq x y with
  | some b => .ok (.bl b) st
  | none => .no
def oNe : D → D → Store → ER := fun x y st => match dEq x y with
  | some b => .ok (.bl !b) st
  | none => .no
theorem pyEq_inv {x y : D} {b : Bool} (h : pyEq x y = some b) : ∃ a c, x.py = some a ∧ y.py = some c ∧ SeqAt.shaped a = true ∧ SeqAt.shaped c = true ∧ b = PyData.eqv a c := by
  unfold pyEq at h
  split at h
  · rename_i a c ha hc
    split at h
    · rename_i q; cases h; exact ⟨a, c, ha, hc, q.1, q.2, rfl⟩
    · cases h
  · cases h
theorem sclEq_inv {w : Wd} {x y : V} {dx dy : D} {b : Bool} (vx : Vw K w x dx) (vy : Vw K w y dy) (h : sclEq dx dy = some b) : scal x y = true ∧ decide (x = y) = b := by
  cases dx <;> cases dy <;> cases h
  all_goals (obtain rfl := vx; obtain rfl := vy; refine ⟨rfl, ?_⟩; simp)
theorem od_eq : OpD K (rOr rEq (rEqD K)) oEq := fun w x y dx dy Q E k vx vy p => by
  unfold oEq dEq at p
  cases h : sclEq dx dy with
  | some b =>
    rw [h] at p
    obtain ⟨e1, e2⟩ := sclEq_inv vx vy h
    exact .inl ⟨e1, by rw [e2]; exact p.now k .bl⟩
  | none =>
    rw [h] at p
    dsimp only at p
    cases h2 : pyEq dx dy with
    | none => rw [h2] at p; exact p.elim
    | some b =>
      rw [h2] at p
      obtain ⟨a, c, ha, hc, sa, sc, rfl⟩ := pyEq_inv h2
      exact .inr ⟨a, c, vw_dp k vx ha, vw_dp k vy hc, sa, sc, p.now k .bl⟩
theorem od_ne : OpD K (rOr rNe (rNeD K)) oNe := fun w x y dx dy Q E k vx vy p => by
  unfold oNe dEq at p
  cases h : sclEq dx dy with
  | some b =>
    rw [h] at p
    obtain ⟨e1, e2⟩ := sclEq_inv vx vy h
    exact .inl ⟨e1, by rw [e2]; exact p.now k .bl⟩
  | none =>
    rw [h] at p
    dsimp only at p
    cases h2 : pyEq dx dy with
    | none => rw [h2] at p; exact p.elim
    | some b =>
      rw [h2] at p
      obtain ⟨a, c, ha, hc, sa, sc, rfl⟩ := pyEq_inv h2
      exact .inr ⟨a, c, vw_dp k vx ha, vw_dp k vy hc, sa, sc, p.now k .bl⟩
end
end DL
namespace DL
open PySem L2
section
variable {P : Program} {wd : World} {K : PySem.W.Frag} {mg : Str → Option Value} {base : Heap} {k : Nat} {N : List Str} {sc : SC} {W : WX}

/-! ### arguments that are read (of built-ins) -/
def DenL (K : PySem.W.Frag) (w : Wd) (Γ : DEnv) (σ : L2.St) (vs : List V) (ds : List D) : Prop := vs.length = ds.length ∧ ∀ (i : Nat) (v : V) (d : D), vs[i]? = some v → ds[i]? = some d → Den K w Γ σ v d
def VwL (K : PySem.W.Frag) (w : Wd) (vs : List V) (ds : List D) : Prop := vs.length = ds.length ∧ ∀ (i : Nat) (v : V) (d : D), vs[i]? = some v → ds[i]? = some d → Vw K w v d
theorem DenL.nil {w : Wd} {Γ : DEnv} {σ : L2.St} : DenL K w Γ σ [] [] := ⟨rfl, fun i v d h => by simp at h⟩
theorem DenL.cons {w : Wd} {Γ : DEnv} {σ : L2.St} {v : V} {d : D} {vs : List V} {ds : List D} (h : Den K w Γ σ v d) (t : DenL K w Γ σ vs ds) : DenL K w Γ σ (v :: vs) (d :: ds) := ⟨by simp [t.1], fun i a b p q => by
  cases i with
  | zero => simp at p q; subst p; subst q; exact h
  | succ i => simp at p q; exact t.2 i a b p q⟩
theorem DenL.vw {H0 : Hp} {w : Wd} {Γ : DEnv} {σ : L2.St} {vs : List V} {ds : List D} (k : Ok K w) (f : Fr K H0 w Γ σ) (h : DenL K w Γ σ vs ds) : VwL K w vs (ds.map (deref w.st)) := ⟨by simp [h.1], fun i v d a b => by
  rw [List.getElem?_map] at b
  cases e : ds[i]? with
  | none => rw [e] at b; cases b
  | some d' => rw [e] at b; cases b; exact (h.2 i v d' a e).vw k f⟩
theorem VwL.inv {w : Wd} {vs : List V} {d : D} {ds : List D} (h : VwL K w vs (d :: ds)) : ∃ v r, vs = v :: r ∧ Vw K w v d ∧ VwL K w r ds := by
  cases vs with
  | nil => simp [VwL] at h
  | cons v r => exact ⟨v, r, rfl, h.2 0 v d rfl rfl, by have := h.1; simpa using this, fun i a b p q => h.2 (i + 1) a b (by simpa using p) (by simpa using q)⟩
theorem VwL.inv0 {w : Wd} {vs : List V} (h : VwL K w vs []) : vs = [] := List.length_eq_zero_iff.mp h.1
theorem VwL.one {w : Wd} {vs : List V} {d : D} (h : VwL K w vs [d]) : ∃ v, vs = [v] ∧ Vw K w v d := by obtain ⟨v, r, rfl, a, b⟩ := h.inv; rw [b.inv0]; exact ⟨v, rfl, a⟩
theorem VwL.two {w : Wd} {vs : List V} {d e : D} (h : VwL K w vs [d, e]) : ∃ v u, vs = [v, u] ∧ Vw K w v d ∧ Vw K w u e := by obtain ⟨v, r, rfl, a, b⟩ := h.inv; obtain ⟨u, rfl, c⟩ := b.one; exact ⟨v, u, rfl, a, c⟩
def PostAB (K : PySem.W.Frag) (w : Wd) (Γ : DEnv) (σ : L2.St) (r : ER) (Q : List V → Hp → Prop) (W : XK) : Prop := match r with
  | .ok (.tup ds) st' => ∀ vs w', Evo w w' → Ok K w' → w'.st = st' → DenL K w' Γ σ vs ds → Q vs w'.H
  | .ok _ _ => False
  | .err x st' => ∀ c dd w', Evo w w' → Ok K w' → w'.st = st' → RepX K w' c dd x → W c dd w'.H
  | .no => False
theorem PostAB.shift {w w' : Wd} {Γ : DEnv} {σ : L2.St} (e : Evo w w') (k : Ok K w') {r : ER} {Q : List V → Hp → Prop} {E : XK} (p : PostAB K w Γ σ r Q E) : PostAB K w' Γ σ r Q E := by
  cases r with
  | ok d st =>
    cases d with
    | tup ds => exact fun v w2 e2 k2 s r => p v w2 (e.trans k e2) k2 s r
    | _ => exact p
  | err x st => exact fun c dd w2 e2 k2 s r => p c dd w2 (e.trans k e2) k2 s r
  | no => exact p
def RTAB (K : PySem.W.Frag) (W : WX) (t : TA) (m : EM) : Prop := ∀ (H0 : Hp) (w : Wd) (Γ : DEnv) (σ : L2.St), Ok K w → Fr K H0 w Γ σ → ∀ Q : List V → Hp → Prop, PostAB K w Γ σ (m Γ w.st) Q (at_ W σ) → t σ w.H Q
theorem RTAB.use {w : Wd} {H0 : Hp} {Γ : DEnv} {σ : L2.St} {t : TA} {m : EM} (h : RTAB K W t m) (k : Ok K w) (f : Fr K H0 w Γ σ) {Q : List V → Hp → Prop} {P : Wd → ER → Prop} {g : D → Store → ER}
    (sh : ∀ w' r, Evo w w' → Ok K w' → P w r → P w' r) (pe : ∀ x st, P w (.err x st) → PostAB K w Γ σ (.err x st) Q (at_ W σ)) (pn : ¬ P w .no) (gn : ∀ d st, (∀ b, d ≠ .tup b) → g d st = .no)
    (p : P w ((m Γ w.st).bind g)) (q : ∀ ds vs w', Evo w w' → Ok K w' → Fr K H0 w' Γ σ → DenL K w' Γ σ vs ds → P w' (g (.tup ds) w'.st) → Q vs w'.H) : t σ w.H Q := by
  refine h H0 w Γ σ k f Q ?_
  cases e : m Γ w.st with
  | ok d st =>
    rw [e] at p
    cases d with
    | tup ds => exact fun vs w' ev k' s r => q ds vs w' ev k' (f.evo ev) r (by subst s; exact sh w' _ ev k' p)
    | _ => rw [ok_bind, gn _ _ (fun b z => by cases z)] at p; exact (pn p).elim
  | err x st => rw [e] at p; exact pe x st p
  | no => rw [e] at p; exact (pn p).elim
def PAb (P : Program) (wd : World) (K : PySem.W.Frag) (mg : Str → Option Value) (base : Heap) (k : Nat) (N : List Str) (sc : SC) (W : WX) (es : List Expr) (m : EM) : Prop := ∃ t : TA, (∀ X, G P wd K mg base k N sc W X → PA X es t) ∧ RTAB K W t m
theorem pb_nil : PAb P wd K mg base k N sc W [] eNil := ⟨_, fun X g => pa_nil, fun H0 w Γ σ ok f Q p => p [] w (Evo.refl w) ok rfl .nil⟩
theorem pb_cons {e : Expr} {es : List Expr} {ma mr : EM} (ha : PB P wd K mg base k N sc W e ma) (hr : PAb P wd K mg base k N sc W es mr) (hs : ∀ env, starEach (e :: es) env = (false, eval e env) :: starEach es env := by intro _; rfl) :
    PAb P wd K mg base k N sc W (e :: es) (eCons ma mr) := by
  obtain ⟨ta, pa, ra⟩ := ha
  obtain ⟨tr, pr, rr⟩ := hr
  refine ⟨_, fun X g => pa_cons (pa X g) (pr X g) (hs X.env), ?_⟩
  intro H0 w Γ σ ok f Q q
  refine RB.use (P := fun w r => PostAB K w Γ σ r Q (at_ W σ)) ra ok f (fun _ _ e k p => p.shift e k) (fun _ _ p => p) (fun p => p) q fun d v w1 e1 k1 f1 r p1 => ?_
  refine RTAB.use (P := fun w r => PostAB K w Γ σ r Q (at_ W σ)) rr k1 f1 (fun _ _ e k p => p.shift e k) (fun _ _ p => p) (fun p => p) (fun d st hb => by cases d <;> first | rfl | exact absurd rfl (hb _)) p1 fun ds vs w2 e2 k2 f2 r2 p2 => ?_
  exact p2 (v :: vs) w2 (Evo.refl w2) k2 rfl (.cons (r.evo e2) r2)
/-- a built-in by what it does of data -/
def CallD (K : PySem.W.Frag) (r : List V → Hp → VK → Prop) (f : List D → Store → ER) : Prop := ∀ (w : Wd) (vs : List V) (ds : List D) (Q : VK) (E : XK), Ok K w → VwL K w vs ds → PostE K w (f ds w.st) Q E → r vs w.H Q
def eB (f : List D → Store → ER) (ms : EM) : EM := fun Γ st => (ms Γ st).bind fun d s => match d with | .tup ds => f (ds.map (deref s)) s | _ => .no
theorem rt_B {r : List V → Hp → VK → Prop} {f : List D → Store → ER} {t : TA} {ms : EM} (h : CallD K r f) (ra : RTAB K W t ms) : RT K W (tCB r t) (eB f ms) := by
  intro H0 w Γ σ ok f0 Q q
  refine RTAB.use (P := fun w r => PostE K w r Q (at_ W σ)) ra ok f0 (fun _ _ e k p => p.shift e k) (fun _ _ p => p) (fun p => p) (fun d st hb => by cases d <;> first | rfl | exact absurd rfl (hb _)) q fun ds vs w1 e1 k1 f1 r1 p1 => ?_
  exact h w1 vs _ Q _ k1 (r1.vw k1 f1) p1
theorem pr_B {r : List V → Hp → VK → Prop} {f : List D → Store → ER} {id : String} {x : Str} {e : Expr} {es : List Expr} {ms : EM} {p pos : Pos} (hc : ∀ X, G P wd K mg base k N sc W X → CallR X (.builtin id) r) (h : CallD K r f) (hm : mg x = none) (hv : bootBuiltins x = some (.builtin id))
    (ha : PAb P wd K mg base k N sc W (e :: es) ms) (hg : sc.s.names.lookup x = some .globalImplicit := by rfl) (hn : x ≠ "__name__" := by decide) (hdb : (x == ("__debug__" : Str)) = false := by decide)
    (he : ∀ env, starEach (e :: es) env = (false, eval e env) :: starEach es env := by intro _; rfl) (hpl : ∀ env, (backTo pos (starEach es env)).any (·.1) = false := by intro _; rfl) :
    PR P wd K mg base k N sc W (.Call (.Name x p) (e :: es) [] pos) (eB f ms) := by
  obtain ⟨t, pt, ra⟩ := ha
  refine ⟨_, fun X g => ?_, rt_B h ra⟩
  exact pe_callB (hc X g) (by unfold Gl PySem.Env.kindOf; rw [g.scp]; exact hg) (by rw [g.mg]; exact hm) hv (pt X g) hn hdb (he X.env) (hpl X.env)
theorem pr_Ty {r : List V → Hp → VK → Prop} {f : List D → Store → ER} {T : String} {x : Str} {e : Expr} {es : List Expr} {ms : EM} {p pos : Pos} (hc : ∀ X, G P wd K mg base k N sc W X → CallR X (.type T) r) (h : CallD K r f) (hm : mg x = none) (hv : bootBuiltins x = some (.type T))
    (ha : PAb P wd K mg base k N sc W (e :: es) ms) (hg : sc.s.names.lookup x = some .globalImplicit := by rfl) (hn : x ≠ "__name__" := by decide) (hdb : (x == ("__debug__" : Str)) = false := by decide)
    (he : ∀ env, starEach (e :: es) env = (false, eval e env) :: starEach es env := by intro _; rfl) (hpl : ∀ env, (backTo pos (starEach es env)).any (·.1) = false := by intro _; rfl) :
    PR P wd K mg base k N sc W (.Call (.Name x p) (e :: es) [] pos) (eB f ms) := by
  obtain ⟨t, pt, ra⟩ := ha
  refine ⟨_, fun X g => ?_, rt_B h ra⟩
  exact pe_callTy (hc X g) (by unfold Gl PySem.Env.kindOf; rw [g.scp]; exact hg) (by rw [g.mg]; exact hm) hv (pt X g) hn hdb (he X.env) (hpl X.env)
/-! ### len, list, min -/
def bLen : List D → Store → ER
  | [.lst xs], st => .ok (.int xs.length) st
  | [.tup xs], st => .ok (.int xs.length) st
  | [.str x], st => if x.length ≤ 16777216 then .ok (.int x.length) st else .no
  | [.dct xs], st => .ok (.int xs.length) st
  | _, _ => .no
theorem call_lenR {X : Cx} : CallR X (.builtin "len") (fun xs H Q => ∃ a kvs, xs = [V.ref a] ∧ Rd H a (.dK kvs) ∧ Q (.int kvs.length) H) := by
  intro pins s σ H xs us Q I r h
  obtain ⟨a, kvs, rfl, ha, q⟩ := h
  obtain ⟨u, rfl, ru⟩ := vals1 r
  cases ru
  exact d_len I ha fun t s' I' => ⟨.int kvs.length, H, I', ⟨t, rfl⟩, q⟩
theorem RepP.len {κ : Type} {w : Wd} {vs : List (κ × V)} {xs : List (κ × D)} (r : RepP K w vs xs) : vs.length = xs.length := by have := congrArg List.length r.1; simpa using this
theorem cd_len : CallD K (fun xs H Q => (∃ x n, xs = [x] ∧ LenV K x H n ∧ Q (.int n) H) ∨ ∃ a kvs, xs = [V.ref a] ∧ Rd H a (.dK kvs) ∧ Q (.int kvs.length) H) bLen := fun w vs ds Q E k v p => by
  unfold bLen at p
  split at p
  · obtain ⟨x, rfl, a, us, rfl, h, r⟩ := v.one; exact .inl ⟨_, _, rfl, .inl ⟨us, SqL.of h, r.1.symm⟩, p.now k .int⟩
  · obtain ⟨x, rfl, a, us, rfl, h, r⟩ := v.one; exact .inl ⟨_, _, rfl, .inr ⟨us, h, r.1.symm⟩, p.now k .int⟩
  · obtain ⟨x, rfl, h⟩ := v.one
    obtain rfl := h
    obtain ⟨h, p⟩ := PostE.ite p
    exact .inl ⟨_, _, rfl, ⟨by rw [sizeLine_eq]; exact h, rfl⟩, p.now k .int⟩
  · obtain ⟨x, rfl, a, us, rfl, h, r⟩ := v.one; exact .inr ⟨_, _, rfl, h, by rw [r.len]; exact p.now k .int⟩
  · exact p.elim
theorem pr_len {e : Expr} {ms : EM} {p pos : Pos} (hm : mg "len" = none) (ha : PAb P wd K mg base k N sc W [e] ms) (hg : sc.s.names.lookup ("len" : Str) = some .globalImplicit := by rfl) (he : ∀ env, starEach [e] env = (false, eval e env) :: starEach [] env := by intro _; rfl) :
    PR P wd K mg base k N sc W (.Call (.Name "len" p) [e] [] pos) (eB bLen ms) :=
  pr_B (id := "len") (fun X g => CallR.or (by rw [← g.kk]; exact call_len) call_lenR) cd_len hm PySem.boot_len ha hg (by decide) (by decide) he (fun _ => rfl)
def bList : List D → Store → ER
  | [.lst xs], st => .ok (.lst xs) st
  | [.tup xs], st => .ok (.lst xs) st
  | [.scr ns], st => .ok (.lst (ns.map .int)) st
  | _, _ => .no
theorem repL_ints {w : Wd} (ns : List Int) : RepL K w (ns.map V.int) (ns.map D.int) := RepL.of_map (fun _ => .int) ns
def bMin2 : List D → Store → ER
  | [.int i, .int j], st => .ok (.int (if j < i then j else i)) st
  | _, _ => .no
theorem cd_min2 : CallD K (fun xs H Q => ∃ i j, xs = [.int i, .int j] ∧ Q (.int (if j < i then j else i)) H) bMin2 := fun w vs ds Q E k v p => by
  unfold bMin2 at p
  split at p
  · obtain ⟨x, y, rfl, a, b⟩ := v.two; obtain rfl := a; obtain rfl := b; exact ⟨_, _, rfl, p.now k .int⟩
  · exact p.elim
theorem pr_min2 {e1 e2 : Expr} {ms : EM} {p pos : Pos} (hm : mg "min" = none) (ha : PAb P wd K mg base k N sc W [e1, e2] ms) (hg : sc.s.names.lookup ("min" : Str) = some .globalImplicit := by rfl) (he : ∀ env, starEach [e1, e2] env = (false, eval e1 env) :: starEach [e2] env := by intro _; rfl)
    (hpl : ∀ env, (backTo pos (starEach [e2] env)).any (·.1) = false := by intro _; rfl) :
    PR P wd K mg base k N sc W (.Call (.Name "min" p) [e1, e2] [] pos) (eB bMin2 ms) :=
  pr_B (id := "min") (fun X g => call_min2 g.calm) cd_min2 hm (by decide +kernel) ha hg (by decide) (by decide) he hpl

/-! ### items, slices -/
def oIx : D → D → Store → ER
  | .lst xs, .int i, st => match atI xs i with | some d => .ok d st | none => .no
  | .tup xs, .int i, st => match atI xs i with | some d => .ok d st | none => .no
  | .str x, .int i, st => if x.length ≤ 16777216 then match atI x.cps.toList i with | some c => .ok (.str ⟨#[c]⟩) st | none => .no else .no
  | _, _, _ => .no
theorem RepL.atI {w : Wd} {vs : List V} {xs : List D} (r : RepL K w vs xs) {i : Int} {d : D} (h : L2.atI xs i = some d) : ∃ v, L2.atI vs i = some v ∧ Rep K w v d := by
  unfold L2.atI at h ⊢
  rw [r.1]
  cases e : ixN xs.length i with
  | none => rw [e] at h; cases h
  | some j => rw [e] at h; obtain ⟨v, hv, rv⟩ := r.get h; exact ⟨v, hv, rv⟩
theorem od_ix : OpD K (rIx K) oIx := fun w x y dx dy Q E k vx vy p => by
  cases dx <;> cases dy <;> try exact p.elim
  case lst.int xs i =>
    obtain ⟨a, vs, rfl, h, r⟩ := vx
    obtain rfl := vy
    have p' : PostE K w (match atI xs i with | some d => .ok d w.st | none => .no) Q E := p
    cases e : atI xs i with
    | none => rw [e] at p'; exact p'.elim
    | some d => rw [e] at p'; obtain ⟨v, hv, rv⟩ := r.atI e; exact .inl ⟨a, vs, i, v, rfl, rfl, SqL.of h, hv, p'.now k rv⟩
  case tup.int xs i =>
    obtain ⟨a, vs, rfl, h, r⟩ := vx
    obtain rfl := vy
    have p' : PostE K w (match atI xs i with | some d => .ok d w.st | none => .no) Q E := p
    cases e : atI xs i with
    | none => rw [e] at p'; exact p'.elim
    | some d => rw [e] at p'; obtain ⟨v, hv, rv⟩ := r.atI e; exact .inr (.inl ⟨a, vs, i, v, rfl, rfl, h, hv, p'.now k rv⟩)
  case str.int x i =>
    obtain rfl := vx
    obtain rfl := vy
    obtain ⟨hl, p⟩ := PostE.ite p
    cases e : atI x.cps.toList i with
    | none => rw [e] at p; exact p.elim
    | some d => rw [e] at p; exact .inr (.inr ⟨x, i, d, rfl, rfl, by rw [sizeLine_eq]; exact hl, e, p.now k .str⟩)
/-- the parts of a slice: None, an int -/
def PostO (K : PySem.W.Frag) (w : Wd) (r : ER) (Q : Option Int → Hp → Prop) (W : XK) : Prop := match r with
  | .ok .non st' => ∀ w', Evo w w' → Ok K w' → w'.st = st' → Q none w'.H
  | .ok (.int i) st' => ∀ w', Evo w w' → Ok K w' → w'.st = st' → Q (some i) w'.H
  | .ok _ _ => False
  | .err x st' => ∀ c dd w', Evo w w' → Ok K w' → w'.st = st' → RepX K w' c dd x → W c dd w'.H
  | .no => False
def RTO (K : PySem.W.Frag) (W : WX) (t : TO) (m : EM) : Prop := ∀ (H0 : Hp) (w : Wd) (Γ : DEnv) (σ : L2.St), Ok K w → Fr K H0 w Γ σ → ∀ Q : Option Int → Hp → Prop, PostO K w (m Γ w.st) Q (at_ W σ) → t σ w.H Q
def POt (P : Program) (wd : World) (K : PySem.W.Frag) (mg : Str → Option Value) (base : Heap) (k : Nat) (N : List Str) (sc : SC) (W : WX) (e : Option Expr) (m : EM) : Prop := ∃ t : TO, (∀ X, G P wd K mg base k N sc W X → PO X e t) ∧ RTO K W t m
def eInt (m : EM) : EM := fun Γ st => (m Γ st).bind fun d s => match d with | .int i => .ok (.int i) s | _ => .no
theorem po_none' : POt P wd K mg base k N sc W none (eC .non) := ⟨_, fun X g => po_none, fun H0 w Γ σ ok f Q p => p w (Evo.refl w) ok rfl⟩
theorem po_some' {e : Expr} {m : EM} (h : PR P wd K mg base k N sc W e m) : POt P wd K mg base k N sc W (some e) (eInt m) := by
  obtain ⟨t, p, r⟩ := h
  refine ⟨_, fun X g => po_some (p X g), ?_⟩
  intro H0 w Γ σ ok f Q q
  refine r H0 w Γ σ ok f _ ?_
  have q' : PostO K w ((m Γ w.st).bind _) Q (at_ W σ) := q
  cases e : m Γ w.st with
  | ok d st =>
    rw [e] at q'
    cases d with
    | int i => exact fun v w' ev k' s rv => by cases rv; exact ⟨i, rfl, q' w' ev k' s⟩
    | _ => exact q'.elim
  | err x st => rw [e] at q'; exact q'
  | no => rw [e] at q'; exact q'
def cutL (xs : List D) (lo hi : Option Int) : List D := (xs.drop (HT.sIx xs.length 0 lo)).take (HT.sIx xs.length xs.length hi - HT.sIx xs.length 0 lo)
def oSl (lo hi : Option Int) : D → Store → ER
  | .lst xs, st => .ok (.lst (cutL xs lo hi)) st
  | .str x, st => if x.length ≤ 16777216 then .ok (.str (cutS x lo hi)) st else .no
  | .scr ns, st => .ok (.lst (cutL (ns.map .int) lo hi)) st
  | .tup xs, st => if ¬ (HT.sIx xs.length 0 lo = 0 ∧ HT.sIx xs.length xs.length hi = xs.length) then .ok (.tup (cutL xs lo hi)) st else .no
  | _, _ => .no
def part : D → Option (Option Int)
  | .non => some none
  | .int i => some (some i)
  | _ => none
def eSl (ma ml mh : EM) : EM := fun Γ st => (ma Γ st).bind fun x s1 => (ml Γ s1).bind fun l s2 => match part l with
  | none => .no
  | some lo => (mh Γ s2).bind fun h s3 => match part h with
    | none => .no
    | some hi => oSl lo hi (deref s3 x) s3
theorem cutV_rep {w : Wd} {vs : List V} {xs : List D} (r : RepL K w vs xs) (lo hi : Option Int) : RepL K w (cutV vs lo hi) (cutL xs lo hi) := by
  unfold cutV cutL
  rw [r.1]
  exact (r.drop _).take _
theorem RTO.use {w : Wd} {H0 : Hp} {Γ : DEnv} {σ : L2.St} {t : TO} {m : EM} (h : RTO K W t m) (k : Ok K w) (f : Fr K H0 w Γ σ) {Q : Option Int → Hp → Prop} {P : Wd → ER → Prop} {g : D → Store → ER}
    (sh : ∀ w' r, Evo w w' → Ok K w' → P w r → P w' r) (pe : ∀ x st, P w (.err x st) → PostO K w (.err x st) Q (at_ W σ)) (pn : ¬ P w .no) (gn : ∀ w' d st, part d = none → ¬ P w' (g d st))
    (p : P w ((m Γ w.st).bind g)) (q : ∀ d o w', part d = some o → Evo w w' → Ok K w' → Fr K H0 w' Γ σ → P w' (g d w'.st) → Q o w'.H) : t σ w.H Q := by
  refine h H0 w Γ σ k f Q ?_
  cases e : m Γ w.st with
  | ok d st =>
    rw [e] at p
    cases d with
    | non => exact fun w' ev k' s => q .non none w' rfl ev k' (f.evo ev) (by subst s; exact sh w' _ ev k' p)
    | int i => exact fun w' ev k' s => q (.int i) (some i) w' rfl ev k' (f.evo ev) (by subst s; exact sh w' _ ev k' p)
    | _ => exact (gn w _ _ rfl p).elim
  | err x st => rw [e] at p; exact pe x st p
  | no => rw [e] at p; exact (pn p).elim
theorem pr_sl {a : Expr} {lo hi : Option Expr} {ma ml mh : EM} {p2 pos : Pos} (ha : PB P wd K mg base k N sc W a ma) (hl : POt P wd K mg base k N sc W lo ml) (hh : POt P wd K mg base k N sc W hi mh) : PR P wd K mg base k N sc W (.Subscript a (.Slice lo hi none p2) pos) (eSl ma ml mh) := by
  obtain ⟨ta, pa, ra⟩ := ha
  obtain ⟨tl, pl, rl⟩ := hl
  obtain ⟨th, ph, rh⟩ := hh
  refine ⟨tSl (fun x l u H Q => (rSlL K x l u H Q ∨ rSlS x l u H Q) ∨ rSlT K x l u H Q) ta tl th, fun X g => pe_slice (SlR.or (SlR.or (by have := sl_list (X := X); rw [g.kk] at this; exact this) sl_str) (by have := sl_tup (X := X); rw [g.kk] at this; exact this)) (pa X g) (pl X g) (ph X g), ?_⟩
  intro H0 w Γ σ ok f Q q
  refine RB.use (P := fun w r => PostE K w r Q (at_ W σ)) ra ok f (fun _ _ e k p => p.shift e k) (fun _ _ p => p) (fun p => p) q fun dx x w1 e1 k1 f1 r1 p1 => ?_
  refine RTO.use (P := fun w r => PostE K w r Q (at_ W σ)) rl k1 f1 (fun _ _ e k p => p.shift e k) (fun _ _ p => p) (fun p => p) (fun w' d st h p => by rw [h] at p; exact p) p1 fun l o w2 hp e2 k2 f2 p2 => ?_
  rw [hp] at p2
  refine RTO.use (P := fun w r => PostE K w r Q (at_ W σ)) rh k2 f2 (fun _ _ e k p => p.shift e k) (fun _ _ p => p) (fun p => p) (fun w' d st h p => by rw [h] at p; exact p) p2 fun h u w3 hq e3 k3 f3 p3 => ?_
  rw [hq] at p3
  have v := (r1.evo (e2.trans k2 e3)).vw k3 f3
  revert v p3
  show PostE K w3 (oSl o u (deref w3.st dx) w3.st) Q (at_ W σ) → Vw K w3 x (deref w3.st dx) → _
  cases deref w3.st dx with
  | lst xs => exact fun p v => by obtain ⟨c, vs, rfl, h, r⟩ := v; exact .inl (.inl ⟨c, vs, rfl, SqL.of h, fun l hl => p.lst rfl k3 (cutV_rep r o u) l hl⟩)
  | str z => exact fun p v => by obtain rfl := v; obtain ⟨hz, p⟩ := PostE.ite p; exact .inl (.inr ⟨z, rfl, by rw [sizeLine_eq]; exact hz, p.now k3 .str⟩)
  | scr ns => exact fun p v => by obtain ⟨c, rfl, h⟩ := v; exact .inl (.inl ⟨c, _, rfl, h, fun l hl => p.lst rfl k3 (cutV_rep (repL_ints ns) o u) l hl⟩)
  | tup xs => exact fun p v => by obtain ⟨c, vs, rfl, h, r⟩ := v; obtain ⟨hz, p⟩ := PostE.ite p; exact .inr ⟨c, vs, rfl, h, by rw [r.1]; exact hz, fun l hl => p.tup rfl k3 (cutV_rep r o u) l hl⟩
  | _ => exact fun p _ => p.elim
end
end DL
namespace DL
open PySem L2
section
variable {P : Program} {wd : World} {K : PySem.W.Frag} {mg : Str → Option Value} {base : Heap} {k : Nat} {N : List Str} {sc : SC} {W : WX}

/-! ### targets -/
abbrev GM := D → DEnv → Option DEnv
def RTG (K : PySem.W.Frag) (g : TG) (m : GM) (is : List Nat) : Prop := ∀ (H0 : Hp) (w : Wd) (Γ Γ' : DEnv) (σ : L2.St) (v : V) (d : D), Ok K w → Fr K H0 w Γ σ → Rep K w v d → m d Γ = some Γ' →
  ∀ Q : L2.St → Hp → Prop, (∀ σ', Fr K H0 w Γ' σ' → (∀ vs : List Nat, (∀ i ∈ is, i ∈ vs) → wipe σ' vs = wipe σ vs) → Q σ' w.H) → g v σ w.H Q
def RTGs (K : PySem.W.Frag) (g : TGs) (m : List D → DEnv → Option DEnv) (is : List Nat) : Prop := ∀ (H0 : Hp) (w : Wd) (Γ Γ' : DEnv) (σ : L2.St) (vs : List V) (ds : List D), Ok K w → Fr K H0 w Γ σ → RepL K w vs ds → m ds Γ = some Γ' →
  ∀ Q : L2.St → Hp → Prop, (∀ σ', Fr K H0 w Γ' σ' → (∀ vs : List Nat, (∀ i ∈ is, i ∈ vs) → wipe σ' vs = wipe σ vs) → Q σ' w.H) → g vs σ w.H Q
def PGt (P : Program) (wd : World) (K : PySem.W.Frag) (mg : Str → Option Value) (base : Heap) (k : Nat) (N : List Str) (sc : SC) (W : WX) (e : Expr) (m : GM) (is : List Nat) : Prop := ∃ t : TG, (∀ X, G P wd K mg base k N sc W X → PG X e t) ∧ RTG K t m is
def PGts (P : Program) (wd : World) (K : PySem.W.Frag) (mg : Str → Option Value) (base : Heap) (k : Nat) (N : List Str) (sc : SC) (W : WX) (e : List Expr) (m : List D → DEnv → Option DEnv) (is : List Nat) : Prop := ∃ t : TGs, (∀ X, G P wd K mg base k N sc W X → PGs X e t) ∧ RTGs K t m is
theorem wipe_set {σ : L2.St} {v : Option V} : ∀ {vs : List Nat} {i : Nat}, i ∈ vs → wipe (σ.set i v) vs = wipe σ vs
  | [], _, h => by simp at h
  | u :: us, i, h => by
    unfold wipe
    by_cases q : i ∈ us
    · rw [wipe_set q]
    · have e : i = u := by simpa [q] using h
      subst e
      have c : ∀ ws : List Nat, i ∉ ws → wipe (σ.set i v) ws = (wipe σ ws).set i v := by
        intro ws
        induction ws with
        | nil => intro _; rfl
        | cons a as ih =>
          intro hn
          unfold wipe
          have hne : i ≠ a := fun z => hn (by rw [z]; exact List.mem_cons_self)
          rw [ih (fun z => hn (List.mem_cons_of_mem _ z)), List.set_comm _ _ hne]
      rw [c us q, List.set_set]
theorem wipe_set_of {σ : L2.St} : ∀ (vs us : List Nat), (∀ i ∈ vs, i ∈ us) → wipe (wipe σ vs) us = wipe σ us
  | [], _, _ => rfl
  | v :: vs, us, h => by
    show wipe ((wipe σ vs).set v none) us = _
    rw [wipe_set (h v List.mem_cons_self)]
    exact wipe_set_of vs us fun i hi => h i (List.mem_cons_of_mem _ hi)
theorem wipe_wipe {σ : L2.St} (vs : List Nat) : wipe (wipe σ vs) vs = wipe σ vs := wipe_set_of vs vs fun _ h => h
def gN (i : Nat) : GM := fun d Γ => some (Γ.set i (.sh d))
theorem pg_name' (i : Nat) {x : Str} {pos : Pos} (nd : N.Nodup) (hi : N[i]? = some x := by rfl) (hx : Loc sc.s x := by first | exact Or.inl rfl | exact Or.inr rfl) (hf : sc.fn x = true ∨ sc.s.names.lookup x = some .local := by first | exact Or.inl rfl | exact Or.inr rfl) : PGt P wd K mg base k N sc W (.Name x pos) (gN i) [i] := by
  refine ⟨gName i, fun X g => pg_name (by rw [g.nn]; exact nd) (by rw [g.nn]; exact hi) (by rw [g.scp]; exact hx) ?_, ?_⟩
  · rw [g.fnc, g.scp]; exact hf
  intro H0 w Γ Γ' σ v d ok f r e Q q
  cases e
  exact q _ (fr_set f r i) fun vs h => wipe_set (h i List.mem_cons_self)
def gNs : List D → DEnv → Option DEnv := fun ds Γ => match ds with | [] => some Γ | _ => none
def gCs (m : GM) (ms : List D → DEnv → Option DEnv) : List D → DEnv → Option DEnv := fun ds Γ => match ds with | d :: r => (m d Γ).bind (ms r) | [] => none
def gT (n : Nat) (ms : List D → DEnv → Option DEnv) : GM := fun d Γ => match d with | .tup ds => if ds.length = n then ms ds Γ else none | _ => none
/-! ### what is walked -/
def Wlk (K : PySem.W.Frag) (w : Wd) (J : It) (ds : List D) : Prop := ∀ (i : Nat) (w1 : Wd), Ext w w1 → Ok K w1 →
  (∀ d, ds[i]? = some d → J.go i w1.H ∧ ∀ x H2, J.yld i w1.H x H2 → ∃ w2 : Wd, w2.H = H2 ∧ w2.st = w1.st ∧ Evo w1 w2 ∧ Ok K w2 ∧ Rep K w2 x d) ∧ (ds[i]? = none → J.stop i w1.H)
def PostI (K : PySem.W.Frag) (w : Wd) (r : ER) (R : It → Hp → Prop) (W : XK) : Prop := match r with
  | .ok (.tup ds) st' => ∀ J w', Evo w w' → Ok K w' → w'.st = st' → Wlk K w' J ds → R J w'.H
  | .ok _ _ => False
  | .err x st' => ∀ c dd w', Evo w w' → Ok K w' → w'.st = st' → RepX K w' c dd x → W c dd w'.H
  | .no => False
def RTI (K : PySem.W.Frag) (W : WX) (t : TI) (m : EM) : Prop := ∀ (H0 : Hp) (w : Wd) (Γ : DEnv) (σ : L2.St), Ok K w → Fr K H0 w Γ σ → ∀ R : It → Hp → Prop, PostI K w (m Γ w.st) R (at_ W σ) → t σ w.H R
def PIt (P : Program) (wd : World) (K : PySem.W.Frag) (mg : Str → Option Value) (base : Heap) (k : Nat) (N : List Str) (sc : SC) (W : WX) (tg e : Expr) (m : EM) : Prop := ∃ t : TI, (∀ X, G P wd K mg base k N sc W X → PI X tg e t) ∧ RTI K W t m
theorem PostI.shift {w w' : Wd} (e : Evo w w') (k : Ok K w') {r : ER} {Q : It → Hp → Prop} {E : XK} (p : PostI K w r Q E) : PostI K w' r Q E := by
  cases r with
  | ok d st =>
    cases d with
    | tup ds => exact fun v w2 e2 k2 s r => p v w2 (e.trans k e2) k2 s r
    | _ => exact p
  | err x st => exact fun c dd w2 e2 k2 s r => p c dd w2 (e.trans k e2) k2 s r
  | no => exact p
theorem getElem?_lt {α : Type} {l : List α} {i : Nat} {x : α} (h : l[i]? = some x) : i < l.length := (List.getElem?_eq_some_iff.mp h).1
theorem itr_list {w : Wd} {a : Addr} {vs : List V} {ds : List D} (h : w.M a = some (.lst vs)) (r : RepL K w vs ds) : Wlk K w (L2.Itl K a) ds := fun i w1 e k => by
  have h1 : SqL K w1.H a vs := SqL.of (k.ex _ _ (e.mono _ _ h))
  refine ⟨fun d hd => ?_, fun hn => ⟨vs, h1, by rw [r.1]; exact List.getElem?_eq_none_iff.mp hn⟩⟩
  obtain ⟨v, hv, rv⟩ := r.get hd
  refine ⟨⟨vs, v, h1, hv⟩, fun x H2 y => ⟨w1, y.1.symm, rfl, Evo.refl w1, k, ?_⟩⟩
  have q := y.2 vs h1
  rw [hv] at q; cases q
  exact rv.ext e
theorem itr_tup {w : Wd} {a : Addr} {vs : List V} {ds : List D} (h : SqT K w.M a vs) (r : RepL K w vs ds) : Wlk K w (L2.Itt K a) ds := fun i w1 e k => by
  have h1 : SqT K w1.H a vs := k.sqT (e.sqT h)
  refine ⟨fun d hd => ?_, fun hn => ⟨vs, h1, by rw [r.1]; exact List.getElem?_eq_none_iff.mp hn⟩⟩
  obtain ⟨v, hv, rv⟩ := r.get hd
  refine ⟨⟨vs, v, h1, hv⟩, fun x H2 y => ⟨w1, y.1.symm, rfl, Evo.refl w1, k, ?_⟩⟩
  have q := y.2 vs h1
  rw [hv] at q; cases q
  exact rv.ext e
def rng (lo : Int) (c : Int) (n : Nat) : List D := (List.range n).map fun (i : Nat) => D.int (lo + (i : Int) * c)
theorem rng_len (lo c : Int) (n : Nat) : (rng lo c n).length = n := by simp [rng]
theorem rng_get {lo c : Int} {n i : Nat} (h : i < n) : (rng lo c n)[i]? = some (.int (lo + (i : Int) * c)) := by simp [rng, h]
theorem itr_rng {w : Wd} {lo : Int} {n : Nat} : Wlk K w (L2.Itr lo n) (rng lo 1 n) := fun i w1 e k => by
  refine ⟨fun d hd => ?_, fun hn => by have := List.getElem?_eq_none_iff.mp hn; rwa [rng_len] at this⟩
  have hl := getElem?_lt hd
  rw [rng_len] at hl
  rw [rng_get hl] at hd; cases hd
  exact ⟨hl, fun x H2 y => ⟨w1, y.1.symm, rfl, Evo.refl w1, k, by rw [y.2, Int.mul_one]; exact .int⟩⟩
theorem itr_rngC {w : Wd} {lo c : Int} {n : Nat} : Wlk K w (L2.Itc lo c n) (rng lo c n) := fun i w1 e k => by
  refine ⟨fun d hd => ?_, fun hn => by have := List.getElem?_eq_none_iff.mp hn; rwa [rng_len] at this⟩
  have hl := getElem?_lt hd
  rw [rng_len] at hl
  rw [rng_get hl] at hd; cases hd
  exact ⟨hl, fun x H2 y => ⟨w1, y.1.symm, rfl, Evo.refl w1, k, by rw [y.2]; exact .int⟩⟩

/-! ### for -/
def forL (mg : GM) (mb : SM) : List D → DEnv → Store → SR
  | [], Γ, st => .nx Γ st
  | d :: ds, Γ, st => match mg d Γ with
    | none => .no
    | some Γ1 => match mb Γ1 st with
      | .nx Γ2 st2 => forL mg mb ds Γ2 st2
      | .ct Γ2 st2 => forL mg mb ds Γ2 st2
      | .bk Γ2 st2 => .nx Γ2 st2
      | r => r
def sFor (mi : EM) (mg : GM) (mb : SM) : SM := fun Γ st => (mi Γ st).bs Γ fun d s => match d with | .tup ds => forL mg mb ds Γ s | _ => .no
theorem rts_for {wi : TI} {g : TG} {tb : TS} {mi : EM} {mg : GM} {mb : SM} {is : List Nat} (hi : RTI K W wi mi) (hg : RTG K g mg is) (hb : RTS K W tb mb) : RTS K W (tFor wi g tb) (sFor mi mg mb) := by
  intro w0 w Γ σ e0 ok f Dn p
  refine hi w0.H w Γ σ ok f _ ?_
  have p' : PostS K w0 w ((mi Γ w.st).bs Γ _) Dn W := p
  cases h : mi Γ w.st with
  | no => rw [h] at p'; exact p'
  | err x st => rw [h] at p'; exact fun c dd w' ev k' s r => p' c dd w' σ (e0.trans ok ev) ev.ext k' s (f.evo ev) r
  | ok d st =>
    rw [h] at p'
    cases d with
    | tup ds =>
      intro J w' ev k' s it
      subst s
      have p1 : PostS K w0 w' (forL mg mb ds Γ w'.st) Dn W := p'.shift ev.ext
      refine ⟨fun i m σ H => ∃ (w1 : Wd) (Γ1 : DEnv), H = w1.H ∧ Evo w0 w1 ∧ Ext w' w1 ∧ Ok K w1 ∧ Fr K w0.H w1 Γ1 σ ∧ m = ds.length - i ∧ i ≤ ds.length ∧ PostS K w0 w1 (forL mg mb (ds.drop i) Γ1 w1.st) Dn W,
        ⟨ds.length, w', Γ, rfl, e0.trans ok ev, Ext.refl w', k', f.evo ev, rfl, Nat.zero_le _, p1⟩, ?_⟩
      rintro i m σ1 H ⟨w1, Γ1, rfl, ea, xa, ka, fa, rfl, hle, q⟩
      obtain ⟨go, stop⟩ := it i w1 xa ka
      cases hd : ds[i]? with
      | none =>
        refine .inl ⟨stop hd, ?_⟩
        rw [List.drop_eq_nil_of_le (List.getElem?_eq_none_iff.mp hd)] at q
        exact q w1 σ1 ea (Ext.refl w1) ka rfl fa
      | some d =>
        obtain ⟨g1, g2⟩ := go d hd
        have hl := getElem?_lt hd
        refine .inr ⟨g1, fun σ H => ∃ (w1 : Wd) (Γ1 : DEnv), H = w1.H ∧ Evo w0 w1 ∧ Ext w' w1 ∧ Ok K w1 ∧ Fr K w0.H w1 Γ1 σ ∧ PostS K w0 w1 (forL mg mb (ds.drop (i + 1)) Γ1 w1.st) Dn W, ?_, fun x H2 y => ?_⟩
        · rintro σ' H' ⟨w3, Γ3, rfl, a1, a2, a3, a4, a5⟩
          exact ⟨ds.length - (i + 1), by omega, w3, Γ3, rfl, a1, a2, a3, a4, rfl, hl, a5⟩
        · obtain ⟨w2, rfl, s2, e2, k2, r2⟩ := g2 x H2 y
          rw [List.drop_eq_getElem_cons hl] at q
          have hd' : ds[i] = d := by rw [List.getElem?_eq_getElem hl] at hd; exact Option.some.inj hd
          rw [hd'] at q
          unfold forL at q
          cases h1 : mg d Γ1 with
          | none => rw [h1] at q; exact q.elim
          | some Γ2 =>
            rw [h1] at q
            dsimp only at q
            refine hg w0.H w2 Γ1 Γ2 σ1 x d k2 (fa.evo e2) r2 h1 _ fun σ2 f2 _ => ?_
            refine hb w0 w2 Γ2 σ2 (ea.trans ka e2) k2 f2 _ ?_
            rw [s2]
            have x2 : Ext w' w2 := xa.trans e2.ext
            cases h2 : mb Γ2 w1.st with
            | nx Γ3 st3 => rw [h2] at q; exact fun w3 σ3 b1 b2 b3 b4 b5 => ⟨w3, Γ3, rfl, b1, x2.trans b2, b3, b5, by rw [b4]; exact q.shift (e2.ext.trans b2)⟩
            | ct Γ3 st3 => rw [h2] at q; exact fun w3 σ3 b1 b2 b3 b4 b5 => ⟨w3, Γ3, rfl, b1, x2.trans b2, b3, b5, by rw [b4]; exact q.shift (e2.ext.trans b2)⟩
            | bk Γ3 st3 => rw [h2] at q; exact fun w3 σ3 b1 b2 b3 b4 b5 => q w3 σ3 b1 (e2.ext.trans b2) b3 b4 b5
            | ret d st3 => rw [h2] at q; exact q
            | err x st3 Γ3 => rw [h2] at q; exact fun c dd w3 σ3 b1 b2 => q c dd w3 σ3 b1 (e2.ext.trans b2)
            | no => rw [h2] at q; exact q.elim
    | _ => exact p'.elim
theorem ps_for' {iter tg : Expr} {body : List Stmt} {mi : EM} {mg' : GM} {mb : SM} {is : List Nat} {pos : Pos} (hi : PIt P wd K mg base k N sc W tg iter mi) (hg : PGt P wd K mg base k N sc W tg mg' is) (hb : PSl P wd K mg base k N sc W body mb) (hs : ∀ env x, foldedSetIterable iter env x = pure x := by intro _ _; rfl) : PSt P wd K mg base k N sc W (.For tg iter body [] pos) (sFor mi mg' mb) := by
  obtain ⟨ti, pi, ri⟩ := hi
  obtain ⟨tg', pg, rg⟩ := hg
  obtain ⟨tb, pb, rb⟩ := hb
  exact ⟨_, fun X g => ps_for g.pass g.calm (pi X g) (pg X g) (pb X g) (hs X.env), rts_for ri rg rb⟩
end
end DL
namespace DL
open PySem L2
section
variable {P : Program} {wd : World} {K : PySem.W.Frag} {mg : Str → Option Value} {base : Heap} {k : Nat} {N : List Str} {sc : SC} {W : WX}

/-! ### walks: sources -/
theorem PI.or {X : Cx} {tg e : Expr} {a b : TI} (h : PI X tg e a) (h' : PI X tg e b) : PI X tg e (fun σ H R => a σ H R ∨ b σ H R) := ⟨fun pins s σ H R I q => q.elim (h.run pins s σ H R I) (h'.run pins s σ H R I)⟩
def kD : Key → D
  | .inl i => .int i
  | .inr x => .str x
theorem rep_kV {w : Wd} : ∀ k : Key, Rep K w (kV k) (kD k)
  | .inl _ => .int
  | .inr _ => .str
def eIter (m : EM) : EM := fun Γ st => (m Γ st).bind fun d s => match d with
  | .lst xs => .ok (.tup xs) s
  | .tup xs => .ok (.tup xs) s
  | .dct kvs => .ok (.tup (kvs.map fun p => kD p.1)) s
  | _ => .no
theorem wlk_keys {w : Wd} {a : Addr} {o : Obj} {vs : List (Key × V)} {xs : List (Key × D)} (h : w.M a = some (.frz o (.dK vs))) (r : RepP K w vs xs) : Wlk K w (Itk a o vs) (xs.map fun p => kD p.1) := fun i w1 e k => by
  have h1 : w1.H a = some (.frz o (.dK vs)) := k.ex _ _ (e.mono _ _ h)
  refine ⟨fun d hd => ?_, fun hn => ⟨h1, by rw [r.len]; have := List.getElem?_eq_none_iff.mp hn; simpa using this⟩⟩
  rw [List.getElem?_map] at hd
  cases q : xs[i]? with
  | none => rw [q] at hd; cases hd
  | some p =>
    rw [q] at hd
    cases hd
    have hl : i < vs.length := by rw [r.len]; exact getElem?_lt q
    refine ⟨⟨h1, hl⟩, fun x H2 y => ⟨w1, y.1.symm, rfl, Evo.refl w1, k, ?_⟩⟩
    obtain ⟨k', v, hv, rfl⟩ := y.2
    have e1 : (vs.map (·.1))[i]? = some k' := by rw [List.getElem?_map, hv]; rfl
    rw [r.1, List.getElem?_map, q] at e1
    have e2 : p.1 = k' := Option.some.inj e1
    rw [← e2]
    exact rep_kV p.1
/-- range -/
def eRng1 (ms : EM) : EM := fun Γ st => (ms Γ st).bind fun d s => match d with
  | .tup [.int j] => if -4611686018427387904 ≤ j ∧ j < 4611686018427387904 then .ok (.tup (rng 0 1 j.toNat)) s else .no
  | _ => .no
def eRng2 (ms : EM) : EM := fun Γ st => (ms Γ st).bind fun d s => match d with
  | .tup [.int i, .int j] => if -4611686018427387904 ≤ i ∧ i < 4611686018427387904 ∧ -4611686018427387904 ≤ j ∧ j < 4611686018427387904 then .ok (.tup (rng i 1 (j - i).toNat)) s else .no
  | _ => .no
theorem pi_rng1 {tg a : Expr} {ms : EM} {p pos : Pos} (hm : mg "range" = none) (ha : PAr P wd K mg base k N sc W [a] ms) (hg : sc.s.names.lookup ("range" : Str) = some .globalImplicit := by rfl) (hs : ∀ env, starEach [a] env = [(false, eval a env)] := by intro _; rfl) :
    PIt P wd K mg base k N sc W tg (.Call (.Name "range" p) [a] [] pos) (eRng1 ms) := by
  obtain ⟨t, pt, r⟩ := ha
  refine ⟨_, fun X g => pi_range1 (by unfold Gl PySem.Env.kindOf; rw [g.scp]; exact hg) (by rw [g.mg]; exact hm) (pt X g) (hs X.env), ?_⟩
  intro H0 w Γ σ ok f R q
  refine RTA.use (P := fun w r => PostI K w r R (at_ W σ)) r ok f (fun _ _ e k p => p.shift e k) (fun _ _ p => p) (fun p => p) (fun d st hb => by cases d <;> first | rfl | exact absurd rfl (hb _)) q fun ds vs w1 e1 k1 f1 r1 p1 => ?_
  match ds, r1, p1 with
  | [.int j], r1, p1 =>
    obtain ⟨v, us, rfl, rv, ru⟩ := r1.inv
    rw [ru.inv0]
    cases rv
    have p2 : PostI K w1 (if -4611686018427387904 ≤ j ∧ j < 4611686018427387904 then .ok (.tup (rng 0 1 j.toNat)) w1.st else .no) R (at_ W σ) := p1
    by_cases h : -4611686018427387904 ≤ j ∧ j < 4611686018427387904
    · rw [if_pos h] at p2
      exact ⟨j, rfl, h.1, h.2, p2 _ w1 (Evo.refl w1) k1 rfl itr_rng⟩
    · rw [if_neg h] at p2; exact p2.elim
/-! ### new things -/
def PostN (K : PySem.W.Frag) (w : Wd) (r : ER) (Q : VK) (W : XK) : Prop := match r with
  | .ok d st' => ∀ a o w', Evo w w' → Ok K w' → w'.st = st' → w.H a = none → w'.H a = some o → w'.M a = none → (∀ l, l < w'.st.length → w'.ρ l ≠ a) → RO K w' o d → Q (.ref a) w'.H
  | .err x st' => ∀ c dd w', Evo w w' → Ok K w' → w'.st = st' → RepX K w' c dd x → W c dd w'.H
  | .no => False
def RTN (K : PySem.W.Frag) (W : WX) (t : TE) (m : EM) : Prop := ∀ (H0 : Hp) (w : Wd) (Γ : DEnv) (σ : L2.St), Ok K w → Fr K H0 w Γ σ → ∀ Q : VK, PostN K w (m Γ w.st) Q (at_ W σ) → t σ w.H Q
def PN (P : Program) (wd : World) (K : PySem.W.Frag) (mg : Str → Option Value) (base : Heap) (k : Nat) (N : List Str) (sc : SC) (W : WX) (e : Expr) (m : EM) : Prop := ∃ t : TE, (∀ X, G P wd K mg base k N sc W X → PE X e t) ∧ RTN K W t m
theorem PostN.shift {w w' : Wd} (e : Evo w w') (k : Ok K w') {r : ER} {Q : VK} {E : XK} (p : PostN K w r Q E) : PostN K w' r Q E := by
  cases r with
  | ok d st => exact fun a o w2 e2 k2 s h => p a o w2 (e.trans k e2) k2 s (e.dom0 k h)
  | err x st => exact fun c dd w2 e2 k2 s r => p c dd w2 (e.trans k e2) k2 s r
  | no => exact p
/-- a new thing at a, not frozen -/
def Wd.al (w : Wd) (a : Addr) (o : HO) : Wd := { w with H := upd w.H a o }
theorem evo_al {w : Wd} (k : Ok K w) {a : Addr} (o : HO) (ha : w.H a = none) : Evo w (w.al a o) where
  mono := fun _ _ h => h
  rho := fun _ _ => rfl
  le := Nat.le_refl _
  newM := fun b u h n => absurd (h.symm.trans n) (fun q => nomatch q)
  newR := fun l h1 h2 => absurd (Nat.lt_of_lt_of_le h2 h1) (Nat.lt_irrefl _)
  keep := fun b u h _ _ => by show upd w.H a o b = _; rw [upd_ne (ne_of_none h ha)]; exact h
/-- a thing that is neither frozen nor in the store is changed -/
theorem ok_al {w : Wd} (k : Ok K w) {a : Addr} (o : HO) (hm : w.M a = Option.none) (hr : ∀ l, l < w.st.length → w.ρ l ≠ a) : Ok K (w.al a o) where
  ex := fun b u h => by
    show upd w.H a o b = _
    have h' : w.M b = some u := h
    rw [upd_ne (ne_of_none h' hm)]; exact k.ex b u h'
  sto := fun l d h => by
    obtain ⟨u, h1, h2⟩ := k.sto l d h
    refine ⟨u, ?_, h2.imp id fun ⟨h2, h3⟩ => ⟨h2, RS.ext (w := w) (w' := w.al a o) ⟨fun _ _ h => h, fun _ _ => rfl, Nat.le_refl _⟩ h3⟩⟩
    show upd w.H a o (w.ρ l) = _
    rw [upd_ne (hr l (getElem?_lt h))]; exact h1
  inj := k.inj
theorem Ok.noR {w : Wd} (k : Ok K w) {a : Addr} (ha : w.H a = Option.none) : ∀ l, l < w.st.length → w.ρ l ≠ a := fun l hl e => by
  obtain ⟨u, h1, _⟩ := k.sto l _ (List.getElem?_eq_getElem hl)
  rw [e, ha] at h1; cases h1
theorem PostN.al {w : Wd} {d : D} {Q : VK} {E : XK} (p : PostN K w (.ok d w.st) Q E) (k : Ok K w) {a : Addr} {o : HO} (ha : w.H a = none) (r : RO K w o d) : Q (.ref a) (upd w.H a o) :=
  p a o (w.al a o) (evo_al k o ha) (ok_al k o (k.none ha) (k.noR ha)) rfl ha upd_same (k.none ha) (k.noR ha) (r.evo (evo_al k o ha))
/-- a new list is frozen -/
theorem fz_new {w w' : Wd} {a : Addr} {vs : List V} {xs : List D} (e : Evo w w') (k : Ok K w') (ha : w.H a = none) (h : w'.H a = some (.lst vs)) (hm : w'.M a = none) (hr : ∀ l, l < w'.st.length → w'.ρ l ≠ a) (r : RepL K w' vs xs) :
    ∃ w2 : Wd, w2.H = w'.H ∧ w2.st = w'.st ∧ Evo w w2 ∧ Ok K w2 ∧ Rep K w2 (.ref a) (.lst xs) := by
  have x : Ext w' { w' with M := upd w'.M a (.lst vs) } := ⟨fun b u q => by show upd w'.M a _ b = _; rw [upd_ne (ne_of_none q hm)]; exact q, fun _ _ => rfl, Nat.le_refl _⟩
  refine ⟨{ w' with M := upd w'.M a (.lst vs) }, rfl, rfl, ⟨(e.ext.trans x).mono, e.rho, e.le, fun b u q n => ?_, e.newR, e.keep⟩, ⟨fun b u q => ?_, fun l d q => ?_, k.inj⟩, ?_⟩
  · by_cases z : b = a
    · rw [z]; exact ha
    · have q' : upd w'.M a (.lst vs) b = some u := q
      rw [upd_ne z] at q'; exact e.newM b u q' n
  · have q' : upd w'.M a (.lst vs) b = some u := q
    by_cases z : b = a
    · rw [z, upd_same] at q'; cases q'; rw [z]; exact h
    · rw [upd_ne z] at q'; exact k.ex b u q'
  · obtain ⟨u, h1, h2⟩ := k.sto l d q
    refine ⟨u, h1, h2.imp id fun ⟨h2, h3⟩ => ⟨?_, h3.ext x⟩⟩
    show upd w'.M a (.lst vs) (w'.ρ l) = _
    rw [upd_ne (hr l (getElem?_lt q))]; exact h2
  · have r' := r.ext x
    exact .lst (by show upd w'.M a _ a = _; exact upd_same) r'.1 r'.2
def IsL (m : EM) : Prop := ∀ Γ st d s, m Γ st = .ok d s → ∃ xs, d = .lst xs
theorem RTN.rt {t : TE} {m : EM} (h : RTN K W t m) (hl : IsL m) : RT K W t m := by
  intro H0 w Γ σ ok f Q p
  refine h H0 w Γ σ ok f Q ?_
  cases e : m Γ w.st with
  | err x st => rw [e] at p; exact p
  | no => rw [e] at p; exact p
  | ok d st =>
    rw [e] at p
    obtain ⟨xs, rfl⟩ := hl _ _ _ _ e
    intro a o w' ev k' s ha ho hm hr r
    obtain ⟨vs, rfl, rl⟩ := r
    obtain ⟨w2, q1, q2, q3, q4, q5⟩ := fz_new ev k' ha ho hm hr rl
    rw [← q1]
    exact p _ w2 q3 q4 (q2.trans s) q5
theorem PN.rt {e : Expr} {m : EM} (h : PN P wd K mg base k N sc W e m) (hl : IsL m) : PR P wd K mg base k N sc W e m := let ⟨t, a, b⟩ := h; ⟨t, a, b.rt hl⟩

/-! ### comprehensions -/
/-- a comprehension's scope within sc -/
def blkS (scope : Scope) (sc : SC) : SC := ⟨{ scope with names := scope.names.map fun (n, k) => if (k == .free && sc.s.kind == .function && sc.s.names.lookup n == some .cell) then (n, .cell) else (n, k) }, fun x => scope.names.lookup x == some .cell, none⟩
abbrev WF : WX := fun _ _ _ _ => False
theorem lookup_far {α : Type} : ∀ (l : List (Str × α)), ∃ n : Nat, ∀ x : Str, n ≤ x.cps.size → l.lookup x = none
  | [] => ⟨0, fun _ _ => rfl⟩
  | p :: l => by
    obtain ⟨n, h⟩ := lookup_far l
    refine ⟨n + p.1.cps.size + 1, fun x hx => ?_⟩
    have ne : (x == p.1) = false := by
      cases e : x == p.1 with
      | false => rfl
      | true => have := eq_of_beq e; subst this; omega
    rw [List.lookup_cons, ne]
    exact h x (by omega)
theorem not_all_cells (names : List (Str × NameKind)) : ¬ (fun x => names.lookup x == some NameKind.cell) = (fun _ => true) := fun h => by
  obtain ⟨n, hn⟩ := lookup_far names
  have h1 := congrFun h ⟨Array.replicate n 0⟩
  have h2 := hn ⟨Array.replicate n 0⟩ (by simp)
  simp only [h2] at h1
  cases h1
theorem g_blk {X : Cx} {scope : Scope} {s : Shared} {H : Hp} {C : Addr} {cl : List (Str × Addr)} {fp : List Addr} (g : G P wd K mg base k N sc W X) : G P wd K mg base k N (blkS scope sc) WF (X.blk s H scope (compEnvC scope cl C X.env) fp) where
  prog := g.prog
  wd := g.wd
  kk := g.kk
  mg := g.mg
  bs := g.bs
  nn := g.nn
  scp := by show relabel scope X.env = _; unfold relabel blkS PySem.Env.kindOf; rw [g.scp]
  calm := g.calm
  room := g.room
  grd := g.grd
  tk := fun _ _ x => by obtain ⟨_, _, _, _, _, _, _, _, _, _, _, _, _, _, _, _, z⟩ := x; exact z
  pass := PassesOwn.never
  fnc := rfl
  code := fun _ _ h => nomatch h
  top := fun h => absurd h (not_all_cells _)
def wipeE (Γ : DEnv) : List Nat → DEnv
  | [] => Γ
  | v :: vs => (wipeE Γ vs).set v .no
theorem fr_no {H0 : Hp} {w : Wd} {Γ : DEnv} {σ : L2.St} (f : Fr K H0 w Γ σ) (i : Nat) : Fr K H0 w (Γ.set i .no) (σ.set i none) where
  len := by simp [f.len]
  sh := fun j e h => by
    by_cases q : i = j
    · subst q
      have hl : i < Γ.length := by have := (List.getElem?_eq_some_iff.mp h).1; simpa using this
      rw [List.getElem?_set_self hl] at h; cases h
    · rw [List.getElem?_set_ne q] at h ⊢; exact f.sh j e h
  ow := fun j e h => by
    by_cases q : i = j
    · subst q
      have hl : i < Γ.length := by have := (List.getElem?_eq_some_iff.mp h).1; simpa using this
      rw [List.getElem?_set_self hl] at h; cases h
    · rw [List.getElem?_set_ne q] at h ⊢; exact f.ow j e h
  dj := fun a b d1 d2 x ne h1 h2 h3 h4 => by
    have na : i ≠ a := fun q => by
      subst q
      have hl : i < Γ.length := by have := (List.getElem?_eq_some_iff.mp h1).1; simpa using this
      rw [List.getElem?_set_self hl] at h1; cases h1
    have nb : i ≠ b := fun q => by
      subst q
      have hl : i < Γ.length := by have := (List.getElem?_eq_some_iff.mp h2).1; simpa using this
      rw [List.getElem?_set_self hl] at h2; cases h2
    rw [List.getElem?_set_ne na] at h1 h3
    rw [List.getElem?_set_ne nb] at h2 h4
    exact f.dj a b d1 d2 x ne h1 h2 h3 h4
theorem fr_wipe {H0 : Hp} {w : Wd} {Γ : DEnv} {σ : L2.St} (f : Fr K H0 w Γ σ) : ∀ vs : List Nat, Fr K H0 w (wipeE Γ vs) (wipe σ vs)
  | [] => f
  | v :: vs => fr_no (fr_wipe f vs) v
def lcL (mg : GM) (mt me : EM) : List D → DEnv → Store → List D → ER
  | [], _, st, acc => .ok (.lst acc) st
  | d :: ds, Γ, st, acc => match mg d Γ with
    | none => .no
    | some Γ1 => match mt Γ1 st with
      | .ok (.bl true) s1 => match me Γ1 s1 with
        | .ok x s2 => if acc.length < 16777216 then lcL mg mt me ds Γ s2 (acc ++ [x]) else .no
        | _ => .no
      | .ok (.bl false) s1 => lcL mg mt me ds Γ s1 acc
      | _ => .no
def eLc (vs : List Nat) (mi : EM) (mg : GM) (mt me : EM) : EM := fun Γ st => (mi Γ st).bind fun d s => match d with | .tup ds => lcL mg mt me ds (wipeE Γ vs) s [] | _ => .no
def eYes : EM := fun _ st => .ok (.bl true) st
def PTj (P : Program) (wd : World) (K : PySem.W.Frag) (mg : Str → Option Value) (base : Heap) (k : Nat) (N : List Str) (sc : SC) (W : WX) (es : List Expr) (m : EM) : Prop := ∃ t : TT, (∀ X, G P wd K mg base k N sc W X → PTs X es t) ∧ RTT K W t m
theorem pj_nil : PTj P wd K mg base k N sc W [] eYes := ⟨_, fun X g => pts_nil, fun H0 w Γ σ ok f Q p => p w (Evo.refl w) ok rfl⟩
theorem pj_one {e : Expr} {m : EM} (h : PTt P wd K mg base k N sc W e m) : PTj P wd K mg base k N sc W [e] m := let ⟨_, p, r⟩ := h; ⟨_, fun X g => pts_one (p X g), r⟩
theorem rtn_lc {wi : TI} {g : TG} {tt : TT} {te : TE} {mi mt me : EM} {mg' : GM} {is vs : List Nat} (hi : RTI K W wi mi) (hg : RTG K g mg' is) (his : ∀ i ∈ is, i ∈ vs) (ht : RTT K WF tt mt) (he : RT K WF te me) : RTN K W (tLc wi g tt te vs) (eLc vs mi mg' mt me) := by
  intro H0 w Γ σ ok f Q p
  refine hi H0 w Γ σ ok f _ ?_
  have p' : PostN K w ((mi Γ w.st).bind _) Q (at_ W σ) := p
  cases h : mi Γ w.st with
  | no => rw [h] at p'; exact p'
  | err x st => rw [h] at p'; exact p'
  | ok d st =>
    rw [h] at p'
    cases d with
    | tup ds =>
      intro J w' ev k' s it
      subst s
      have p1 : PostN K w' (lcL mg' mt me ds (wipeE Γ vs) w'.st []) Q (at_ W σ) := PostN.shift ev k' p'
      have f' := f.evo ev
      intro D hD
      have a0 := evo_al k' (.lst []) hD
      have o0 := ok_al k' (.lst []) (k'.none hD) (k'.noR hD)
      refine ⟨fun i m H => ∃ (w1 : Wd) (acc : List V) (acd : List DL.D), H = w1.H ∧ Evo w' w1 ∧ Ok K w1 ∧ w1.H D = some (.lst acc) ∧ w1.M D = none ∧ (∀ l, l < w1.st.length → w1.ρ l ≠ D) ∧ RepL K w1 acc acd ∧ m = ds.length - i ∧ i ≤ ds.length ∧ PostN K w' (lcL mg' mt me (ds.drop i) (wipeE Γ vs) w1.st acd) Q (at_ W σ),
        ⟨ds.length, w'.al D (.lst []), [], [], rfl, a0, o0, upd_same, k'.none hD, k'.noR hD, .nil, rfl, Nat.zero_le _, p1⟩, ?_⟩
      rintro i m H ⟨w1, acc, acd, rfl, e1, k1, hd1, hm1, hr1, ra, rfl, hle, q⟩
      obtain ⟨go, stop⟩ := it i w1 e1.ext k1
      cases hd : ds[i]? with
      | none =>
        refine .inl ⟨stop hd, ?_⟩
        rw [List.drop_eq_nil_of_le (List.getElem?_eq_none_iff.mp hd)] at q
        exact q D _ w1 e1 k1 rfl hD hd1 hm1 hr1 ⟨acc, rfl, ra⟩
      | some d =>
        obtain ⟨g1, g2⟩ := go d hd
        have hl := getElem?_lt hd
        refine .inr ⟨g1, fun H => ∃ (w1 : Wd) (acc : List V) (acd : List DL.D), H = w1.H ∧ Evo w' w1 ∧ Ok K w1 ∧ w1.H D = some (.lst acc) ∧ w1.M D = none ∧ (∀ l, l < w1.st.length → w1.ρ l ≠ D) ∧ RepL K w1 acc acd ∧ PostN K w' (lcL mg' mt me (ds.drop (i + 1)) (wipeE Γ vs) w1.st acd) Q (at_ W σ), ?_, fun x H2 y => ?_⟩
        · rintro H' ⟨w3, acc3, acd3, rfl, b1, b2, b3, b4, b5, b6, b7⟩
          exact ⟨ds.length - (i + 1), by omega, w3, acc3, acd3, rfl, b1, b2, b3, b4, b5, b6, rfl, hl, b7⟩
        · obtain ⟨w2, rfl, s2, e2, k2, r2⟩ := g2 x H2 y
          rw [List.drop_eq_getElem_cons hl] at q
          have hd' : ds[i] = d := by rw [List.getElem?_eq_getElem hl] at hd; exact Option.some.inj hd
          rw [hd'] at q
          unfold lcL at q
          have fw : Fr K H0 w2 (wipeE Γ vs) (wipe σ vs) := ((fr_wipe f' vs).evo e1).evo e2
          -- what is at D goes on standing while a part is evaluated
          have stand : ∀ {w3 w4 : Wd}, Evo w3 w4 → w3.H D = some (.lst acc) → w3.M D = none → (∀ l, l < w3.st.length → w3.ρ l ≠ D) → w4.H D = some (.lst acc) ∧ w4.M D = none ∧ ∀ l, l < w4.st.length → w4.ρ l ≠ D := fun {w3 w4} e h1 h2 h3 => by
            refine ⟨e.keep D _ h1 h2 h3, ?_, fun l hl z => ?_⟩
            · cases z : w4.M D with
              | none => rfl
              | some u => have y := e.newM D u z h2; rw [h1] at y; cases y
            · by_cases z2 : l < w3.st.length
              · exact h3 l z2 ((e.rho l z2).symm.trans z)
              · have y := e.newR l (Nat.le_of_not_lt z2) hl
                rw [z, h1] at y; cases y
          cases h1 : mg' d (wipeE Γ vs) with
          | none => rw [h1] at q; exact q.elim
          | some Γ2 =>
            rw [h1] at q
            dsimp only at q
            refine hg H0 w2 _ Γ2 _ x d k2 fw r2 h1 _ fun σ2 f2 wp => ⟨(wp vs his).trans (wipe_wipe vs), ?_⟩
            refine ht H0 w2 Γ2 σ2 k2 f2 _ ?_
            rw [s2]
            obtain ⟨c1, c2, c3⟩ := stand e2 hd1 hm1 hr1
            cases h2 : mt Γ2 w1.st with
            | no => rw [h2] at q; exact q.elim
            | err x st => rw [h2] at q; exact q.elim
            | ok b s1 =>
              rw [h2] at q
              cases b with
              | bl b =>
                intro w3 e3 k3 s3
                obtain ⟨d1, d2, d3⟩ := stand e3 c1 c2 c3
                have e13 : Evo w' w3 := (e1.trans k1 e2).trans k2 e3
                cases b with
                | false =>
                  refine iteF ⟨w3, acc, acd, rfl, e13, k3, d1, d2, d3, (ra.evo e2).evo e3, ?_⟩
                  rw [s3]; exact q
                | true =>
                  refine iteT ?_
                  refine he H0 w3 Γ2 σ2 k3 (f2.evo e3) _ ?_
                  rw [s3]
                  dsimp only at q
                  cases h3 : me Γ2 s1 with
                  | no => rw [h3] at q; exact q.elim
                  | err x st => rw [h3] at q; exact q.elim
                  | ok x' s4 =>
                    rw [h3] at q
                    dsimp only at q
                    intro v w4 e4 k4 s4' rv
                    obtain ⟨y1, y2, y3⟩ := stand e4 d1 d2 d3
                    by_cases hlen : acd.length < 16777216
                    · rw [if_pos hlen] at q
                      have ra4 := ((ra.evo e2).evo e3).evo e4
                      refine ⟨acc, y1, by rw [ra.1, sizeLine_eq]; exact hlen, w4.al D (.lst (acc ++ [v])), acc ++ [v], acd ++ [x'], rfl, ?_, ok_al k4 _ y2 y3, upd_same, y2, y3, RepL.ext (w := w4) (w' := w4.al D _) ⟨fun _ _ h => h, fun _ _ => rfl, Nat.le_refl _⟩ (ra4.append (.cons rv .nil)), ?_⟩
                      · have e14 := e13.trans k3 e4
                        exact ⟨e14.mono, e14.rho, e14.le, e14.newM, e14.newR, fun b u hb hmb hrb => by
                          show upd w4.H D _ b = _
                          rw [upd_ne (ne_of_none hb hD)]; exact e14.keep b u hb hmb hrb⟩
                      · show PostN K w' (lcL mg' mt me _ _ w4.st _) Q _
                        rw [s4']; exact q
                    · rw [if_neg hlen] at q; exact q.elim
              | _ => exact q.elim
    | _ => exact p'.elim
theorem pn_lc {elt tg iter : Expr} {ifs : List Expr} {scope : Scope} {own : List (Str × Nat)} {pos : Pos} {mi mt me : EM} {mg' : GM} {is : List Nat} (nd : N.Nodup) (ok : BlkOk N sc.s scope own) (hi : PIt P wd K mg base k N sc W tg iter mi) (hg : PGt P wd K mg base k N (blkS scope sc) WF tg mg' is)
    (ht : PTj P wd K mg base k N (blkS scope sc) WF ifs mt) (he : PR P wd K mg base k N (blkS scope sc) WF elt me) (his : ∀ i ∈ is, i ∈ own.map (·.2) := by decide) (hs : ∀ env x, foldedSetIterable iter env x = pure x := by intro _ _; rfl) :
    PN P wd K mg base k N sc W (.ListComp elt [⟨tg, iter, ifs, 0⟩] scope pos) (eLc (own.map (·.2)) mi mg' mt me) := by
  obtain ⟨ti, pi, ri⟩ := hi
  obtain ⟨tg', pg, rg⟩ := hg
  obtain ⟨tt, pt, rt⟩ := ht
  obtain ⟨te, pe, re⟩ := he
  exact ⟨_, fun X g => pe_lc g.calm (by rw [g.nn]; exact nd) (pi X g) (by rw [g.nn, g.scp]; exact ok) (fun s H C cl fp => pg _ (g_blk g)) (fun s H C cl fp => pt _ (g_blk g)) (fun s H C cl fp => pe _ (g_blk g)) (hs X.env), rtn_lc ri rg his rt re⟩
theorem lcL_lst {mg' : GM} {mt me : EM} {d : DL.D} {s : Store} : ∀ (ds : List DL.D) (Γ : DEnv) (st : Store) (acc : List DL.D), lcL mg' mt me ds Γ st acc = .ok d s → ∃ xs, d = .lst xs
  | [], Γ, st, acc, h => by cases h; exact ⟨_, rfl⟩
  | x :: ds, Γ, st, acc, h => by
    unfold lcL at h
    split at h
    · cases h
    · split at h
      · split at h
        · split at h
          · exact lcL_lst ds _ _ _ h
          · cases h
        · cases h
      · exact lcL_lst ds _ _ _ h
      · cases h
theorem isL_lc {vs : List Nat} {mi mt me : EM} {mg' : GM} : IsL (eLc vs mi mg' mt me) := fun Γ st d s h => by
  have h' : (mi Γ st).bind _ = .ok d s := h
  cases e : mi Γ st with
  | no => rw [e] at h'; cases h'
  | err x st => rw [e] at h'; cases h'
  | ok x s1 =>
    rw [e] at h'
    cases x with
    | tup ds => exact lcL_lst ds _ _ _ h'
    | _ => cases h'
theorem pr_lc {elt tg iter : Expr} {ifs : List Expr} {scope : Scope} {own : List (Str × Nat)} {pos : Pos} {mi mt me : EM} {mg' : GM} {is : List Nat} (nd : N.Nodup) (ok : BlkOk N sc.s scope own) (hi : PIt P wd K mg base k N sc W tg iter mi) (hg : PGt P wd K mg base k N (blkS scope sc) WF tg mg' is)
    (ht : PTj P wd K mg base k N (blkS scope sc) WF ifs mt) (he : PR P wd K mg base k N (blkS scope sc) WF elt me) (his : ∀ i ∈ is, i ∈ own.map (·.2) := by decide) (hs : ∀ env x, foldedSetIterable iter env x = pure x := by intro _ _; rfl) :
    PR P wd K mg base k N sc W (.ListComp elt [⟨tg, iter, ifs, 0⟩] scope pos) (eLc (own.map (·.2)) mi mg' mt me) := (pn_lc nd ok hi hg ht he his hs).rt isL_lc
end
end DL
namespace DL
open PySem L2
section
variable {P : Program} {wd : World} {K : PySem.W.Frag} {mg : Str → Option Value} {base : Heap} {k : Nat} {N : List Str} {sc : SC} {W : WX}

/-! ### the store's things change -/
theorem ext_same {w w' : Wd} (m : w'.M = w.M) (r : w'.ρ = w.ρ) (l : w'.st.length = w.st.length) : Ext w w' := ⟨fun _ _ h => by rw [m]; exact h, fun _ _ => by rw [r], Nat.le_of_eq l.symm⟩
def Wd.put (w : Wd) (l : Nat) (d : D) (o : HO) : Wd := { w with st := w.st.set l d, H := upd w.H (w.ρ l) o }
theorem ext_put {w : Wd} {l : Nat} {d : D} {o : HO} : Ext w (w.put l d o) := ext_same rfl rfl (by show (w.st.set l d).length = _; simp)
theorem put_ok {w : Wd} (k : Ok K w) {l : Nat} {d : D} {o : HO} (hl : l < w.st.length) (h2 : w.M (w.ρ l) = none) (r : RO K w o d) : Evo w (w.put l d o) ∧ Ok K (w.put l d o) := by
  obtain ⟨u, h1, _⟩ := k.sto l _ (List.getElem?_eq_getElem hl)
  refine ⟨⟨fun _ _ h => h, fun _ _ => rfl, ext_put.le, fun a o h n => absurd (h.symm.trans n) (fun q => nomatch q), fun m a b => ?_, fun a u' h n nl => ?_⟩, ⟨fun a u' h => ?_, fun m e h => ?_, fun a b ha hb => ?_⟩⟩
  · have b' : m < (w.st.set l d).length := b
    simp at b'; omega
  · show upd w.H _ o a = _
    rw [upd_ne (Ne.symm (nl l hl))]; exact h
  · show upd w.H _ o a = _
    have h' : w.M a = some u' := h
    rw [upd_ne (ne_of_none h' h2)]; exact k.ex a u' h'
  · have h' : (w.st.set l d)[m]? = some e := h
    by_cases q : l = m
    · subst q
      rw [List.getElem?_set_self hl] at h'; cases h'
      exact ⟨o, upd_same, .inr ⟨h2, .inl (r.ext ext_put)⟩⟩
    · rw [List.getElem?_set_ne q] at h'
      obtain ⟨u2, g1, g2⟩ := k.sto m e h'
      refine ⟨u2, ?_, g2.imp id fun ⟨g2, g3⟩ => ⟨g2, g3.ext ext_put⟩⟩
      show upd w.H _ o (w.ρ m) = _
      rw [upd_ne (fun z => q (k.inj l m hl (getElem?_lt h') z.symm))]; exact g1
  · have ha' : a < (w.st.set l d).length := ha
    have hb' : b < (w.st.set l d).length := hb
    simp at ha' hb'
    exact k.inj a b ha' hb'
/-- o[i] = e: o a list, a dict of the store -/
def setAt (d : D) (i x : D) : Option D := match d, i with
  | .lst xs, .int j => match ixN xs.length j with | some n => some (.lst (xs.set n x)) | none => none
  | _, _ => none
def sSub (mo mi me : EM) : SM := fun Γ st => (me Γ st).bs Γ fun x s1 => (mo Γ s1).bs Γ fun o s2 => (mi Γ s2).bs Γ fun i s3 => match o with
  | .ref l => match s3[l]? with
    | some d => match setAt d i x with
      | some d' => .nx Γ (s3.set l d')
      | none => .no
    | none => .no
  | _ => .no
theorem ps_sub' {o i e : Expr} {mo mi me : EM} {pos pos' : Pos} (he : PR P wd K mg base k N sc W e me) (ho : PR P wd K mg base k N sc W o mo) (hi : PR P wd K mg base k N sc W i mi)
    (ha : ∀ env v, assign (.Subscript o i pos') env v = (do let ov ← holding [v] (eval o env); let iv ← holding [v, ov] (eval i env); standAt pos'; holding [v, ov, iv] (setItem ov iv v); release [v, ov, iv] []) := by intro _ _; rfl)
    (hs : ∀ env, swapsWithSole [.Subscript o i pos'] e pos.line env = pure false := by intro _; rfl) (hw : ∀ env, swappedStores [.Subscript o i pos'] e env = pure none := by intro _; rfl) :
    PSt P wd K mg base k N sc W (.Assign [.Subscript o i pos'] e pos) (sSub mo mi me) := by
  obtain ⟨te, pe, re⟩ := he
  obtain ⟨to, po, ro⟩ := ho
  obtain ⟨ti, pi, ri⟩ := hi
  refine ⟨tAsg te (gSub to ti rSetL), fun X g => ps_asg (pe X g) (pg_sub (po X g) (pi X g) set_list (fun v => ha X.env v)) (hs X.env) (hw X.env), ?_⟩
  intro w0 w Γ σ e0 ok f Dn q
  refine re.useS e0 ok f q fun x v w1 e1 k1 f1 r1 x1 p1 => ?_
  refine ro.useS e1 k1 f1 p1 fun o u w2 e2 k2 f2 r2 x2 p2 => ?_
  refine ri.useS e2 k2 f2 p2 fun i y w3 e3 k3 f3 r3 x3 p3 => ?_
  have r1' := (r1.ext x2).ext x3
  cases r2 with
  | @ref l hl =>
    have hl3 : l < w3.st.length := Nat.lt_of_lt_of_le hl x3.le
    dsimp only at p3
    rw [List.getElem?_eq_getElem hl3] at p3
    dsimp only at p3
    have lv := fun h ht => k3.live (List.getElem?_eq_getElem hl3) h ht
    revert p3 lv
    cases w3.st[l] with
    | lst xs =>
      cases i with
      | int j =>
        cases r3
        intro p3 lv
        obtain ⟨ob, h1, h2, h3⟩ := lv (by simp) (by simp)
        obtain ⟨vs, rfl, rl⟩ := h3
        dsimp only [setAt] at p3
        cases hj : ixN xs.length j with
        | none => rw [hj] at p3; exact p3.elim
        | some n =>
          rw [hj] at p3
          dsimp only at p3
          obtain ⟨ev, kv⟩ := put_ok (o := .lst (vs.set n v)) (d := .lst (xs.set n x)) k3 hl3 h2 ⟨_, rfl, rl.set r1' n⟩
          rw [← x3.rho l hl]
          refine ⟨w3.ρ l, vs, j, n, rfl, rfl, h1, by rw [rl.1]; exact hj, ?_⟩
          exact p3 (w3.put l _ _) σ (e3.trans k3 ev) ev.ext kv rfl (f3.evo ev)
      | _ => intro p3; exact p3.elim
    | _ => intro p3; exact p3.elim
  | _ => exact p3.elim

/-! ### own things -/
def sNew (i : Nat) (m : EM) : SM := fun Γ st => (m Γ st).bs Γ fun d s => .nx (Γ.set i (.ow d)) s
theorem fr_own {H0 : Hp} {w : Wd} {Γ : DEnv} {σ : L2.St} (f : Fr K H0 w Γ σ) {a : Addr} {o : HO} {d : D} (ha : w.H a = some o) (hm : w.M a = none) (h0 : H0 a = none) (hr : ∀ l, l < w.st.length → w.ρ l ≠ a) (r : RO K w o d) (i : Nat)
    (hn : ∀ (j : Nat) (e : D), j ≠ i → Γ[j]? = some (.ow e) → σ[j]? ≠ some (some (.ref a))) : Fr K H0 w (Γ.set i (.ow d)) (σ.set i (some (.ref a))) where
  len := by simp [f.len]
  sh := fun j e h => by
    by_cases q : i = j
    · subst q
      have hl : i < Γ.length := by have := (List.getElem?_eq_some_iff.mp h).1; simpa using this
      rw [List.getElem?_set_self hl] at h; cases h
    · rw [List.getElem?_set_ne q] at h ⊢; exact f.sh j e h
  ow := fun j e h => by
    by_cases q : i = j
    · subst q
      have hl : i < Γ.length := by have := (List.getElem?_eq_some_iff.mp h).1; simpa using this
      rw [List.getElem?_set_self hl] at h; cases h
      exact ⟨a, o, List.getElem?_set_self (by rw [f.len]; exact hl), ha, hm, h0, hr, r⟩
    · rw [List.getElem?_set_ne q] at h ⊢; exact f.ow j e h
  dj := fun x y d1 d2 b ne h1 h2 h3 h4 => by
    by_cases qx : i = x
    · subst qx
      have hl : i < Γ.length := by have := (List.getElem?_eq_some_iff.mp h1).1; simpa using this
      rw [List.getElem?_set_self (by rw [f.len]; exact hl)] at h3
      cases h3
      rw [List.getElem?_set_ne ne] at h2 h4
      exact hn y d2 (Ne.symm ne) h2 h4
    · rw [List.getElem?_set_ne qx] at h1 h3
      by_cases qy : i = y
      · subst qy
        have hl : i < Γ.length := by have := (List.getElem?_eq_some_iff.mp h2).1; simpa using this
        rw [List.getElem?_set_self (by rw [f.len]; exact hl)] at h4
        cases h4
        exact hn x d1 (Ne.symm qx) h1 h3
      · rw [List.getElem?_set_ne qy] at h2 h4
        exact f.dj x y d1 d2 b ne h1 h2 h3 h4
/-- x = something new: x's own -/
theorem rts_new {t : TE} {m : EM} (h : RTN K W t m) (i : Nat) : RTS K W (tAsg t (gName i)) (sNew i m) := by
  intro w0 w Γ σ e0 ok f Dn p
  refine h w0.H w Γ σ ok f _ ?_
  have p' : PostS K w0 w ((m Γ w.st).bs Γ _) Dn W := p
  cases e : m Γ w.st with
  | no => rw [e] at p'; exact p'
  | err x st => rw [e] at p'; exact fun c dd w' ev k' s r => p' c dd w' σ (e0.trans ok ev) ev.ext k' s (f.evo ev) r
  | ok d st =>
    rw [e] at p'
    intro a o w' ev k' s ha ho hm hr r
    refine p' w' _ (e0.trans ok ev) ev.ext k' s ?_
    refine fr_own (f.evo ev) ho hm (e0.dom0 ok ha) hr r i fun j e' nj hj hs => ?_
    obtain ⟨b, u, h1, h2, _⟩ := f.ow j e' hj
    rw [hs] at h1; cases h1
    rw [ha] at h2; cases h2
theorem ps_new' (i : Nat) {x : Str} {e : Expr} {m : EM} {pos pos' : Pos} (nd : N.Nodup) (h : PN P wd K mg base k N sc W e m) (hi : N[i]? = some x := by rfl) (hx : Loc sc.s x := by first | exact Or.inl rfl | exact Or.inr rfl) (hf : sc.fn x = true ∨ sc.s.names.lookup x = some .local := by first | exact Or.inl rfl | exact Or.inr rfl)
    (hw : ∀ env, swappedStores [.Name x pos'] e env = pure none := by intro _; rfl) (hn : ∀ env, swapsWithSole [.Name x pos'] e pos.line env = pure false := by intro _; rfl) :
    PSt P wd K mg base k N sc W (.Assign [.Name x pos'] e pos) (sNew i m) := by
  obtain ⟨t, p, r⟩ := h
  refine ⟨tAsg t (gName i), fun X g => ps_asg (p X g) (pg_name (by rw [g.nn]; exact nd) (by rw [g.nn]; exact hi) (by rw [g.scp]; exact hx) ?_) (hn X.env) (hw X.env), rts_new r i⟩
  rw [g.fnc, g.scp]; exact hf
theorem pn_lst {es : List Expr} {ms : EM} {pos : Pos} (h : PAr P wd K mg base k N sc W es ms) : PN P wd K mg base k N sc W (.List es pos) (eLst ms) := by
  obtain ⟨t, p, r⟩ := h
  refine ⟨_, fun X g => pe_lst (p X g), ?_⟩
  intro H0 w Γ σ ok f Q q
  refine RTA.use (P := fun w r => PostN K w r Q (at_ W σ)) r ok f (fun _ _ e k p => p.shift e k) (fun _ _ p => p) (fun p => p) (fun d st hb => by cases d <;> first | rfl | exact absurd rfl (hb _)) q fun ds vs w1 e1 k1 f1 r1 p1 => ?_
  have p2 : PostN K w1 (if ds.length ≤ 16777216 then .ok (.lst ds) w1.st else .no) Q (at_ W σ) := p1
  by_cases hl : ds.length ≤ 16777216
  · rw [if_pos hl] at p2
    exact ⟨by rw [r1.1, sizeLine_eq]; exact hl, fun a ha => p2.al k1 ha ⟨vs, rfl, r1⟩⟩
  · rw [if_neg hl] at p2; exact p2.elim
/-- an own thing becomes shared (lists) -/
def frz (i : Nat) (Γ : DEnv) : DEnv := match Γ[i]? with
  | some (.ow (.lst xs)) => Γ.set i (.sh (.lst xs))
  | _ => Γ
def sFrz (i : Nat) (m : SM) : SM := fun Γ st => m (frz i Γ) st
/-- an own thing changes -/
theorem ow_put {w0 w : Wd} {Γ : DEnv} {σ : L2.St} (e0 : Evo w0 w) (k : Ok K w) (f : Fr K w0.H w Γ σ) {i : Nat} {d d' : D} (hi : Γ[i]? = some (.ow d)) {a : Addr} (ha : σ[i]? = some (some (.ref a))) {o' : HO} (r : RO K w o' d') :
    Evo w0 (w.al a o') ∧ Ext w (w.al a o') ∧ Ok K (w.al a o') ∧ Fr K w0.H (w.al a o') (Γ.set i (.ow d')) σ := by
  obtain ⟨a', o, h1, h2, h3, h4, h5, h6⟩ := f.ow i d hi
  rw [ha] at h1; cases h1
  have x : Ext w (w.al a o') := ext_same rfl rfl rfl
  have hl := getElem?_lt hi
  refine ⟨⟨e0.mono, e0.rho, e0.le, e0.newM, e0.newR, fun b u hb hm hr => ?_⟩, x, ok_al k o' h3 h5, ⟨by simp [f.len], fun j e h => ?_, fun j e h => ?_, fun y z d1 e1 b ne g1 g2 g3 => ?_⟩⟩
  · show upd w.H a o' b = _
    rw [upd_ne (ne_of_none hb h4)]; exact e0.keep b u hb hm hr
  · by_cases z : i = j
    · subst z; rw [List.getElem?_set_self hl] at h; cases h
    · rw [List.getElem?_set_ne z] at h
      obtain ⟨v, g1, g2⟩ := f.sh j e h
      exact ⟨v, g1, g2.ext x⟩
  · by_cases z : i = j
    · subst z; rw [List.getElem?_set_self hl] at h; cases h
      exact ⟨a, o', ha, upd_same, h3, h4, h5, r.ext x⟩
    · rw [List.getElem?_set_ne z] at h
      obtain ⟨b, u, g1, g2, g3, g4, g5, g6⟩ := f.ow j e h
      have nb : b ≠ a := fun q => f.dj i j _ e a z hi h ha (by rw [g1, q])
      refine ⟨b, u, g1, ?_, g3, g4, g5, g6.ext x⟩
      show upd w.H a _ b = _
      rw [upd_ne nb]; exact g2
  · have c : ∀ {j : Nat} {e : D}, (Γ.set i (.ow d'))[j]? = some (.ow e) → ∃ e', Γ[j]? = some (.ow e') := fun {j e} h => by
      by_cases z : i = j
      · subst z; exact ⟨d, hi⟩
      · rw [List.getElem?_set_ne z] at h; exact ⟨e, h⟩
    obtain ⟨d2, c1⟩ := c g1
    obtain ⟨e2, c2⟩ := c g2
    exact f.dj y z d2 e2 b ne c1 c2 g3
/-- how a built-in's method is called, whatever the frame -/
structure BmS (o : Expr) (name : Str) (e : Expr) (es : List Expr) (apos cpos : Pos) : Prop where
  base : ∀ env, attributeBase o name env (eval o env) = eval o env := by intro _; rfl
  few : ∀ env, ((backTo cpos (starEach (e :: es) env)).all (fun x => !x.1) && (backToKw cpos (keywordEach [] env)).all (fun x => x.1.isSome)
      && decide ((e :: es).length + ([] : List Keyword).length + (if ([] : List Keyword).isEmpty then 0 else 1) < 30)) = true := by intro _; rfl
  line : (apos.endLine == cpos.line) = true := by rfl
  star : ∀ env, starEach (e :: es) env = (false, eval e env) :: starEach es env := by intro _; rfl
  plain : ∀ env, (backTo cpos (starEach es env)).any (·.1) = false := by intro _; rfl
/-- x.append(e), x its own list -/
def sApp (i : Nat) (m : EM) : SM := fun Γ st => match Γ[i]? with
  | some (.ow (.lst xs)) => (m Γ st).bs Γ fun d s => if xs.length < 16777216 then .nx (Γ.set i (.ow (.lst (xs ++ [d])))) s else .no
  | _ => .no
theorem ps_app' (i : Nat) {x : Str} {e : Expr} {m : EM} {pos xpos apos cpos : Pos} (h : PR P wd K mg base k N sc W e m) (b : BmS (.Name x xpos) "append" e [] apos cpos) (hN : N[i]? = some x := by rfl) (hv : Vis sc.s x := by first | exact Or.inl rfl | exact Or.inr (Or.inl rfl) | exact Or.inr (Or.inr rfl)) (hd : (x == ("__debug__" : Str)) = false := by decide)
    (hcd : (x == ("__classdict__" : Str)) = false := by decide) (hsw : ∀ env, swapsWith (.Call (.Attribute (.Name x xpos) "append" apos) [e] [] cpos) none pos.line env = pure false := by intro _; rfl) :
    PSt P wd K mg base k N sc W (.Expr (.Call (.Attribute (.Name x xpos) "append" apos) [e] [] cpos) pos) (sApp i m) := by
  obtain ⟨t, p, r⟩ := h
  refine ⟨tDrop (tBM K "list" rAppend (tVar i) (tCons t tNil)), fun X g => ps_expr (by
    have := pe_bm (X := X) PySem.F.plainAttrs_list PySem.F.slot_list_append PySem.F.type_list_append mt_append (pe_var (pos := xpos) (by rw [g.nn]; exact hN) (by rw [g.scp]; exact hv) hd hcd) (pa_cons (p X g) pa_nil (b.star X.env)) (cpos := cpos) (apos := apos) (b.base X.env) (b.few X.env) b.line (b.star X.env) (b.plain X.env)
    rw [g.kk] at this; exact this) (hsw X.env), ?_⟩
  intro w0 w Γ σ e0 ok f Dn q
  unfold sApp at q
  split at q
  · rename_i xs hi
    obtain ⟨a, o, h1, h2, h3, h4, h5, h6⟩ := f.ow i _ hi
    obtain ⟨vs, rfl, rl⟩ := h6
    refine ⟨_, h1, .inl ⟨rfl, vs, SqL.of h2⟩, ?_⟩
    refine r.useS e0 ok f q fun d v w1 e1 k1 f1 r1 x1 p1 => ?_
    obtain ⟨a', o', g1, g2, _, _, _, g6⟩ := f1.ow i _ hi
    rw [h1] at g1; cases g1
    obtain ⟨us, rfl, ru⟩ := g6
    by_cases hl : xs.length < 16777216
    · rw [if_pos hl] at p1
      refine ⟨a, us, v, rfl, rfl, g2, by rw [ru.1, sizeLine_eq]; exact hl, ?_⟩
      obtain ⟨c1, c2, c3, c4⟩ := ow_put e1 k1 f1 hi h1 (o' := .lst (us ++ [v])) (d' := .lst (xs ++ [d])) ⟨_, rfl, ru.append (.cons r1 .nil)⟩
      exact p1 _ σ c1 c2 c3 rfl c4
    · rw [if_neg hl] at p1; exact p1.elim
  · exact q.elim
/-- l.append(e), l a list of the store -/
def sAppR (mo me : EM) : SM := fun Γ st => (mo Γ st).bs Γ fun o s1 => match o with
  | .ref l => match s1[l]? with
    | some (.lst _) => (me Γ s1).bs Γ fun d s2 => match s2[l]? with
      | some (.lst xs) => if xs.length < 16777216 then .nx Γ (s2.set l (.lst (xs ++ [d]))) else .no
      | _ => .no
    | _ => .no
  | _ => .no
theorem ps_appR {o e : Expr} {mo me : EM} {pos apos cpos : Pos} (ho : PR P wd K mg base k N sc W o mo) (h : PR P wd K mg base k N sc W e me) (b : BmS o "append" e [] apos cpos) (hsw : ∀ env, swapsWith (.Call (.Attribute o "append" apos) [e] [] cpos) none pos.line env = pure false := by intro _; rfl) :
    PSt P wd K mg base k N sc W (.Expr (.Call (.Attribute o "append" apos) [e] [] cpos) pos) (sAppR mo me) := by
  obtain ⟨to, po, ro⟩ := ho
  obtain ⟨t, p, r⟩ := h
  refine ⟨tDrop (tBM K "list" rAppend to (tCons t tNil)), fun X g => ps_expr (by
    have := pe_bm (X := X) PySem.F.plainAttrs_list PySem.F.slot_list_append PySem.F.type_list_append mt_append (po X g) (pa_cons (p X g) pa_nil (b.star X.env)) (cpos := cpos) (apos := apos) (b.base X.env) (b.few X.env) b.line (b.star X.env) (b.plain X.env)
    rw [g.kk] at this; exact this) (hsw X.env), ?_⟩
  intro w0 w Γ σ e0 ok f Dn q
  refine ro.useS e0 ok f q fun o u w1 e1 k1 f1 r1 x1 p1 => ?_
  cases r1 with
  | @ref l hl =>
    dsimp only at p1
    split at p1
    · rename_i ys hy
      obtain ⟨ob, g1, g2, g3⟩ := k1.live hy (by simp)
      obtain ⟨vs, rfl, rl⟩ := g3
      refine ⟨.inl ⟨rfl, vs, SqL.of g1⟩, ?_⟩
      refine r.useS e1 k1 f1 p1 fun d v w2 e2 k2 f2 r2 x2 p2 => ?_
      split at p2
      · rename_i xs hx
        obtain ⟨ob, h1, h2, h3⟩ := k2.live hx (by simp)
        obtain ⟨us, rfl, ru⟩ := h3
        by_cases hq : xs.length < 16777216
        · rw [if_pos hq] at p2
          obtain ⟨ev, kv⟩ := put_ok (o := .lst (us ++ [v])) (d := .lst (xs ++ [d])) k2 (getElem?_lt hx) h2 ⟨_, rfl, ru.append (.cons r2 .nil)⟩
          rw [← x2.rho l hl]
          exact ⟨w2.ρ l, us, v, rfl, rfl, h1, by rw [ru.1, sizeLine_eq]; exact hq, p2 (w2.put l _ _) σ (e2.trans k2 ev) ev.ext kv rfl (f2.evo ev)⟩
        · rw [if_neg hq] at p2; exact p2.elim
      · exact p2.elim
    · exact p1.elim
  | _ => exact p1.elim

/-! ### texts -/
def strsOf : List D → Option (List Str)
  | [] => some []
  | .str x :: r => (strsOf r).map (x :: ·)
  | _ => none
theorem strsOf_rep {w : Wd} : ∀ {ds : List D} {ys : List Str} {vs : List V}, strsOf ds = some ys → RepL K w vs ds → vs = ys.map V.str
  | [], ys, vs, h, r => by cases h; rw [r.inv0]; rfl
  | d :: ds, ys, vs, h, r => by
    obtain ⟨v, us, rfl, r1, r2⟩ := r.inv
    cases d with
    | str x =>
      cases q : strsOf ds with
      | none => simp [strsOf, q] at h
      | some zs =>
        simp only [strsOf, q, Option.map_some, Option.some.injEq] at h
        subst h
        cases r1
        rw [strsOf_rep q r2]; rfl
    | _ => simp [strsOf] at h
/-- sep.join(xs) -/
def oJoin : D → D → Store → ER
  | .str a, .lst ds, st => match strsOf ds with
    | some ys => if (ys.map (·.length)).sum + ys.length * a.length ≤ 16777216 then .ok (.str (Txt.join a ys)) st else .no
    | none => .no
  | .str a, .tup ds, st => match strsOf ds with
    | some ys => if (ys.map (·.length)).sum + ys.length * a.length ≤ 16777216 then .ok (.str (Txt.join a ys)) st else .no
    | none => .no
  | _, _, _ => .no
end
end DL
namespace DL
open PySem L2
section
variable {P : Program} {wd : World} {K : PySem.W.Frag} {mg : Str → Option Value} {base : Heap} {k : Nat} {N : List Str} {sc : SC} {W : WX}
/-- o.m(e), o a text -/
def eM1 (f : D → D → Store → ER) (mo me : EM) : EM := fun Γ st => (mo Γ st).bind fun o s1 => match o with
  | .str x => (me Γ s1).bind fun e s2 => f (.str x) (deref s2 e) s2
  | _ => .no
theorem rt_m1 {r : V → List V → Hp → VK → Prop} {f : D → D → Store → ER} {to te : TE} {mo me : EM} (h : OpD K (fun x y H Q => r x [y] H Q) f) (ro : RT K W to mo) (re : RB K W te me) : RT K W (tM1 r to te) (eM1 f mo me) := by
  intro H0 w Γ σ ok f0 Q p
  refine RT.use (P := fun w r => PostE K w r Q (at_ W σ)) ro ok f0 (fun _ _ e k p => p.shift e k) (fun _ _ p => p) (fun p => p) p fun dx x w1 e1 k1 f1 rx p1 => ?_
  cases rx with
  | @str z =>
    refine ⟨⟨z, rfl⟩, ?_⟩
    refine RB.use (P := fun w r => PostE K w r Q (at_ W σ)) re k1 f1 (fun _ _ e k p => p.shift e k) (fun _ _ p => p) (fun p => p) p1 fun dy y w2 e2 k2 f2 vy p2 => ?_
    exact h w2 (.str z) y (.str z) _ Q _ k2 rfl (vy.vw k2 f2) p2
  | _ => exact p1.elim
theorem pr_m1 {r : V → List V → Hp → VK → Prop} {f : D → D → Store → ER} {id : String} {name : Str} {o e : Expr} {mo me : EM} {apos pos : Pos} (slot : Slot "str" name id) (ty : typeOf (.builtin id) = pure (.type "method_descriptor")) (rule : ∀ X, G P wd K mg base k N sc W X → MtR X id r) (h : OpD K (fun x y H Q => r x [y] H Q) f)
    (ho : PR P wd K mg base k N sc W o mo) (he : PB P wd K mg base k N sc W e me) (hs : ∀ env, starEach [e] env = [(false, eval e env)] := by intro _; rfl) (hbase : ∀ env, attributeBase o name env (eval o env) = eval o env := by intro _; rfl) (hline : (apos.endLine == pos.line) = true := by rfl) :
    PR P wd K mg base k N sc W (.Call (.Attribute o name apos) [e] [] pos) (eM1 f mo me) := by
  obtain ⟨to, po, ro⟩ := ho
  obtain ⟨te, pe, re⟩ := he
  exact ⟨_, fun X g => pe_m1 slot ty (rule X g) (po X g) (pe X g) (hs X.env) (hbase X.env) hline, rt_m1 h ro re⟩
theorem od_join : OpD K (fun x y H Q => ∃ a p, ∃ ys : List Str, x = .str a ∧ [y] = [V.ref p] ∧ (SqL K H p (ys.map V.str) ∨ SqT K H p (ys.map V.str)) ∧ (ys.map (·.length)).sum + ys.length * a.length ≤ 16777216 ∧ Q (.str (Txt.join a ys)) H) oJoin := fun w x y dx dy Q E k vx vy p => by
  cases dx <;> cases dy <;> try exact p.elim
  case str.lst a ds =>
    obtain rfl := vx
    obtain ⟨b, vs, rfl, h, r⟩ := vy
    have p' : PostE K w (match strsOf ds with | some ys => if (ys.map (·.length)).sum + ys.length * a.length ≤ 16777216 then .ok (.str (Txt.join a ys)) w.st else .no | none => .no) Q E := p
    cases q : strsOf ds with
    | none => rw [q] at p'; exact p'.elim
    | some ys =>
      rw [q] at p'
      have e := strsOf_rep q r
      subst e
      obtain ⟨hz, p'⟩ := PostE.ite p'
      exact ⟨a, b, ys, rfl, rfl, .inl (SqL.of h), hz, p'.now k .str⟩
  case str.tup a ds =>
    obtain rfl := vx
    obtain ⟨b, vs, rfl, h, r⟩ := vy
    have p' : PostE K w (match strsOf ds with | some ys => if (ys.map (·.length)).sum + ys.length * a.length ≤ 16777216 then .ok (.str (Txt.join a ys)) w.st else .no | none => .no) Q E := p
    cases q : strsOf ds with
    | none => rw [q] at p'; exact p'.elim
    | some ys =>
      rw [q] at p'
      have e := strsOf_rep q r
      subst e
      obtain ⟨hz, p'⟩ := PostE.ite p'
      exact ⟨a, b, ys, rfl, rfl, .inr h, hz, p'.now k .str⟩
theorem pr_join {o e : Expr} {mo me : EM} {apos pos : Pos} (ho : PR P wd K mg base k N sc W o mo) (he : PB P wd K mg base k N sc W e me) (hs : ∀ env, starEach [e] env = [(false, eval e env)] := by intro _; rfl) (hbase : ∀ env, attributeBase o "join" env (eval o env) = eval o env := by intro _; rfl) (hline : (apos.endLine == pos.line) = true := by rfl) :
    PR P wd K mg base k N sc W (.Call (.Attribute o "join" apos) [e] [] pos) (eM1 oJoin mo me) :=
  pr_m1 PySem.F.slot_str_join PySem.F.type_str_join (fun X g => by have := mt_join (X := X); rw [g.kk] at this; exact this) od_join ho he hs hbase hline

/-! ### comparisons by name -/
variable {a b : Expr} {ma mb : EM} {pos : Pos}
theorem pr_le (ha : PB P wd K mg base k N sc W a ma) (hb : PB P wd K mg base k N sc W b mb) : PR P wd K mg base k N sc W (.Compare a [.LtE] [b] pos) (eOp oLe ma mb) := pr_cmp (fun X g => OpR.or' op_le op_le_str) od_le ha hb
theorem pt_lt (ha : PB P wd K mg base k N sc W a ma) (hb : PB P wd K mg base k N sc W b mb) : PTt P wd K mg base k N sc W (.Compare a [.Lt] [b] pos) (eOp oLt ma mb) := pt_cmp' (fun X g => OpR.or' op_lt op_lt_str) od_lt ha hb
theorem pt_gt (ha : PB P wd K mg base k N sc W a ma) (hb : PB P wd K mg base k N sc W b mb) : PTt P wd K mg base k N sc W (.Compare a [.Gt] [b] pos) (eOp oGt ma mb) := pt_cmp' (fun X g => OpR.or' op_gt op_gt_str) od_gt ha hb
theorem pt_ge (ha : PB P wd K mg base k N sc W a ma) (hb : PB P wd K mg base k N sc W b mb) : PTt P wd K mg base k N sc W (.Compare a [.GtE] [b] pos) (eOp oGe ma mb) := pt_cmp' (fun X g => OpR.or' op_ge op_ge_str) od_ge ha hb
theorem pt_isN (ha : PB P wd K mg base k N sc W a ma) (hb : PB P wd K mg base k N sc W b mb) : PTt P wd K mg base k N sc W (.Compare a [.Is] [b] pos) (eOp oIsN ma mb) := pt_cmp' (fun X g => op_isN) od_isN ha hb
end
/-- where a def of the text stands -/
def HF (K : PySem.W.Frag) (mg : Str → Option Value) (x : Str) (st : Stmt) : Prop := ∃ (f : Addr) (fd : FuncData), Fun K x x st f fd ∧ mg x = some (.ref f)
section
variable {P : Program} {wd : World} {K : PySem.W.Frag} {mg : Str → Option Value} {base : Heap} {k : Nat} {N : List Str}
theorem fn_ok {x : Str} {st : Stmt} {ps : List Str} {m : SM} (h : HF K mg x st) (S : FnScope N ps (defScope st)) (hb : ∀ (kV doc pm : Value) (an : Option Addr) (cdv ct : Value) (us : List Value), us.length = ps.length → bindArgs (PySem.W.fnOf x x (defArgs st) (defBody st) (defScope st) .none kV doc pm an cdv ct) ⟨us, []⟩ = pure (ps.zip us))
    (b : ∀ W : WX, PSl P wd K mg base k N ⟨defScope st, fun _ => true, none⟩ W (defBody st) m) : Fn P wd K mg base (k + 1) x (run N ps m) := by
  obtain ⟨f, fd, F, hm⟩ := h
  exact ⟨f, fd, ps, def_ok F S b, hm, F.kp, F.binds hb⟩
end
end DL
namespace DL
open PySem L2
section
variable {P : Program} {wd : World} {K : PySem.W.Frag} {mg : Str → Option Value} {base : Heap} {k : Nat} {N : List Str} {sc : SC} {W : WX}
/-- a new thing goes into the store -/
def Wd.push (w : Wd) (a : Addr) (d : D) : Wd := { w with st := w.st ++ [d], ρ := fun l => if l = w.st.length then a else w.ρ l }
theorem push_ok {w0 w : Wd} {a : Addr} {o : HO} {d : D} (e : Evo w0 w) (k : Ok K w) (h0 : w0.H a = none) (ha : w.H a = some o) (hm : w.M a = none) (hr : ∀ l, l < w.st.length → w.ρ l ≠ a) (r : RO K w o d) :
    Evo w0 (w.push a d) ∧ Ext w (w.push a d) ∧ Ok K (w.push a d) := by
  have hp : ∀ l, l < w.st.length → (w.push a d).ρ l = w.ρ l := fun l hl => by show (if l = w.st.length then a else w.ρ l) = _; rw [if_neg (Nat.ne_of_lt hl)]
  have hq : (w.push a d).ρ w.st.length = a := by show (if w.st.length = w.st.length then a else _) = _; rw [if_pos rfl]
  have hn : (w.push a d).st.length = w.st.length + 1 := by show (w.st ++ [d]).length = _; simp
  have x : Ext w (w.push a d) := ⟨fun _ _ h => h, hp, by rw [hn]; exact Nat.le_succ _⟩
  refine ⟨⟨e.mono, fun l hl => (hp l (Nat.lt_of_lt_of_le hl e.le)).trans (e.rho l hl), Nat.le_trans e.le x.le, e.newM, fun l h1 h2 => ?_, e.keep⟩, x, ⟨k.ex, fun l c h => ?_, fun l m hl hm' q => ?_⟩⟩
  · rw [hn] at h2
    by_cases z : l < w.st.length
    · rw [hp l z]; exact e.newR l h1 z
    · have : l = w.st.length := by omega
      rw [this, hq]; exact h0
  · have h' : (w.st ++ [d])[l]? = some c := h
    by_cases z : l < w.st.length
    · rw [List.getElem?_append_left z] at h'
      obtain ⟨u, g1, g2⟩ := k.sto l c h'
      rw [hp l z]
      exact ⟨u, g1, g2.imp id fun ⟨g2, g3⟩ => ⟨g2, g3.ext x⟩⟩
    · have hl := getElem?_lt h'
      simp at hl
      have : l = w.st.length := by omega
      subst this
      simp at h'
      subst h'
      rw [hq]
      exact ⟨o, ha, .inr ⟨hm, .inl (r.ext x)⟩⟩
  · rw [hn] at hl hm'
    by_cases z : l < w.st.length
    · by_cases y : m < w.st.length
      · rw [hp l z, hp m y] at q; exact k.inj l m z y q
      · have : m = w.st.length := by omega
        rw [hp l z, this, hq] at q; exact absurd q (hr l z)
    · have e1 : l = w.st.length := by omega
      by_cases y : m < w.st.length
      · rw [hp m y, e1, hq] at q; exact absurd q.symm (hr m y)
      · omega
/-- return something new, for the store -/
def sRetSt (m : EM) : SM := fun Γ st => (m Γ st).bs Γ fun d s => .ret (.ref s.length) (s ++ [d])
theorem ps_retSt {e : Expr} {m : EM} {pos : Pos} (h : PN P wd K mg base k N sc W e m) : PSt P wd K mg base k N sc W (.Return (some e) pos) (sRetSt m) := by
  obtain ⟨t, p, r⟩ := h
  refine ⟨_, fun X g => ps_ret (p X g), ?_⟩
  intro w0 w Γ σ e0 ok f Dn q
  refine r w0.H w Γ σ ok f _ ?_
  have p' : PostS K w0 w ((m Γ w.st).bs Γ _) Dn W := q
  cases e : m Γ w.st with
  | no => rw [e] at p'; exact p'
  | err x st => rw [e] at p'; exact fun c dd w' ev k' s r => p' c dd w' σ (e0.trans ok ev) ev.ext k' s (f.evo ev) r
  | ok d st =>
    rw [e] at p'
    intro a o w' ev k' s ha ho hm hr r
    subst s
    obtain ⟨e1, x1, k1⟩ := push_ok (e0.trans ok ev) k' (e0.dom0 ok ha) ho hm hr r
    have hq : (w'.push a d).ρ w'.st.length = a := by show (if w'.st.length = w'.st.length then a else _) = _; rw [if_pos rfl]
    have rr : Rep K (w'.push a d) (.ref ((w'.push a d).ρ w'.st.length)) (.ref w'.st.length) := .ref (by show _ < (w'.st ++ [d]).length; simp)
    rw [hq] at rr
    exact p' _ (w'.push a d) e1 k1 rfl rr
end
end DL
namespace DL
open PySem L2
/-! ### the words, applied: by simp (disch := omega) -/
@[simp] theorem getE_0 {α : Type} (a : α) (l : List α) : (a :: l)[0]? = some a := rfl
@[simp] theorem getE_s {α : Type} (a : α) (l : List α) (n : Nat) : (a :: l)[n+1]? = l[n]? := rfl
@[simp] theorem getE_nil {α : Type} (n : Nat) : ([] : List α)[n]? = none := rfl
section
variable {Γ : DEnv} {st : Store} {ma mb mc mi me mo ml mh : EM} {a b : SM} {i j : Nat} {d : D}
@[simp] theorem eVar_ap : eVar i Γ st = (match Γ[i]? with | some (.sh d) => .ok d st | _ => .no) := rfl
@[simp] theorem eVarB_ap : eVarB i Γ st = (match Γ[i]? with | some (.sh d) => .ok d st | some (.ow d) => .ok d st | _ => .no) := rfl
@[simp] theorem eC_ap : eC d Γ st = .ok d st := rfl
@[simp] theorem eOp_ap {f : D → D → Store → ER} : eOp f ma mb Γ st = (ma Γ st).bind fun x s1 => (mb Γ s1).bind fun y s2 => f (deref s2 x) (deref s2 y) s2 := rfl
@[simp] theorem eAnd_ap : eAnd ma mb Γ st = (ma Γ st).bind fun d s => match d with | .bl true => mb Γ s | .bl false => .ok (.bl false) s | _ => .no := rfl
@[simp] theorem eOr_ap : eOr ma mb Γ st = (ma Γ st).bind fun d s => match d with | .bl true => .ok (.bl true) s | .bl false => mb Γ s | _ => .no := rfl
@[simp] theorem eNot_ap : eNot ma Γ st = (ma Γ st).bind fun d s => match d with | .bl b => .ok (.bl !b) s | _ => .no := rfl
@[simp] theorem eIf_ap : eIf mc ma mb Γ st = (mc Γ st).bind fun d s => match d with | .bl true => ma Γ s | .bl false => mb Γ s | _ => .no := rfl
@[simp] theorem eNil_ap : eNil Γ st = .ok (.tup []) st := rfl
@[simp] theorem eCons_ap : eCons ma mb Γ st = (ma Γ st).bind fun d s => (mb Γ s).bind fun r s2 => match r with | .tup ds => .ok (.tup (d :: ds)) s2 | _ => .no := rfl
@[simp] theorem eTup_ap : eTup ma Γ st = (ma Γ st).bind fun d s => match d with | .tup ds => if ds.length ≤ 16777216 then .ok (.tup ds) s else .no | _ => .no := rfl
@[simp] theorem eLst_ap : eLst ma Γ st = (ma Γ st).bind fun d s => match d with | .tup ds => if ds.length ≤ 16777216 then .ok (.lst ds) s else .no | _ => .no := rfl
@[simp] theorem eCall_ap {F : DF} : eCall F ma Γ st = (ma Γ st).bind fun d s => match d with | .tup ds => F ds s | _ => .no := rfl
@[simp] theorem eB_ap {f : List D → Store → ER} : eB f ma Γ st = (ma Γ st).bind fun d s => match d with | .tup ds => f (ds.map (deref s)) s | _ => .no := rfl
@[simp] theorem eM1_ap {f : D → D → Store → ER} : eM1 f mo me Γ st = (mo Γ st).bind fun o s1 => match o with | .str x => (me Γ s1).bind fun e s2 => f (.str x) (deref s2 e) s2 | _ => .no := rfl
@[simp] theorem eInt_ap : eInt ma Γ st = (ma Γ st).bind fun d s => match d with | .int i => .ok (.int i) s | _ => .no := rfl
@[simp] theorem eSl_ap : eSl ma ml mh Γ st = (ma Γ st).bind fun x s1 => (ml Γ s1).bind fun l s2 => match part l with
  | none => .no
  | some lo => (mh Γ s2).bind fun h s3 => match part h with
    | none => .no
    | some hi => oSl lo hi (deref s3 x) s3 := rfl
@[simp] theorem part_non : part .non = some none := rfl
@[simp] theorem part_int {k : Int} : part (.int k) = some (some k) := rfl
@[simp] theorem eIter_ap : eIter ma Γ st = (ma Γ st).bind fun d s => match d with
  | .lst xs => .ok (.tup xs) s
  | .tup xs => .ok (.tup xs) s
  | .dct kvs => .ok (.tup (kvs.map fun p => kD p.1)) s
  | _ => .no := rfl
@[simp] theorem eRng1_ap : eRng1 ma Γ st = (ma Γ st).bind fun d s => match d with
  | .tup [.int j] => if -4611686018427387904 ≤ j ∧ j < 4611686018427387904 then .ok (.tup (rng 0 1 j.toNat)) s else .no
  | _ => .no := rfl
@[simp] theorem eRng2_ap : eRng2 ma Γ st = (ma Γ st).bind fun d s => match d with
  | .tup [.int i, .int j] => if -4611686018427387904 ≤ i ∧ i < 4611686018427387904 ∧ -4611686018427387904 ≤ j ∧ j < 4611686018427387904 then .ok (.tup (rng i 1 (j - i).toNat)) s else .no
  | _ => .no := rfl
@[simp] theorem eLc_ap {vs : List Nat} {g : GM} {mt : EM} : eLc vs mi g mt me Γ st = (mi Γ st).bind fun d s => match d with | .tup ds => lcL g mt me ds (wipeE Γ vs) s [] | _ => .no := rfl
@[simp] theorem eYes_ap : eYes Γ st = .ok (.bl true) st := rfl
@[simp] theorem sSkip_ap : sSkip Γ st = .nx Γ st := rfl
@[simp] theorem sSeq_ap : sSeq a b Γ st = (a Γ st).bind b := rfl
@[simp] theorem sDrop_ap : sDrop ma Γ st = (ma Γ st).bs Γ fun _ s => .nx Γ s := rfl
@[simp] theorem sRet_ap : sRet ma Γ st = (ma Γ st).bs Γ fun d s => .ret d s := rfl
@[simp] theorem sRetN_ap : sRetN Γ st = .ret .non st := rfl
@[simp] theorem sRetSt_ap : sRetSt ma Γ st = (ma Γ st).bs Γ fun d s => .ret (.ref s.length) (s ++ [d]) := rfl
@[simp] theorem sIf_ap : sIf mc a b Γ st = (mc Γ st).bs Γ fun d s => match d with | .bl true => a Γ s | .bl false => b Γ s | _ => .no := rfl
@[simp] theorem sAsg_ap : sAsg i ma Γ st = (ma Γ st).bs Γ fun d s => .nx (Γ.set i (.sh d)) s := rfl
@[simp] theorem sNew_ap : sNew i ma Γ st = (ma Γ st).bs Γ fun d s => .nx (Γ.set i (.ow d)) s := rfl
@[simp] theorem sBreak_ap : sBreak Γ st = .bk Γ st := rfl
@[simp] theorem sCont_ap : sCont Γ st = .ct Γ st := rfl
@[simp] theorem sFrz_ap : sFrz i a Γ st = a (frz i Γ) st := rfl
@[simp] theorem sFor_ap {g : GM} : sFor mi g b Γ st = (mi Γ st).bs Γ fun d s => match d with | .tup ds => forL g b ds Γ s | _ => .no := rfl
@[simp] theorem sSub_ap : sSub mo mi me Γ st = (me Γ st).bs Γ fun x s1 => (mo Γ s1).bs Γ fun o s2 => (mi Γ s2).bs Γ fun i s3 => match o with
  | .ref l => match s3[l]? with
    | some d => match setAt d i x with
      | some d' => .nx Γ (s3.set l d')
      | none => .no
    | none => .no
  | _ => .no := rfl
@[simp] theorem sApp_ap : sApp i ma Γ st = (match Γ[i]? with
  | some (.ow (.lst xs)) => (ma Γ st).bs Γ fun d s => if xs.length < 16777216 then .nx (Γ.set i (.ow (.lst (xs ++ [d])))) s else .no
  | _ => .no) := rfl
@[simp] theorem sAppR_ap : sAppR mo me Γ st = (mo Γ st).bs Γ fun o s1 => match o with
  | .ref l => match s1[l]? with
    | some (.lst _) => (me Γ s1).bs Γ fun d s2 => match s2[l]? with
      | some (.lst xs) => if xs.length < 16777216 then .nx Γ (s2.set l (.lst (xs ++ [d]))) else .no
      | _ => .no
    | _ => .no
  | _ => .no := rfl
@[simp] theorem fin_nx : fin (.nx Γ st) = .ok .non st := rfl
@[simp] theorem fin_ret : fin (.ret d st) = .ok d st := rfl
@[simp] theorem fin_err {x : Xn} : fin (.err x Γ st) = .err x st := rfl
@[simp] theorem gN_ap {i : Nat} : gN i d Γ = some (Γ.set i (.sh d)) := rfl
@[simp] theorem frz_own {xs : List D} (h : Γ[i]? = some (.ow (.lst xs))) : frz i Γ = Γ.set i (.sh (.lst xs)) := by unfold frz; rw [h]
@[simp] theorem deref_ref {l : Nat} : deref st (.ref l) = st[l]?.getD .non := rfl
@[simp] theorem deref_int {k : Int} : deref st (.int k) = .int k := rfl
@[simp] theorem deref_bl {k : Bool} : deref st (.bl k) = .bl k := rfl
@[simp] theorem deref_str {k : Str} : deref st (.str k) = .str k := rfl
@[simp] theorem deref_non : deref st .non = .non := rfl
@[simp] theorem deref_lst {k : List D} : deref st (.lst k) = .lst k := rfl
@[simp] theorem deref_tup {k : List D} : deref st (.tup k) = .tup k := rfl
@[simp] theorem deref_dct {k : List (Key × D)} : deref st (.dct k) = .dct k := rfl
@[simp] theorem deref_ins {C : String} {k : List (Str × D)} : deref st (.ins C k) = .ins C k := rfl
@[simp] theorem deref_scr {k : List Int} : deref st (.scr k) = .scr k := rfl
@[simp] theorem deref_cls {k : String} : deref st (.cls k) = .cls k := rfl
@[simp] theorem deref_opq : deref st .opq = .opq := rfl
@[simp] theorem deref_exc {C : String} {fs : List (Str × D)} : deref st (.exc C fs) = .exc C fs := rfl
@[simp] theorem deref_ty {k : String} : deref st (.ty k) = .ty k := rfl
@[simp] theorem oAdd_i {x y : Int} : oAdd (.int x) (.int y) st = .ok (.int (x + y)) st := rfl
@[simp] theorem oAdd_s {x y : Str} (h : x.length + y.length ≤ 16777216) : oAdd (.str x) (.str y) st = .ok (.str (x ++ y)) st := if_pos h
@[simp] theorem oAdd_l {x y : List D} (h : x.length + y.length ≤ 16777216) : oAdd (.lst x) (.lst y) st = .ok (.lst (x ++ y)) st := if_pos h
@[simp] theorem oSub_i {x y : Int} : oSub (.int x) (.int y) st = .ok (.int (x - y)) st := rfl
@[simp] theorem oMul_i {x y : Int} (h : (-18446744073709551616 < x ∧ x < 18446744073709551616) ∨ (-18446744073709551616 < y ∧ y < 18446744073709551616)) : oMul (.int x) (.int y) st = .ok (.int (x * y)) st := if_pos h
@[simp] theorem oFdiv_i {x y : Int} (h : 0 < y ∧ y < 1073741824) : oFdiv (.int x) (.int y) st = .ok (.int (x / y)) st := if_pos h
@[simp] theorem oMod_i {x y : Int} (h : 0 < y) : oMod (.int x) (.int y) st = .ok (.int (x % y)) st := if_pos h
@[simp] theorem oPow_i {x y : Int} (h : 0 ≤ y ∧ y ≤ 1000000 ∧ x.natAbs < 18446744073709551616) : oPow (.int x) (.int y) st = .ok (.int (x ^ y.toNat)) st := if_pos h
@[simp] theorem oLt_i {x y : Int} : oLt (.int x) (.int y) st = .ok (.bl (decide (x < y))) st := rfl
@[simp] theorem oLe_i {x y : Int} : oLe (.int x) (.int y) st = .ok (.bl (decide (x ≤ y))) st := rfl
@[simp] theorem oGt_i {x y : Int} : oGt (.int x) (.int y) st = .ok (.bl (decide (y < x))) st := rfl
@[simp] theorem oGe_i {x y : Int} : oGe (.int x) (.int y) st = .ok (.bl (decide (y ≤ x))) st := rfl
@[simp] theorem dEq_i {x y : Int} : dEq (.int x) (.int y) = some (decide (x = y)) := rfl
@[simp] theorem dEq_s {x y : Str} : dEq (.str x) (.str y) = some (decide (x = y)) := rfl
@[simp] theorem dEq_b {x y : Bool} : dEq (.bl x) (.bl y) = some (decide (x = y)) := rfl
@[simp] theorem dEq_nn : dEq .non .non = some true := rfl
@[simp] theorem oEq_ap {x y : D} : oEq x y st = (match dEq x y with | some b => .ok (.bl b) st | none => .no) := rfl
@[simp] theorem oNe_ap {x y : D} : oNe x y st = (match dEq x y with | some b => .ok (.bl !b) st | none => .no) := rfl
@[simp] theorem bLen_l {xs : List D} : bLen [.lst xs] st = .ok (.int xs.length) st := rfl
@[simp] theorem bLen_t {xs : List D} : bLen [.tup xs] st = .ok (.int xs.length) st := rfl
@[simp] theorem bLen_d {xs : List (Key × D)} : bLen [.dct xs] st = .ok (.int xs.length) st := rfl
@[simp] theorem bLen_s {x : Str} (h : x.length ≤ 16777216) : bLen [.str x] st = .ok (.int x.length) st := if_pos h
@[simp] theorem bList_l {xs : List D} : bList [.lst xs] st = .ok (.lst xs) st := rfl
@[simp] theorem bList_t {xs : List D} : bList [.tup xs] st = .ok (.lst xs) st := rfl
@[simp] theorem bMin2_i {x y : Int} : bMin2 [.int x, .int y] st = .ok (.int (if y < x then y else x)) st := rfl
@[simp] theorem oIx_l {xs : List D} {k : Int} : oIx (.lst xs) (.int k) st = (match L2.atI xs k with | some d => .ok d st | none => .no) := rfl
@[simp] theorem oIx_t {xs : List D} {k : Int} : oIx (.tup xs) (.int k) st = (match L2.atI xs k with | some d => .ok d st | none => .no) := rfl
@[simp] theorem atI_0 {α : Type} (a : α) (l : List α) : L2.atI (a :: l) 0 = some a := L2.atI_nat (j := 0) rfl
@[simp] theorem atI_1 {α : Type} (a b : α) (l : List α) : L2.atI (a :: b :: l) 1 = some b := L2.atI_nat (j := 1) rfl
@[simp] theorem atI_2 {α : Type} (a b c : α) (l : List α) : L2.atI (a :: b :: c :: l) 2 = some c := L2.atI_nat (j := 2) rfl
theorem ixN_lt {n j : Nat} (h : j < n) : ixN n (j : Int) = some j := by unfold ixN; rw [if_pos (Int.natCast_nonneg j), if_pos (by omega)]; rfl
@[simp] theorem setAt_0 (a x : D) (l : List D) : setAt (.lst (a :: l)) (.int 0) x = some (.lst (x :: l)) := by
  show (match ixN (a :: l).length ((0 : Nat) : Int) with | some n => _ | none => none) = _; rw [ixN_lt (by simp)]; rfl
@[simp] theorem setAt_1 (a b x : D) (l : List D) : setAt (.lst (a :: b :: l)) (.int 1) x = some (.lst (a :: x :: l)) := by
  show (match ixN (a :: b :: l).length ((1 : Nat) : Int) with | some n => _ | none => none) = _; rw [ixN_lt (by simp)]; rfl
@[simp] theorem setAt_2 (a b c x : D) (l : List D) : setAt (.lst (a :: b :: c :: l)) (.int 2) x = some (.lst (a :: b :: x :: l)) := by
  show (match ixN (a :: b :: c :: l).length ((2 : Nat) : Int) with | some n => _ | none => none) = _; rw [ixN_lt (by simp)]; rfl
@[simp] theorem oSl_l {xs : List D} {lo hi : Option Int} : oSl lo hi (.lst xs) st = .ok (.lst (cutL xs lo hi)) st := rfl
@[simp] theorem oSl_s {x : Str} {lo hi : Option Int} (h : x.length ≤ 16777216) : oSl lo hi (.str x) st = .ok (.str (cutS x lo hi)) st := if_pos h
end
end DL
namespace DL
open PySem L2
/-! ### repr -/
def kP : Key → PyData
  | .inl i => .int i
  | .inr x => .str x
mutual
def D.sh : D → Option PyData
  | .non => some .none
  | .bl b => some (.bool b)
  | .int i => some (.int i)
  | .str x => some (.str x)
  | .lst xs => (D.shL xs).map .list
  | .tup xs => (D.shL xs).map .tuple
  | .dct kvs => (D.shP kvs).map .dict
  | _ => none
def D.shL : List D → Option (List PyData)
  | [] => some []
  | x :: xs => match D.sh x, D.shL xs with
    | some d, some ds => some (d :: ds)
    | _, _ => none
def D.shP : List (Key × D) → Option (List (PyData × PyData))
  | [] => some []
  | (k, x) :: xs => match D.sh x, D.shP xs with
    | some d, some ds => some ((kP k, d) :: ds)
    | _, _ => none
end
section
variable {K : PySem.W.Frag}
theorem RepP.inv {κ : Type} {w : Wd} {vs : List (κ × V)} {k : κ} {x : D} {xs : List (κ × D)} (h : RepP K w vs ((k, x) :: xs)) : ∃ v r, vs = (k, v) :: r ∧ Rep K w v x ∧ RepP K w r xs := by
  obtain ⟨h1, h2⟩ := h
  cases vs with
  | nil => simp at h1
  | cons v r =>
    obtain ⟨k', v'⟩ := v
    simp at h1
    obtain ⟨rfl, h1⟩ := h1
    exact ⟨v', r, rfl, h2 0 _ _ rfl rfl, h1, fun i a b p q => h2 (i + 1) a b (by simpa using p) (by simpa using q)⟩
theorem RepP.inv0 {κ : Type} {w : Wd} {vs : List (κ × V)} (h : RepP K w vs ([] : List (κ × D))) : vs = [] := by
  have := h.1
  simpa using this
theorem reads_key {h : Heap} {k : Key} {v : Value} (e : keyIs k v = true) : Reads h v (kP k) [] := by
  rcases keyIs_shape e with ⟨i, t, rfl, rfl⟩ | ⟨x, t, rfl, rfl⟩
  · exact .int i t
  · exact .str x t
variable {X : Cx} {pins : List (Addr × Obj)} {σ : L2.St} {s : Shared} {w : Wd}
theorem ne_sm (I : Inv X pins σ w.H s) (hs : ∃ o, X.base.get? sysModules = some o) {a : Addr} {o : HO} (h : w.H a = some o) : sysModules ≠ a := fun q => by
  obtain ⟨u, hu⟩ := hs
  have := (I.bs _ u hu).2
  rw [q, h] at this; cases this
/-- a dict's parts, read -/
theorem dct_parts (I : Inv X pins σ w.H s) {a : Addr} {vs : List (Key × V)} (h : Rd w.H a (.dK vs)) : ∃ o es ep us, s.heap.get? a = some o ∧ o.cls = .type "dict" ∧ o.data = .dict es ep ∧ KV vs us ∧ Pairs (mixKind X.prog X.w) es.toList us ∧ sysModules ≠ a := by
  obtain ⟨_, hne, us, kv, o, es, ep, h1, h2, h3, h4, h5, _⟩ := dk_rd I.hok h
  exact ⟨o, es, ep, us, h1, h2.1, h3, kv, h5, fun q => by simp [q] at hne⟩
mutual
theorem rep_reads (I : Inv X pins σ w.H s) (hs : ∃ o, X.base.get? sysModules = some o) (k : Ok X.K w) : ∀ (d : D) (v : V) (u : Value) (e : PyData), Rep X.K w v d → d.sh = some e → RelV v u → ∃ as, Reads s.heap u e as ∧ sysModules ∉ as
  | .non, _, _, _, r, h, q => by cases r; cases h; cases q; exact ⟨_, .none, by simp⟩
  | .bl b, _, _, _, r, h, q => by cases r; cases h; cases q; exact ⟨_, .bool b, by simp⟩
  | .int i, _, _, _, r, h, q => by cases r; cases h; obtain ⟨t, rfl⟩ := q; exact ⟨_, .int i t, by simp⟩
  | .str x, _, _, _, r, h, q => by cases r; cases h; obtain ⟨t, rfl⟩ := q; exact ⟨_, .str x t, by simp⟩
  | .lst xs, _, _, _, r, h, q => by
    cases r with
    | lst m l z =>
      cases q
      cases p : D.shL xs with
      | none => simp [D.sh, p] at h
      | some es =>
        simp only [D.sh, p, Option.map_some, Option.some.injEq] at h
        subst h
        have hm := k.ex _ _ m
        obtain ⟨its, rv, ⟨o, n, ho, hc, _, hd⟩, _⟩ := I.list (SqL.of hm)
        obtain ⟨as, hr, hn⟩ := repL_reads I hs k xs _ its es ⟨l, z⟩ p rv
        exact ⟨_, .list ho hc hd hr, by simp [ne_sm I hs hm, hn]⟩
  | .tup xs, _, _, _, r, h, q => by
    cases r with
    | tup m l z =>
      cases q
      cases p : D.shL xs with
      | none => simp [D.sh, p] at h
      | some es =>
        simp only [D.sh, p, Option.map_some, Option.some.injEq] at h
        subst h
        obtain ⟨its, rv, ⟨o, ho, hc, n, hd⟩, _⟩ := I.tuple (k.sqT m)
        obtain ⟨as, hr, hn⟩ := repL_reads I hs k xs _ its es ⟨l, z⟩ p rv
        exact ⟨_, .tuple ho hc hd hr, hn⟩
  | .dct xs, _, _, _, r, h, q => by
    cases r with
    | dct m l z =>
      cases q
      cases p : D.shP xs with
      | none => simp [D.sh, p] at h
      | some es =>
        simp only [D.sh, p, Option.map_some, Option.some.injEq] at h
        subst h
        obtain ⟨o, es', ep, us, h1, h2, h3, h4, h5, h6⟩ := dct_parts I (.inr ⟨_, k.ex _ _ m⟩)
        obtain ⟨as, bs, r1, r2, n1, n2⟩ := repP_reads I hs k xs _ us es'.toList es ⟨l, z⟩ p h4 h5
        exact ⟨_, .dict h1 h2 h3 r1 r2, by simp [h6, n1, n2]⟩
  | .ins _ _, _, _, _, _, h, _ => by simp [D.sh] at h
  | .ref _, _, _, _, _, h, _ => by simp [D.sh] at h
  | .scr _, _, _, _, _, h, _ => by simp [D.sh] at h
  | .ty _, _, _, _, _, h, _ => by simp [D.sh] at h
  | .cls _, _, _, _, _, h, _ => by simp [D.sh] at h
  | .opq, _, _, _, _, h, _ => by simp [D.sh] at h
  | .tomb, _, _, _, _, h, _ => by simp [D.sh] at h
  | .exc _ _, _, _, _, _, h, _ => by simp [D.sh] at h
theorem repL_reads (I : Inv X pins σ w.H s) (hs : ∃ o, X.base.get? sysModules = some o) (k : Ok X.K w) : ∀ (ds : List D) (vs : List V) (us : List Value) (es : List PyData), RepL X.K w vs ds → D.shL ds = some es → Vals vs us → ∃ as, ReadsAll s.heap us es as ∧ sysModules ∉ as
  | [], _, _, _, r, h, q => by
    have := r.inv0; subst this; cases q
    simp only [D.shL, Option.some.injEq] at h; subst h
    exact ⟨_, .nil, by simp⟩
  | d :: ds, _, _, _, r, h, q => by
    obtain ⟨v, vs, rfl, r1, r2⟩ := r.inv
    cases q with
    | cons q1 q2 =>
      unfold D.shL at h
      cases p1 : D.sh d with
      | none => rw [p1] at h; cases h
      | some e =>
        cases p2 : D.shL ds with
        | none => rw [p1, p2] at h; cases h
        | some es =>
          rw [p1, p2] at h
          cases h
          obtain ⟨as, a1, a2⟩ := rep_reads I hs k d v _ e r1 p1 q1
          obtain ⟨bs, b1, b2⟩ := repL_reads I hs k ds vs _ es r2 p2 q2
          exact ⟨_, .cons a1 b1, by simp [a2, b2]⟩
theorem repP_reads (I : Inv X pins σ w.H s) (hs : ∃ o, X.base.get? sysModules = some o) (k : Ok X.K w) : ∀ (ds : List (Key × D)) (vs : List (Key × V)) (us : List (Key × Value)) (des : List DictEntry) (es : List (PyData × PyData)), RepP X.K w vs ds → D.shP ds = some es → KV vs us → Pairs (mixKind X.prog X.w) des us →
    ∃ as bs, ReadsAll s.heap (des.map (·.key)) (es.map (·.1)) as ∧ ReadsAll s.heap (des.map (·.val)) (es.map (·.2)) bs ∧ sysModules ∉ as ∧ sysModules ∉ bs
  | [], _, _, _, _, r, h, q, t => by
    have := r.inv0; subst this; cases q; cases t
    simp only [D.shP, Option.some.injEq] at h; subst h
    exact ⟨_, _, .nil, .nil, by simp, by simp⟩
  | (y, d) :: ds, _, _, _, _, r, h, q, t => by
    obtain ⟨v, vs, rfl, r1, r2⟩ := r.inv
    cases q with
    | @cons _ b _ bs q1 q2 =>
      cases t with
      | cons t1 t2 t3 =>
        obtain ⟨b1, b2⟩ := b
        obtain ⟨q0, q1⟩ := q1
        unfold D.shP at h
        cases p1 : D.sh d with
        | none => rw [p1] at h; cases h
        | some e =>
          cases p2 : D.shP ds with
          | none => rw [p1, p2] at h; cases h
          | some es =>
            rw [p1, p2] at h
            cases h
            obtain ⟨as, a1, a2⟩ := rep_reads I hs k d v _ e r1 p1 q1
            obtain ⟨cs, ds', c1, c2, c3, c4⟩ := repP_reads I hs k ds vs _ _ es r2 p2 q2 t3
            have q0' : y = b1 := q0
            subst q0'
            have a1' := a1
            rw [← (show _ = b2 from t2)] at a1'
            exact ⟨_, _, .cons (reads_key t1) c1, .cons a1' c2, by simpa using c3, by simp [a2, c4]⟩
end
/-- .. what is read -/
theorem vw_reads (I : Inv X pins σ w.H s) (hs : ∃ o, X.base.get? sysModules = some o) (k : Ok X.K w) {d : D} {v : V} {u : Value} {e : PyData} (r : Vw X.K w v d) (h : d.sh = some e) (q : RelV v u) : ∃ as, Reads s.heap u e as ∧ sysModules ∉ as := by
  cases d with
  | non => obtain rfl := r; cases h; cases q; exact ⟨_, .none, by simp⟩
  | bl b => obtain rfl := r; cases h; cases q; exact ⟨_, .bool b, by simp⟩
  | int i => obtain rfl := r; cases h; obtain ⟨t, rfl⟩ := q; exact ⟨_, .int i t, by simp⟩
  | str x => obtain rfl := r; cases h; obtain ⟨t, rfl⟩ := q; exact ⟨_, .str x t, by simp⟩
  | lst xs =>
    obtain ⟨a, vs, rfl, m, z⟩ := r
    cases q
    cases p : D.shL xs with
    | none => simp [D.sh, p] at h
    | some es =>
      simp only [D.sh, p, Option.map_some, Option.some.injEq] at h
      subst h
      obtain ⟨its, rv, ⟨o, n, ho, hc, _, hd⟩, _⟩ := I.list (SqL.of m)
      obtain ⟨as, hr, hn⟩ := repL_reads I hs k xs _ its es z p rv
      exact ⟨_, .list ho hc hd hr, by simp [ne_sm I hs m, hn]⟩
  | tup xs =>
    obtain ⟨a, vs, rfl, m, z⟩ := r
    cases q
    cases p : D.shL xs with
    | none => simp [D.sh, p] at h
    | some es =>
      simp only [D.sh, p, Option.map_some, Option.some.injEq] at h
      subst h
      obtain ⟨its, rv, ⟨o, ho, hc, n, hd⟩, _⟩ := I.tuple m
      obtain ⟨as, hr, hn⟩ := repL_reads I hs k xs _ its es z p rv
      exact ⟨_, .tuple ho hc hd hr, hn⟩
  | dct xs =>
    obtain ⟨a, vs, rfl, m, z⟩ := r
    cases q
    cases p : D.shP xs with
    | none => simp [D.sh, p] at h
    | some es =>
      simp only [D.sh, p, Option.map_some, Option.some.injEq] at h
      subst h
      obtain ⟨o, es', ep, us, h1, h2, h3, h4, h5, h6⟩ := dct_parts I m
      obtain ⟨as, bs, r1, r2, n1, n2⟩ := repP_reads I hs k xs _ us es'.toList es z p h4 h5
      exact ⟨_, .dict h1 h2 h3 r1 r2, by simp [h6, n1, n2]⟩
  | _ => simp [D.sh] at h
end
/-- what repr's rule asks of data -/
def ShOk (e : PyData) : Prop := e.showable = true ∧ e.depth ≤ 60 ∧ e.shown.length ≤ 16777216
instance (e : PyData) : Decidable (ShOk e) := inferInstanceAs (Decidable (_ ∧ _))
def bRepr : List D → Store → ER
  | [d], st => match d.sh with
    | some e => if ShOk e then .ok (.str e.shown) st else .no
    | none => .no
  | _, _ => .no
def rRepr (K : PySem.W.Frag) : List V → Hp → VK → Prop := fun xs H Q => ∃ (w : Wd) (v : V) (d : D) (e : PyData), w.H = H ∧ Ok K w ∧ xs = [v] ∧ Vw K w v d ∧ d.sh = some e ∧ ShOk e ∧ Q (.str e.shown) H
section
variable {X : Cx}
theorem call_repr (hg : Tp X.A X.base) {k : Nat} (hr : Room k X.A) : CallR X (.builtin "repr") (rRepr X.K) := by
  intro pins s σ H xs us Q I r h
  obtain ⟨w, v, d, e, rfl, k, rfl, vw, he, ⟨h1, h2, h3⟩, q⟩ := h
  obtain ⟨u, rfl, ru⟩ := vals1 r
  obtain ⟨as, rd, hn⟩ := vw_reads I hg.2 k vw he ru
  have out : ∀ (t : Tok) (s' : Shared), Inv X pins σ w.H s' → EP X pins σ Q (.str e.shown t) s' := fun t s' I' => ⟨.str _, w.H, I', ⟨t, rfl⟩, q⟩
  cases rd with
  | none => exact PySem.P.repr_of_none (out _ _ (I.tok _))
  | bool b => exact PySem.P.repr_of_bool (out _ _ (I.tok _))
  | int i t => exact PySem.P.repr_of_int (by simpa [PyData.showable] using h1) (out _ _ (I.tok _))
  | str x t => exact PySem.P.repr_of_str (out _ _ (I.tok _)) (by rw [sizeLine_eq]; exact h3)
  | list a1 a2 a3 a4 => exact repr_of_reads' (Reads.list a1 a2 a3 a4) h1 (fun _ => hn) hg.1 (by have := hr.units; omega) (fun _ _ z => z) (fun h' u tk hk => out _ _ (I.kept hk)) (by rw [sizeLine_eq]; exact h3)
  | tuple a1 a2 a3 a4 => exact repr_of_reads' (Reads.tuple a1 a2 a3 a4) h1 (fun _ => hn) hg.1 (by have := hr.units; omega) (fun _ _ z => z) (fun h' u tk hk => out _ _ (I.kept hk)) (by rw [sizeLine_eq]; exact h3)
  | dict a1 a2 a3 a4 a5 => exact repr_of_reads' (Reads.dict a1 a2 a3 a4 a5) h1 (fun _ => hn) hg.1 (by have := hr.units; omega) (fun _ _ z => z) (fun h' u tk hk => out _ _ (I.kept hk)) (by rw [sizeLine_eq]; exact h3)
end
section
variable {P : Program} {wd : World} {K : PySem.W.Frag} {mg : Str → Option Value} {base : Heap} {k : Nat} {N : List Str} {sc : SC} {W : WX}
theorem cd_repr : CallD K (rRepr K) bRepr := fun w vs ds Q E k v p => by
  unfold bRepr at p
  split at p
  · obtain ⟨x, rfl, h⟩ := v.one
    split at p
    · rename_i e he
      obtain ⟨hs, p⟩ := PostE.ite p
      exact ⟨w, x, _, e, rfl, k, rfl, h, he, hs, p.now k .str⟩
    · exact p.elim
  · exact p.elim
theorem pr_repr {e : Expr} {ms : EM} {p pos : Pos} (hm : mg "repr" = none) (ha : PAb P wd K mg base k N sc W [e] ms) (hg : sc.s.names.lookup ("repr" : Str) = some .globalImplicit := by rfl) (he : ∀ env, starEach [e] env = (false, eval e env) :: starEach [] env := by intro _; rfl) :
    PR P wd K mg base k N sc W (.Call (.Name "repr" p) [e] [] pos) (eB bRepr ms) :=
  pr_B (id := "repr") (fun X g => by have := call_repr (X := X) g.grd g.room; rw [g.kk] at this; exact this) cd_repr hm (by decide +kernel) ha hg (by decide) (by decide) he (fun _ => rfl)
end
end DL
namespace DL
open PySem L2
/-! ### a new dict is locked: from then on it is read only -/
def lk (t : TE) : TE := fun σ H Q => t σ H fun v H' => Q v H' ∨ ∃ d kvs, v = .ref d ∧ H' d = some (.dK kvs) ∧ ∀ od, Q v (upd H' d (.frz od (.dK kvs)))
theorem pe_lk {X : Cx} {e : Expr} {t : TE} (h : PE X e t) : PE X e (lk t) := ⟨fun pins s σ H Q I q => thn (h.run pins s σ H _ I q) fun u s' ⟨v, H', I', r, z⟩ => by
  rcases z with z | ⟨d, kvs, rfl, hd, z⟩
  · exact ⟨v, H', I', r, z⟩
  · obtain ⟨od, I2⟩ := I'.lock hd True.intro
    exact ⟨_, _, I2, r, z od⟩⟩
theorem PE.or {X : Cx} {e : Expr} {t u : TE} (h : PE X e t) (h' : PE X e u) : PE X e (fun σ H Q => t σ H Q ∨ u σ H Q) := ⟨fun pins s σ H Q I q => q.elim (h.run pins s σ H Q I) (h'.run pins s σ H Q I)⟩
section
variable {P : Program} {wd : World} {K : PySem.W.Frag} {mg : Str → Option Value} {base : Heap} {k : Nat} {N : List Str} {sc : SC} {W : WX}
/-- a new thing o at a is frozen as o' -/
theorem fz_as {w w' : Wd} {a : Addr} {o o' : HO} (e : Evo w w') (k : Ok K w') (ha : w.H a = none) (h : w'.H a = some o) (hm : w'.M a = none) (hr : ∀ l, l < w'.st.length → w'.ρ l ≠ a) :
    ∃ w2 : Wd, w2.H = upd w'.H a o' ∧ w2.st = w'.st ∧ Evo w w2 ∧ Ok K w2 ∧ Ext w' w2 ∧ w2.M a = some o' := by
  have x : Ext w' { w' with M := upd w'.M a o', H := upd w'.H a o' } := ⟨fun b u q => by show upd w'.M a _ b = _; rw [upd_ne (ne_of_none q hm)]; exact q, fun _ _ => rfl, Nat.le_refl _⟩
  refine ⟨{ w' with M := upd w'.M a o', H := upd w'.H a o' }, rfl, rfl, ⟨(e.ext.trans x).mono, e.rho, e.le, fun b u q n => ?_, e.newR, fun b u hb hmb hrb => ?_⟩, ⟨fun b u q => ?_, fun l d q => ?_, k.inj⟩, x, upd_same⟩
  · by_cases z : b = a
    · rw [z]; exact ha
    · have q' : upd w'.M a o' b = some u := q
      rw [upd_ne z] at q'; exact e.newM b u q' n
  · show upd w'.H a o' b = _
    rw [upd_ne (ne_of_none hb ha)]; exact e.keep b u hb hmb hrb
  · have q' : upd w'.M a o' b = some u := q
    show upd w'.H a o' b = _
    by_cases z : b = a
    · rw [z, upd_same] at q' ⊢; exact q'
    · rw [upd_ne z] at q' ⊢; exact k.ex b u q'
  · obtain ⟨u, h1, h2⟩ := k.sto l d q
    have ne := hr l (getElem?_lt q)
    refine ⟨u, ?_, h2.imp id fun ⟨h2, h3⟩ => ⟨?_, h3.ext x⟩⟩
    · show upd w'.H a o' (w'.ρ l) = _
      rw [upd_ne ne]; exact h1
    · show upd w'.M a o' (w'.ρ l) = _
      rw [upd_ne ne]; exact h2
/-- it is a thing that can be new -/
def IsNew (m : EM) : Prop := ∀ Γ st d s, m Γ st = .ok d s → match d with | .lst _ => True | .dct _ => True | .ins _ _ => True | _ => False
theorem upd_id {H : Hp} {a : Addr} {o : HO} (h : H a = some o) : upd H a o = H := by
  funext b
  by_cases z : b = a
  · rw [z, upd_same, h]
  · rw [upd_ne z]
theorem RTN.fz {t : TE} {m : EM} (h : RTN K W t m) (hn : IsNew m) : RT K W (lk t) m := by
  intro H0 w Γ σ ok f Q p
  refine h H0 w Γ σ ok f _ ?_
  cases e : m Γ w.st with
  | err x st => rw [e] at p; exact p
  | no => rw [e] at p; exact p
  | ok d st =>
    rw [e] at p
    have hd := hn _ _ _ _ e
    intro a o w' ev k' s ha ho hm hr r
    cases d with
    | lst xs =>
      obtain ⟨vs, rfl, rl⟩ := r
      obtain ⟨w2, q1, q2, q3, q4, q5, q6⟩ := fz_as (o' := .lst vs) ev k' ha ho hm hr
      refine .inl ?_
      have q1' : w2.H = w'.H := q1.trans (upd_id ho)
      rw [← q1']
      have rl' := rl.ext q5
      exact p _ w2 q3 q4 (q2.trans s) (.lst q6 rl'.1 rl'.2)
    | ins C fs =>
      obtain ⟨dx, vs, rfl, rl⟩ := r
      obtain ⟨w2, q1, q2, q3, q4, q5, q6⟩ := fz_as (o' := .ins (cA K C) dx vs) ev k' ha ho hm hr
      refine .inl ?_
      have q1' : w2.H = w'.H := q1.trans (upd_id ho)
      rw [← q1']
      have rl' := rl.ext q5
      exact p _ w2 q3 q4 (q2.trans s) (.ins q6 rl'.1 rl'.2)
    | dct xs =>
      obtain ⟨vs, rfl, rl⟩ := r
      refine .inr ⟨a, vs, rfl, ho, fun od => ?_⟩
      obtain ⟨w2, q1, q2, q3, q4, q5, q6⟩ := fz_as (o' := .frz od (.dK vs)) ev k' ha ho hm hr
      rw [← q1]
      have rl' := rl.ext q5
      exact p _ w2 q3 q4 (q2.trans s) (.dct q6 rl'.1 rl'.2)
    | _ => exact hd.elim
theorem PN.fz {e : Expr} {m : EM} (h : PN P wd K mg base k N sc W e m) (hn : IsNew m) : PR P wd K mg base k N sc W e m := let ⟨t, a, b⟩ := h; ⟨lk t, fun X g => pe_lk (a X g), b.fz hn⟩

/-! ### {}, dict(pairs), tuple(xs) -/
def eDnew : EM := fun _ st => .ok (.dct []) st
theorem pn_dnew {pos : Pos} : PN P wd K mg base k N sc W (.Dict [] [] pos) eDnew := ⟨_, fun X g => pe_dnewK, fun H0 w Γ σ ok f Q p a ha => PostN.al p ok ha ⟨[], rfl, rfl, fun i v x h => by simp at h⟩⟩
theorem pr_dnew {pos : Pos} : PR P wd K mg base k N sc W (.Dict [] [] pos) eDnew := pn_dnew.fz fun _ _ _ _ h => by cases h; trivial
/-- a new thing from read arguments -/
def CallN (K : PySem.W.Frag) (r : List V → Hp → VK → Prop) (f : List D → Store → ER) : Prop := ∀ (w : Wd) (vs : List V) (ds : List D) (Q : VK) (E : XK), Ok K w → VwL K w vs ds → PostN K w (f ds w.st) Q E → r vs w.H Q
theorem rtn_B {r : List V → Hp → VK → Prop} {f : List D → Store → ER} {t : TA} {ms : EM} (h : CallN K r f) (ra : RTAB K W t ms) : RTN K W (tCB r t) (eB f ms) := by
  intro H0 w Γ σ ok f0 Q q
  refine RTAB.use (P := fun w r => PostN K w r Q (at_ W σ)) ra ok f0 (fun _ _ e k p => p.shift e k) (fun _ _ p => p) (fun p => p) (fun d st hb => by cases d <;> first | rfl | exact absurd rfl (hb _)) q fun ds vs w1 e1 k1 f1 r1 p1 => ?_
  exact h w1 vs _ Q _ k1 (r1.vw k1 f1) p1
theorem pn_Ty {r : List V → Hp → VK → Prop} {f : List D → Store → ER} {T : String} {x : Str} {e : Expr} {es : List Expr} {ms : EM} {p pos : Pos} (hc : ∀ X, G P wd K mg base k N sc W X → CallR X (.type T) r) (h : CallN K r f) (hm : mg x = none) (hv : bootBuiltins x = some (.type T))
    (ha : PAb P wd K mg base k N sc W (e :: es) ms) (hg : sc.s.names.lookup x = some .globalImplicit := by rfl) (hn : x ≠ "__name__" := by decide) (hdb : (x == ("__debug__" : Str)) = false := by decide)
    (he : ∀ env, starEach (e :: es) env = (false, eval e env) :: starEach es env := by intro _; rfl) (hpl : ∀ env, (backTo pos (starEach es env)).any (·.1) = false := by intro _; rfl) :
    PN P wd K mg base k N sc W (.Call (.Name x p) (e :: es) [] pos) (eB f ms) := by
  obtain ⟨t, pt, ra⟩ := ha
  refine ⟨_, fun X g => ?_, rtn_B h ra⟩
  exact pe_callTy (hc X g) (by unfold Gl PySem.Env.kindOf; rw [g.scp]; exact hg) (by rw [g.mg]; exact hm) hv (pt X g) hn hdb (he X.env) (hpl X.env)
theorem eB_new {f : List D → Store → ER} {ms : EM} (h : ∀ ds st d s, f ds st = .ok d s → match d with | .lst _ => True | .dct _ => True | .ins _ _ => True | _ => False) : IsNew (eB f ms) := fun Γ st d s q => by
  unfold eB at q
  cases e : ms Γ st with
  | err x st => rw [e] at q; cases q
  | no => rw [e] at q; cases q
  | ok a s1 =>
    rw [e] at q
    cases a with
    | tup ds => exact h _ _ _ _ q
    | _ => cases q
/-- keys -/
def keyD : D → Option Key
  | .int i => some (.inl i)
  | .str x => some (.inr x)
  | _ => none
theorem keyD_rep {w : Wd} {v : V} {d : D} {k : Key} (r : Rep K w v d) (h : keyD d = some k) : v = kV k := by
  cases r <;> cases h <;> rfl
theorem keyD_vw {w : Wd} {v : V} {d : D} {k : Key} (r : Vw K w v d) (h : keyD d = some k) : v = kV k := by
  cases d <;> cases h
  · exact r
  · exact r
def putD (kvs : List (Key × D)) (k : Key) (v : D) : List (Key × D) :=
  if (kvs.any fun kv => decide (kv.1 = k)) = true then kvs.map (fun kv => if kv.1 = k then (kv.1, v) else kv) else kvs ++ [(k, v)]
def mergeD (kvs more : List (Key × D)) : List (Key × D) := more.foldl (fun acc kv => putD acc kv.1 kv.2) kvs
theorem repP_put {w : Wd} {vs : List (Key × V)} {xs : List (Key × D)} (r : RepP K w vs xs) (k : Key) {v : V} {x : D} (h : Rep K w v x) : RepP K w (putK vs k v) (putD xs k x) := by
  have e : (vs.any fun kv => decide (kv.1 = k)) = (xs.any fun kv => decide (kv.1 = k)) := by
    have h1 : (vs.any fun kv => decide (kv.1 = k)) = (vs.map (·.1)).any fun y => decide (y = k) := by rw [List.any_map]; rfl
    have h2 : (xs.any fun kv => decide (kv.1 = k)) = (xs.map (·.1)).any fun y => decide (y = k) := by rw [List.any_map]; rfl
    rw [h1, h2, r.1]
  unfold putK putD
  rw [e]
  by_cases q : (xs.any fun kv => decide (kv.1 = k)) = true
  · rw [if_pos q, if_pos q]
    refine ⟨?_, fun i a b p1 p2 => ?_⟩
    · rw [List.map_map, List.map_map]
      have f1 : ((fun x : Key × V => x.1) ∘ fun kv => if kv.1 = k then (kv.1, v) else kv) = (·.1) := by funext kv; simp only [Function.comp]; split <;> rfl
      have f2 : ((fun x : Key × D => x.1) ∘ fun kv => if kv.1 = k then (kv.1, x) else kv) = (·.1) := by funext kv; simp only [Function.comp]; split <;> rfl
      rw [f1, f2]; exact r.1
    · rw [List.getElem?_map] at p1 p2
      cases z1 : vs[i]? with
      | none => rw [z1] at p1; cases p1
      | some a' =>
        cases z2 : xs[i]? with
        | none => rw [z2] at p2; cases p2
        | some b' =>
          rw [z1] at p1; rw [z2] at p2; cases p1; cases p2
          have ke : a'.1 = b'.1 := by
            have := congrArg (fun l => l[i]?) r.1
            simp only [List.getElem?_map, z1, z2, Option.map_some, Option.some.injEq] at this
            exact this
          by_cases y : a'.1 = k
          · have y' : b'.1 = k := ke ▸ y
            simp only [y, y', if_true]; exact h
          · have y' : ¬ b'.1 = k := ke ▸ y
            simp only [y, y', if_false]; exact r.2 i a' b' z1 z2
  · rw [if_neg q, if_neg q]
    refine ⟨by simp [r.1], fun i a b p1 p2 => ?_⟩
    have hl : vs.length = xs.length := r.len
    by_cases z : i < vs.length
    · rw [List.getElem?_append_left z] at p1
      rw [List.getElem?_append_left (hl ▸ z)] at p2
      exact r.2 i a b p1 p2
    · rw [List.getElem?_append_right (Nat.le_of_not_lt z)] at p1
      rw [List.getElem?_append_right (hl ▸ Nat.le_of_not_lt z)] at p2
      rw [hl] at p1
      cases j : i - xs.length with
      | zero => rw [j] at p1 p2; simp at p1 p2; subst p1; subst p2; exact h
      | succ n => rw [j] at p1; simp at p1
theorem repP_merge {w : Wd} : ∀ {ms : List (Key × V)} {ns : List (Key × D)} {vs : List (Key × V)} {xs : List (Key × D)}, RepP K w ms ns → RepP K w vs xs → RepP K w (mergeK vs ms) (mergeD xs ns)
  | ms, [], vs, xs, r, q => by rw [r.inv0]; exact q
  | ms, (k, x) :: ns, vs, xs, r, q => by
    obtain ⟨v, r', rfl, h, t⟩ := r.inv
    show RepP K w (mergeK (putK vs k v) r') (mergeD (putD xs k x) ns)
    exact repP_merge t (repP_put q k h)
theorem RepP.nil {κ : Type} {w : Wd} : RepP K w ([] : List (κ × V)) [] := ⟨rfl, fun i v x h => by simp at h⟩
theorem RepP.cons {κ : Type} {w : Wd} {k : κ} {v : V} {x : D} {vs : List (κ × V)} {xs : List (κ × D)} (h : Rep K w v x) (t : RepP K w vs xs) : RepP K w ((k, v) :: vs) ((k, x) :: xs) := ⟨by simp [t.1], fun i a b p q => by
  cases i with
  | zero => simp at p q; subst p; subst q; exact h
  | succ i => exact t.2 i a b (by simpa using p) (by simpa using q)⟩
def pairsD : List D → Option (List (Key × D))
  | [] => some []
  | .tup [a, b] :: r => match keyD a, pairsD r with
    | some k, some ps => some ((k, b) :: ps)
    | _, _ => none
  | _ => none
def bDict : List D → Store → ER
  | [.lst xs], st => match pairsD xs with
    | some ps => .ok (.dct (mergeD [] ps)) st
    | none => .no
  | _, _ => .no
theorem pairs_rep {w : Wd} (k : Ok K w) : ∀ {vs : List V} {xs : List D} {ps : List (Key × D)}, RepL K w vs xs → pairsD xs = some ps → ∃ (as : List Addr) (kvs : List (Key × V)), vs = as.map V.ref ∧ Paired (fun p kv => SqT K w.H p [kV kv.1, kv.2]) as kvs ∧ RepP K w kvs ps := by
  intro vs xs
  induction xs generalizing vs with
  | nil => intro ps r h; cases h; rw [r.inv0]; exact ⟨[], [], rfl, .nil, .nil⟩
  | cons d xs ih =>
    intro ps r h
    obtain ⟨v, us, rfl, r1, r2⟩ := r.inv
    unfold pairsD at h
    split at h
    · rename_i heq; cases heq
    · rename_i a b r' heq
      cases heq
      split at h
      · rename_i ky ps' hk hp
        cases h
        obtain ⟨as, kvs, rfl, h1, h2⟩ := ih r2 hp
        cases r1 with
        | tup m l z =>
          have rl : RepL K w _ [a, b] := ⟨l, z⟩
          obtain ⟨va, r1', rfl, ra, t⟩ := rl.inv
          obtain ⟨vb, r2', rfl, rb, t2⟩ := t.inv
          have e := t2.inv0
          subst e
          have ek := keyD_rep ra hk
          subst ek
          exact ⟨_ :: as, (ky, vb) :: kvs, rfl, .cons (k.sqT m) h1, .cons rb h2⟩
      · cases h
    · cases h
def bTuple : List D → Store → ER
  | [.lst xs], st => .ok (.tup xs) st
  | _, _ => .no
/-! ### all, any -/
def blsD : List D → Option (List Bool)
  | [] => some []
  | .bl b :: r => (blsD r).map (b :: ·)
  | _ => none
theorem bls_rep {w : Wd} : ∀ {vs : List V} {xs : List D} {bs : List Bool}, RepL K w vs xs → blsD xs = some bs → vs = bs.map V.bl := by
  intro vs xs
  induction xs generalizing vs with
  | nil => intro bs r h; cases h; rw [r.inv0]; rfl
  | cons d xs ih =>
    intro bs r h
    obtain ⟨v, us, rfl, r1, r2⟩ := r.inv
    cases d with
    | bl b =>
      unfold blsD at h
      cases e : blsD xs with
      | none => rw [e] at h; cases h
      | some cs => rw [e] at h; cases h; cases r1; rw [ih r2 e]; rfl
    | _ => cases h
def bAll : List D → Store → ER
  | [.lst xs], st => match blsD xs with | some bs => .ok (.bl (bs.all id)) st | none => .no
  | _, _ => .no
def bAny : List D → Store → ER
  | [.lst xs], st => match blsD xs with | some bs => .ok (.bl (bs.any id)) st | none => .no
  | _, _ => .no
theorem cd_all : CallD K (rAll K) bAll := fun w vs ds Q E k v p => by
  unfold bAll at p
  split at p
  · obtain ⟨x, rfl, a, us, rfl, m, r⟩ := v.one
    split at p
    · rename_i bs h; have := bls_rep r h; subst this; exact ⟨a, bs, rfl, SqL.of m, p.now k .bl⟩
    · exact p.elim
  · exact p.elim
theorem pr_all {e : Expr} {ms : EM} {p pos : Pos} (hm : mg "all" = none) (ha : PAb P wd K mg base k N sc W [e] ms) (hg : sc.s.names.lookup ("all" : Str) = some .globalImplicit := by rfl) (he : ∀ env, starEach [e] env = (false, eval e env) :: starEach [] env := by intro _; rfl) :
    PR P wd K mg base k N sc W (.Call (.Name "all" p) [e] [] pos) (eB bAll ms) :=
  pr_B (id := "all") (fun X g => by have := cr_all (X := X) g.calm; rw [g.kk] at this; exact this) cd_all hm (by decide +kernel) ha hg (by decide) (by decide) he (fun _ => rfl)
/-! ### in -/
def flD : D → Option V
  | .non => some .non
  | .bl b => some (.bl b)
  | .int i => some (.int i)
  | .str x => some (.str x)
  | _ => none
def flDs : List D → Option (List V)
  | [] => some []
  | d :: ds => match flD d, flDs ds with
    | some v, some vs => some (v :: vs)
    | _, _ => none
theorem fl_vw {w : Wd} {v u : V} {d : D} (r : Vw K w v d) (h : flD d = some u) : v = u ∧ flatV u = true := by
  cases d <;> cases h <;> exact ⟨r, rfl⟩
theorem fl_rep {w : Wd} {v u : V} {d : D} (r : Rep K w v d) (h : flD d = some u) : v = u ∧ flatV u = true := by
  cases d <;> cases h <;> cases r <;> exact ⟨rfl, rfl⟩
theorem fls_rep {w : Wd} : ∀ {vs us : List V} {xs : List D}, RepL K w vs xs → flDs xs = some us → vs = us ∧ us.all flatV = true := by
  intro vs us xs
  induction xs generalizing vs us with
  | nil => intro r h; cases h; exact ⟨r.inv0, rfl⟩
  | cons d xs ih =>
    intro r h
    obtain ⟨v, ws, rfl, r1, r2⟩ := r.inv
    unfold flDs at h
    split at h
    · rename_i v' vs' h1 h2
      cases h
      obtain ⟨rfl, e1⟩ := fl_rep r1 h1
      obtain ⟨rfl, e2⟩ := ih r2 h2
      exact ⟨rfl, by rw [List.all_cons, e1, e2]; rfl⟩
    · cases h
def hasK (kvs : List (Key × D)) (k : Key) : Bool := kvs.any fun kv => decide (kv.1 = k)
def inD (x y : D) : Option Bool := match y with
  | .lst ys => match flD x, flDs ys with | some v, some vs => some (inV v vs) | _, _ => none
  | .tup ys => match flD x, flDs ys with | some v, some vs => some (inV v vs) | _, _ => none
  | .str z => match x with | .str a => (match a.cps with | ⟨[c]⟩ => some (decide (c ∈ z.cps.toList)) | _ => none) | _ => none
  | .dct kvs => match keyD x with | some k => some (hasK kvs k) | none => none
  | _ => none
def oIn : D → D → Store → ER := fun x y st => match inD x y with | some b => .ok (.bl b) st | none => .no
def oNotIn : D → D → Store → ER := fun x y st => match inD x y with | some b => .ok (.bl !b) st | none => .no
theorem valV_has {w : Wd} {vs : List (Key × V)} {xs : List (Key × D)} (r : RepP K w vs xs) (k : Key) : (valV vs k).isSome = hasK xs k := by
  unfold valV hasK
  have h2 : (xs.any fun kv => decide (kv.1 = k)) = (xs.map (·.1)).any fun y => decide (y = k) := by rw [List.any_map]; rfl
  have h1 : (vs.any fun kv => decide (kv.1 = k)) = (vs.map (·.1)).any fun y => decide (y = k) := by rw [List.any_map]; rfl
  rw [h2, ← r.1, ← h1, Option.isSome_map]
  induction vs generalizing xs with
  | nil => rfl
  | cons p ps ih =>
    obtain ⟨k0, v0⟩ := p
    cases xs with
    | nil => have := r.1; simp at this
    | cons q qs =>
      obtain ⟨k1, x1⟩ := q
      obtain ⟨v', r', e, h, t⟩ := r.inv
      cases e
      have ih' := ih t (by rw [List.any_map]; rfl) (by rw [List.any_map]; rfl)
      by_cases z : k0 = k
      · simp [List.find?_cons, z]
      · simp only [List.find?_cons, List.any_cons, z, decide_false, Bool.false_or]; exact ih'
def rSgn : R2 := fun x y H Q => ∃ (c : Nat) (z : Str), x = .str ⟨#[c]⟩ ∧ y = .str z ∧ Q (.bl (decide (c ∈ z.cps.toList))) H
def rNotSgn : R2 := fun x y H Q => ∃ (c : Nat) (z : Str), x = .str ⟨#[c]⟩ ∧ y = .str z ∧ Q (.bl (!decide (c ∈ z.cps.toList))) H
def rInDct (neg : Bool) : R2 := fun y x H Q => ∃ a o, x = .ref a ∧ DGet H a y o ∧ Q (.bl (if neg then !o.isSome else o.isSome)) H
theorem op_inDct {X : Cx} (hu : X.A.units + 1 < cLine) : OpR X (compareOp .In) (rInDct false) := by
  intro pins s σ H x y u v Q I rx ry h
  obtain ⟨a, o, rfl, g, q⟩ := h
  cases ry
  exact d_in hu I g rx fun s' I' => ⟨.bl _, H, I', rfl, q⟩
theorem op_notInDct {X : Cx} (hu : X.A.units + 1 < cLine) : OpR X (compareOp .NotIn) (rInDct true) := by
  intro pins s σ H x y u v Q I rx ry h
  obtain ⟨a, o, rfl, g, q⟩ := h
  cases ry
  exact d_notIn hu I g rx fun s' I' => ⟨.bl _, H, I', rfl, q⟩
theorem od_in : OpD K (rOr (rIn K false) (rOr rSgn (rInDct false))) oIn := fun w x y dx dy Q E k vx vy p => by
  unfold oIn inD at p
  cases dy with
  | lst ys =>
    obtain ⟨a, vs, rfl, m, r⟩ := vy
    dsimp only at p
    split at p
    · rename_i b hb
      split at hb
      · rename_i v us h1 h2
        cases hb
        obtain ⟨rfl, e1⟩ := fl_vw vx h1
        obtain ⟨rfl, e2⟩ := fls_rep r h2
        exact .inl ⟨a, _, rfl, .inl (SqL.of m), e1, e2, p.now k .bl⟩
      · cases hb
    · exact p.elim
  | tup ys =>
    obtain ⟨a, vs, rfl, m, r⟩ := vy
    dsimp only at p
    split at p
    · rename_i b hb
      split at hb
      · rename_i v us h1 h2
        cases hb
        obtain ⟨rfl, e1⟩ := fl_vw vx h1
        obtain ⟨rfl, e2⟩ := fls_rep r h2
        exact .inl ⟨a, _, rfl, .inr m, e1, e2, p.now k .bl⟩
      · cases hb
    · exact p.elim
  | str z =>
    obtain rfl := vy
    cases dx with
    | str a =>
      obtain rfl := vx
      dsimp only at p
      split at p
      · rename_i b hb
        split at hb
        · rename_i c hc
          cases hb
          obtain ⟨cs⟩ := a
          subst hc
          exact .inr (.inl ⟨c, z, rfl, rfl, p.now k .bl⟩)
        · cases hb
      · exact p.elim
    | _ => exact p.elim
  | dct kvs =>
    obtain ⟨a, vs, rfl, m, r⟩ := vy
    dsimp only at p
    split at p
    · rename_i b hb
      split at hb
      · rename_i ky hk
        cases hb
        have := keyD_vw vx hk
        subst this
        exact .inr (.inr ⟨a, valV vs ky, rfl, .inl ⟨vs, ky, m, rfl, rfl⟩, by rw [valV_has r]; exact p.now k .bl⟩)
      · cases hb
    · exact p.elim
  | _ => exact p.elim
theorem od_notIn : OpD K (rOr (rIn K true) (rOr rNotSgn (rInDct true))) oNotIn := fun w x y dx dy Q E k vx vy p => by
  unfold oNotIn inD at p
  cases dy with
  | lst ys =>
    obtain ⟨a, vs, rfl, m, r⟩ := vy
    dsimp only at p
    split at p
    · rename_i b hb
      split at hb
      · rename_i v us h1 h2
        cases hb
        obtain ⟨rfl, e1⟩ := fl_vw vx h1
        obtain ⟨rfl, e2⟩ := fls_rep r h2
        exact .inl ⟨a, _, rfl, .inl (SqL.of m), e1, e2, p.now k .bl⟩
      · cases hb
    · exact p.elim
  | tup ys =>
    obtain ⟨a, vs, rfl, m, r⟩ := vy
    dsimp only at p
    split at p
    · rename_i b hb
      split at hb
      · rename_i v us h1 h2
        cases hb
        obtain ⟨rfl, e1⟩ := fl_vw vx h1
        obtain ⟨rfl, e2⟩ := fls_rep r h2
        exact .inl ⟨a, _, rfl, .inr m, e1, e2, p.now k .bl⟩
      · cases hb
    · exact p.elim
  | str z =>
    obtain rfl := vy
    cases dx with
    | str a =>
      obtain rfl := vx
      dsimp only at p
      split at p
      · rename_i b hb
        split at hb
        · rename_i c hc
          cases hb
          obtain ⟨cs⟩ := a
          subst hc
          exact .inr (.inl ⟨c, z, rfl, rfl, p.now k .bl⟩)
        · cases hb
      · exact p.elim
    | _ => exact p.elim
  | dct kvs =>
    obtain ⟨a, vs, rfl, m, r⟩ := vy
    dsimp only at p
    split at p
    · rename_i b hb
      split at hb
      · rename_i ky hk
        cases hb
        have := keyD_vw vx hk
        subst this
        exact .inr (.inr ⟨a, valV vs ky, rfl, .inl ⟨vs, ky, m, rfl, rfl⟩, by rw [valV_has r]; exact p.now k .bl⟩)
      · cases hb
    · exact p.elim
  | _ => exact p.elim
theorem pr_in {a b : Expr} {ma mb : EM} {pos : Pos} (ha : PB P wd K mg base k N sc W a ma) (hb : PB P wd K mg base k N sc W b mb) (hm : behindInMarks .In b = false := by first | exact nomark _ | rfl) : PR P wd K mg base k N sc W (.Compare a [.In] [b] pos) (eOp oIn ma mb) :=
  pr_cmp (fun X g => OpR.or' (by have := op_in_seq (X := X); rw [g.kk] at this; exact this) (OpR.or' op_in_sign (op_inDct (by have := g.room.un; omega)))) od_in ha hb hm
theorem pt_in {a b : Expr} {ma mb : EM} {pos : Pos} (ha : PB P wd K mg base k N sc W a ma) (hb : PB P wd K mg base k N sc W b mb) (hm : behindInMarks .In b = false := by first | exact nomark _ | rfl) : PTt P wd K mg base k N sc W (.Compare a [.In] [b] pos) (eOp oIn ma mb) :=
  pt_cmp' (fun X g => OpR.or' (by have := op_in_seq (X := X); rw [g.kk] at this; exact this) (OpR.or' op_in_sign (op_inDct (by have := g.room.un; omega)))) od_in ha hb hm
theorem pt_notin {a b : Expr} {ma mb : EM} {pos : Pos} (ha : PB P wd K mg base k N sc W a ma) (hb : PB P wd K mg base k N sc W b mb) (hm : behindInMarks .NotIn b = false := by first | exact nomark _ | rfl) : PTt P wd K mg base k N sc W (.Compare a [.NotIn] [b] pos) (eOp oNotIn ma mb) :=
  pt_cmp' (fun X g => OpR.or' (by have := op_notIn_seq (X := X); rw [g.kk] at this; exact this) (OpR.or' op_notIn_sign (op_notInDct (by have := g.room.un; omega)))) od_notIn ha hb hm
end
end DL
namespace DL
open PySem L2
section
variable {P : Program} {wd : World} {K : PySem.W.Frag} {mg : Str → Option Value} {base : Heap} {k : Nat} {N : List Str} {sc : SC} {W : WX}
/-! ### text times int -/
def repS (x : Str) (n : Int) : Str := if n < 1 then Str.empty else if (n == 1 || x.length == 0) = true then x else ⟨(List.replicate n.toNat x.cps).foldl (· ++ ·) #[]⟩
theorem rep_size (a : Array Nat) : ∀ (n : Nat) (acc : Array Nat), ((List.replicate n a).foldl (· ++ ·) acc).size = acc.size + n * a.size
  | 0, acc => by simp
  | n + 1, acc => by
    rw [List.replicate_succ, List.foldl_cons, rep_size a n, Array.size_append, Nat.succ_mul]; omega
def rMulS : R2 := fun x y H Q => ∃ z n, x = .str z ∧ y = .int n ∧ n < 16777216 ∧ -16777216 < n ∧ z.length * n.toNat ≤ sizeLine ∧ Q (.str (repS z n)) H
theorem op_mulS {X : Cx} : OpR X (binaryOp .Mult) rMulS := by
  intro pins s σ H x y u v Q I rx ry h
  obtain ⟨z, n, rfl, rfl, h1, h2, h3, q⟩ := h
  obtain ⟨t, rfl⟩ := rx
  obtain ⟨t', rfl⟩ := ry
  have tl : PySem.Builtin.Str.tooLong (z.length * n.toNat) = false := by
    show decide _ = false
    exact decide_eq_false (Nat.not_lt.mpr h3)
  refine PySem.P.mul_str ?_ (fun a b => ?_) (fun a b => tl) ?_
  · have a : ¬ n < -(2 ^ 63 : Int) := by omega
    have b : ¬ n ≥ 2 ^ 63 := by omega
    rw [decide_eq_false a, decide_eq_false b]; rfl
  · have hn : 2 ≤ n := by
      simp at b; omega
    have hz : (z.length : Int) * n ≤ 16777216 := by
      have h3' : z.length * n.toNat ≤ 16777216 := by rw [← sizeLine_eq]; exact h3
      have e : ((z.length * n.toNat : Nat) : Int) = (z.length : Int) * n := by rw [Int.natCast_mul, Int.toNat_of_nonneg (by omega)]
      omega
    have : (z.length : Int) ≤ (2 ^ 63 - 1) / n := by
      rw [Int.le_ediv_iff_mul_le (by omega)]; omega
    omega
  · unfold repS at q
    by_cases a : n < 1
    · rw [if_pos a] at q ⊢
      exact ⟨by decide, ⟨.str _, H, I.tok _, ⟨_, rfl⟩, q⟩⟩
    · rw [if_neg a] at q ⊢
      by_cases b : (n == 1 || z.length == 0) = true
      · rw [if_pos b] at q ⊢
        exact ⟨.str _, H, I, ⟨_, rfl⟩, q⟩
      · rw [if_neg b] at q ⊢
        refine ⟨?_, ⟨.str _, H, I.tok _, ⟨_, rfl⟩, q⟩⟩
        show ((List.replicate n.toNat z.cps).foldl (· ++ ·) #[]).size ≤ _
        rw [rep_size]
        have e : z.cps.size = z.length := rfl
        rw [e, Nat.mul_comm]
        simpa using h3
def oMulX : D → D → Store → ER
  | .int i, .int j, st => if (-18446744073709551616 < i ∧ i < 18446744073709551616) ∨ (-18446744073709551616 < j ∧ j < 18446744073709551616) then .ok (.int (i * j)) st else .no
  | .str x, .int n, st => if n < 16777216 ∧ -16777216 < n ∧ x.length * n.toNat ≤ 16777216 then .ok (.str (repS x n)) st else .no
  | .lst xs, .int n, st => if n < 16777216 ∧ -16777216 < n ∧ xs.length * n.toNat ≤ 16777216 then .ok (.lst (List.replicate n.toNat xs).flatten) st else .no
  | _, _, _ => .no
theorem repL_flat {w : Wd} {vs : List V} {xs : List D} (r : RepL K w vs xs) : ∀ n : Nat, RepL K w (List.replicate n vs).flatten (List.replicate n xs).flatten
  | 0 => .nil
  | n + 1 => by rw [List.replicate_succ, List.replicate_succ, List.flatten_cons, List.flatten_cons]; exact r.append (repL_flat r n)
theorem pr_mulx {a b : Expr} {ma mb : EM} {pos : Pos} (ha : PB P wd K mg base k N sc W a ma) (hb : PB P wd K mg base k N sc W b mb) : PR P wd K mg base k N sc W (.BinOp a .Mult b pos) (eOp oMulX ma mb) :=
  pr_op (fun X g => OpR.or' op_mul (OpR.or' op_mulS op_rep)) (fun w x y dx dy Q E k vx vy p => by
    cases dx <;> cases dy <;> try exact p.elim
    case int.int i j => obtain rfl := vx; obtain rfl := vy; obtain ⟨h, p⟩ := PostE.ite p; exact .inl ⟨i, j, rfl, rfl, h, p.now k .int⟩
    case str.int x n => obtain rfl := vx; obtain rfl := vy; obtain ⟨h, p⟩ := PostE.ite p; exact .inr (.inl ⟨x, n, rfl, rfl, h.1, h.2.1, by rw [sizeLine_eq]; exact h.2.2, p.now k .str⟩)
    case lst.int xs n =>
      obtain ⟨p1, vs, rfl, h1, r1⟩ := vx; obtain rfl := vy; obtain ⟨h, p⟩ := PostE.ite p
      exact .inr (.inr ⟨p1, n, vs, rfl, rfl, h1, by omega, by omega, by rw [sizeLine_eq, r1.1]; exact h.2.2, fun c hc => p.lst rfl k (repL_flat r1 _) c hc⟩)) ha hb

/-! ### minus -/
def eNeg (m : EM) : EM := fun Γ st => (m Γ st).bind fun d s => match d with | .int i => .ok (.int (-i)) s | _ => .no
theorem pr_neg {a : Expr} {ma : EM} {pos : Pos} (h : PR P wd K mg base k N sc W a ma) : PR P wd K mg base k N sc W (.UnaryOp .USub a pos) (eNeg ma) := by
  obtain ⟨t, p, r⟩ := h
  refine ⟨_, fun X g => pe_un un_neg (p X g), ?_⟩
  intro H0 w Γ σ ok f Q q
  refine r.use ok f (P := fun w r => PostE K w r Q (at_ W σ)) (fun _ _ e k p => p.shift e k) (fun _ _ p => p) (fun p => p) q fun d v w1 e1 k1 f1 r p1 => ?_
  cases r with
  | @int i => exact ⟨i, rfl, p1.now k1 .int⟩
  | _ => exact p1.elim

/-! ### isinstance -/
def tyN : D → Option String
  | .non => some "NoneType"
  | .bl _ => some "bool"
  | .int _ => some "int"
  | .str _ => some "str"
  | .lst _ => some "list"
  | .tup _ => some "tuple"
  | .dct _ => some "dict"
  | _ => none
theorem ty_vw {w : Wd} {v : V} {d : D} {T : String} (vw : Vw K w v d) (h : tyN d = some T) : TyX K w.H v (.type T) := by
  cases d with
  | non => cases h; obtain rfl := vw; exact .base .non
  | bl b => cases h; obtain rfl := vw; exact .base (.bl _)
  | int b => cases h; obtain rfl := vw; exact .base (.int _)
  | str b => cases h; obtain rfl := vw; exact .base (.str _)
  | lst xs => cases h; obtain ⟨a, vs, rfl, m, _⟩ := vw; exact .base (.lst m)
  | tup xs =>
    cases h; obtain ⟨a, vs, rfl, m, _⟩ := vw
    rcases m with (m | ⟨o, m⟩) | ⟨o, its, n, m, c, _⟩
    · exact .base (.tup m)
    · exact .fTuple m
    · exact .kTuple m c
  | dct xs =>
    cases h; obtain ⟨a, vs, rfl, m, _⟩ := vw
    rcases m with m | ⟨o, m⟩
    · exact .base (.dK m)
    · exact .fDict m
  | _ => cases h
def bIsi : List D → Store → ER
  | [x, .ty U], st => match tyN x with
    | some T => match kitB T U with
      | some b => .ok (.bl b) st
      | none => .no
    | none => .no
  | _, _ => .no
theorem cd_isi : CallD K (rIsi K) bIsi := fun w vs ds Q E k v p => by
  unfold bIsi at p
  split at p
  · rename_i x U
    obtain ⟨a, c, rfl, va, vc⟩ := v.two
    obtain rfl := vc
    split at p
    · rename_i T hT
      split at p
      · rename_i b hb
        exact ⟨a, _, _, _, b, rfl, .ty U, ty_vw va hT, kit_ty hb, p.now k .bl⟩
      · exact p.elim
    · exact p.elim
  · exact p.elim
theorem pr_isi {e1 e2 : Expr} {ms : EM} {p pos : Pos} (hm : mg "isinstance" = none) (ha : PAb P wd K mg base k N sc W [e1, e2] ms) (hg : sc.s.names.lookup ("isinstance" : Str) = some .globalImplicit := by rfl) (he : ∀ env, starEach [e1, e2] env = (false, eval e1 env) :: starEach [e2] env := by intro _; rfl)
    (hpl : ∀ env, (backTo pos (starEach [e2] env)).any (·.1) = false := by intro _; rfl) :
    PR P wd K mg base k N sc W (.Call (.Name "isinstance" p) [e1, e2] [] pos) (eB bIsi ms) :=
  pr_B (id := "isinstance") (fun X g => by have := call_isi (X := X); rw [g.kk] at this; exact this) cd_isi hm (by decide +kernel) ha hg (by decide) (by decide) he hpl
/-- a built-in type by its name -/
theorem pr_ty {x : Str} {T : String} {pos : Pos} (hm : mg x = none) (hv : bootBuiltins x = some (.type T) := by decide +kernel) (hg : sc.s.names.lookup x = some .globalImplicit := by rfl) (hn : x ≠ "__name__" := by decide) (hdb : (x == ("__debug__" : Str)) = false := by decide) :
    PR P wd K mg base k N sc W (.Name x pos) (eC (.ty T)) :=
  ⟨_, fun X g => pe_bltn (v := .ty T) (by unfold Gl PySem.Env.kindOf; rw [g.scp]; exact hg) (by rw [g.mg]; exact hm) hv rfl hn hdb, rt_c fun _ => .ty⟩

/-! ### a text is walked -/
def sgn (c : Nat) : Str := ⟨#[c]⟩
def sgns (x : Str) : List D := x.cps.toList.map fun c => .str (sgn c)
theorem itr_str {w : Wd} {x : Str} : Wlk K w (Its x) (sgns x) := fun i w1 e k => by
  refine ⟨fun d hd => ?_, fun hn => ?_⟩
  · unfold sgns at hd
    rw [List.getElem?_map] at hd
    cases q : x.cps.toList[i]? with
    | none => rw [q] at hd; cases hd
    | some c =>
      rw [q] at hd; cases hd
      have hl := getElem?_lt q
      refine ⟨show i < x.cps.size by simpa using hl, fun v H2 y => ⟨w1, y.1.symm, rfl, Evo.refl w1, k, ?_⟩⟩
      obtain ⟨c', h1, rfl⟩ := y.2
      rw [← Array.getElem?_toList, q] at h1
      cases h1
      exact .str
  · have := List.getElem?_eq_none_iff.mp hn
    show x.cps.size ≤ i
    simpa [sgns] using this
def eIterX (m : EM) : EM := fun Γ st => (m Γ st).bind fun d s => match d with
  | .lst xs => .ok (.tup xs) s
  | .tup xs => .ok (.tup xs) s
  | .dct kvs => .ok (.tup (kvs.map fun p => kD p.1)) s
  | .str x => .ok (.tup (sgns x)) s
  | _ => .no
theorem pi_anyx {tg e : Expr} {m : EM} (h : PR P wd K mg base k N sc W e m) : PIt P wd K mg base k N sc W tg e (eIterX m) := by
  obtain ⟨t, p, r⟩ := h
  refine ⟨fun σ H R => iList K t σ H R ∨ iTup K t σ H R ∨ iKeys t σ H R ∨ iStr t σ H R, fun X g => PI.or (by have := pi_list (tg := tg) (p X g); rw [g.kk] at this; exact this) (PI.or (by have := pi_tup (tg := tg) (p X g); rw [g.kk] at this; exact this) (PI.or (pi_keys (p X g)) (pi_str (p X g)))), ?_⟩
  intro H0 w Γ σ ok f R q
  have q' : PostI K w ((m Γ w.st).bind _) R (at_ W σ) := q
  cases e : m Γ w.st with
  | err x st => rw [e] at q'; exact .inl (r H0 w Γ σ ok f _ (by rw [e]; exact q'))
  | no => rw [e] at q'; exact q'.elim
  | ok d st =>
    rw [e] at q'
    cases d with
    | lst xs => exact .inl (r H0 w Γ σ ok f _ (by
        rw [e]
        intro v w' ev k' s rv
        cases rv with
        | lst m l z => exact ⟨_, rfl, ⟨_, SqL.of (k'.ex _ _ m)⟩, q' _ w' ev k' s (itr_list m ⟨l, z⟩)⟩))
    | tup xs => exact .inr (.inl (r H0 w Γ σ ok f _ (by
        rw [e]
        intro v w' ev k' s rv
        cases rv with
        | tup m l z => exact ⟨_, rfl, ⟨_, k'.sqT m⟩, q' _ w' ev k' s (itr_tup m ⟨l, z⟩)⟩)))
    | dct xs => exact .inr (.inr (.inl (r H0 w Γ σ ok f _ (by
        rw [e]
        intro v w' ev k' s rv
        cases rv with
        | dct m l z => exact ⟨_, _, rfl, .inl ⟨_, k'.ex _ _ m, q' _ w' ev k' s (wlk_keys m ⟨l, z⟩)⟩⟩))))
    | str x => exact .inr (.inr (.inr (r H0 w Γ σ ok f _ (by
        rw [e]
        intro v w' ev k' s rv
        cases rv
        exact ⟨x, rfl, q' _ w' ev k' s itr_str⟩))))
    | _ => exact q'.elim

/-! ### items, of dicts too -/
def valD (kvs : List (Key × D)) (k : Key) : Option D := (kvs.find? fun kv => decide (kv.1 = k)).map (·.2)
def oIxX : D → D → Store → ER
  | .lst xs, .int i, st => match atI xs i with | some d => .ok d st | none => .no
  | .tup xs, .int i, st => match atI xs i with | some d => .ok d st | none => .no
  | .str x, .int i, st => if x.length ≤ 16777216 then match atI x.cps.toList i with | some c => .ok (.str (sgn c)) st | none => .no else .no
  | .dct kvs, i, st => match keyD i with
    | some ky => match valD kvs ky with
      | some d => .ok d st
      | none => .no
    | none => .no
  | _, _, _ => .no
theorem repP_val {w : Wd} {vs : List (Key × V)} {xs : List (Key × D)} (r : RepP K w vs xs) (k : Key) {d : D} (h : valD xs k = some d) : ∃ v, valV vs k = some v ∧ Rep K w v d := by
  induction xs generalizing vs with
  | nil => cases h
  | cons p ps ih =>
    obtain ⟨k1, x1⟩ := p
    obtain ⟨v', r', rfl, h1, t⟩ := r.inv
    by_cases z : k1 = k
    · refine ⟨v', valV_pos z, ?_⟩
      have : valD ((k1, x1) :: ps) k = some x1 := by simp [valD, List.find?_cons, z]
      rw [this] at h; cases h; exact h1
    · have e : valD ((k1, x1) :: ps) k = valD ps k := by simp [valD, List.find?_cons, z]
      rw [e] at h
      obtain ⟨v, hv, rv⟩ := ih t h
      exact ⟨v, (valV_neg z).trans hv, rv⟩
def rIxD : R2 := fun x y H Q => ∃ a v, x = .ref a ∧ DGet H a y (some v) ∧ Q v H
theorem pr_ixx {a b : Expr} {ma mb : EM} {pos : Pos} (ha : PB P wd K mg base k N sc W a ma) (hb : PB P wd K mg base k N sc W b mb) (hs : PlainIx b := by exact fun _ _ => rfl) : PR P wd K mg base k N sc W (.Subscript a b pos) (eOp oIxX ma mb) := by
  obtain ⟨ta, pa, ra⟩ := ha
  obtain ⟨tb, pb, rb⟩ := hb
  refine ⟨fun σ H Q => tOp (rIx K) ta tb σ H Q ∨ tDGet ta tb σ H Q, fun X g => PE.or (pe_ix (by have := ix_seq (X := X); rw [g.kk] at this; exact this) (pa X g) (pb X g) hs) (pe_dget (by have := g.room.un; omega) (pa X g) (pb X g) hs), ?_⟩
  have one : ∀ (H0 : Hp) (w : Wd) (Γ : DEnv) (σ : L2.St), Ok K w → Fr K H0 w Γ σ → ∀ Q : VK, PostE K w (eOp oIx ma mb Γ w.st) Q (at_ W σ) → tOp (rIx K) ta tb σ w.H Q := rt_op od_ix ra rb
  have two : ∀ (H0 : Hp) (w : Wd) (Γ : DEnv) (σ : L2.St), Ok K w → Fr K H0 w Γ σ → ∀ Q : VK, PostE K w (eOp (fun x i st => match x with | .dct kvs => (match keyD i with | some ky => (match valD kvs ky with | some d => .ok d st | none => .no) | none => .no) | _ => .no) ma mb Γ w.st) Q (at_ W σ) → tDGet ta tb σ w.H Q := by
    refine rt_op (r := rIxD) (fun w x y dx dy Q E k vx vy p => ?_) ra rb
    split at p
    · rename_i kvs
      obtain ⟨c, vs, rfl, m, r⟩ := vx
      split at p
      · rename_i ky hk
        split at p
        · rename_i d hd
          obtain ⟨v, hv, rv⟩ := repP_val r ky hd
          have := keyD_vw vy hk
          subst this
          exact ⟨c, v, rfl, .inl ⟨vs, ky, m, rfl, hv.symm⟩, p.now k rv⟩
        · exact p.elim
      · exact p.elim
    · exact p.elim
  intro H0 w Γ σ ok f Q q
  have q' : PostE K w ((ma Γ w.st).bind fun x s1 => (mb Γ s1).bind fun y s2 => oIxX (deref s2 x) (deref s2 y) s2) Q (at_ W σ) := q
  cases e1 : ma Γ w.st with
  | no => rw [e1] at q'; exact q'.elim
  | err x st => refine .inl (one H0 w Γ σ ok f Q ?_); unfold eOp; rw [e1]; rw [e1] at q'; exact q'
  | ok x s1 =>
    rw [e1] at q'
    have q2 : PostE K w ((mb Γ s1).bind fun y s2 => oIxX (deref s2 x) (deref s2 y) s2) Q (at_ W σ) := q'
    cases e2 : mb Γ s1 with
    | no => rw [e2] at q2; exact q2.elim
    | err x st => refine .inl (one H0 w Γ σ ok f Q ?_); unfold eOp; rw [e1, ok_bind, e2]; rw [e2] at q2; exact q2
    | ok y s2 =>
      rw [e2] at q2
      have q3 : PostE K w (oIxX (deref s2 x) (deref s2 y) s2) Q (at_ W σ) := q2
      cases e3 : deref s2 x with
      | dct kvs => refine .inr (two H0 w Γ σ ok f Q ?_); unfold eOp; rw [e1, ok_bind, e2, ok_bind, e3]; rw [e3] at q3; exact q3
      | lst xs => refine .inl (one H0 w Γ σ ok f Q ?_); unfold eOp; rw [e1, ok_bind, e2, ok_bind, e3]; rw [e3] at q3; cases e4 : deref s2 y <;> rw [e4] at q3 <;> exact q3
      | tup xs => refine .inl (one H0 w Γ σ ok f Q ?_); unfold eOp; rw [e1, ok_bind, e2, ok_bind, e3]; rw [e3] at q3; cases e4 : deref s2 y <;> rw [e4] at q3 <;> exact q3
      | str xs => refine .inl (one H0 w Γ σ ok f Q ?_); unfold eOp; rw [e1, ok_bind, e2, ok_bind, e3]; rw [e3] at q3; cases e4 : deref s2 y <;> rw [e4] at q3 <;> exact q3
      | _ => rw [e3] at q3; exact q3.elim
end
end DL
namespace DL
open PySem L2
section
variable {P : Program} {wd : World} {K : PySem.W.Frag} {mg : Str → Option Value} {base : Heap} {k : Nat}
/-- where nothing is asked, nothing is promised -/
abbrev Dbot : DF := fun _ _ => .no
variable {N : List Str} {sc : SC} {W : WX}
end
section
variable {Γ : DEnv} {st : Store} {ma mb mc mi me mo ml mh : EM} {a b : SM} {i j : Nat} {d : D}
@[simp] theorem oMulX_i {x y : Int} (h : (-18446744073709551616 < x ∧ x < 18446744073709551616) ∨ (-18446744073709551616 < y ∧ y < 18446744073709551616)) : oMulX (.int x) (.int y) st = .ok (.int (x * y)) st := if_pos h
@[simp] theorem oMulX_s {x : Str} {n : Int} (h : n < 16777216 ∧ -16777216 < n ∧ x.length * n.toNat ≤ 16777216) : oMulX (.str x) (.int n) st = .ok (.str (repS x n)) st := if_pos h
@[simp] theorem oMulX_l {x : List D} {n : Int} (h : n < 16777216 ∧ -16777216 < n ∧ x.length * n.toNat ≤ 16777216) : oMulX (.lst x) (.int n) st = .ok (.lst (List.replicate n.toNat x).flatten) st := if_pos h
@[simp] theorem oIxX_l {xs : List D} {k : Int} : oIxX (.lst xs) (.int k) st = (match L2.atI xs k with | some d => .ok d st | none => .no) := rfl
@[simp] theorem oIxX_t {xs : List D} {k : Int} : oIxX (.tup xs) (.int k) st = (match L2.atI xs k with | some d => .ok d st | none => .no) := rfl
@[simp] theorem oIxX_s {x : Str} {k : Int} (h : x.length ≤ 16777216) : oIxX (.str x) (.int k) st = (match L2.atI x.cps.toList k with | some c => .ok (.str (sgn c)) st | none => .no) := if_pos h
@[simp] theorem oIxX_d {xs : List (Key × D)} : oIxX (.dct xs) d st = (match keyD d with | some ky => (match valD xs ky with | some d => .ok d st | none => .no) | none => .no) := rfl
@[simp] theorem eIterX_ap : eIterX ma Γ st = (ma Γ st).bind fun d s => match d with
  | .lst xs => .ok (.tup xs) s
  | .tup xs => .ok (.tup xs) s
  | .dct kvs => .ok (.tup (kvs.map fun p => kD p.1)) s
  | .str x => .ok (.tup (sgns x)) s
  | _ => .no := rfl
@[simp] theorem eNeg_ap : eNeg ma Γ st = (ma Γ st).bind fun d s => match d with | .int i => .ok (.int (-i)) s | _ => .no := rfl
@[simp] theorem eDnew_ap : eDnew Γ st = .ok (.dct []) st := rfl
@[simp] theorem bIsi_ap {U : String} : bIsi [d, .ty U] st = (match tyN d with
    | some T => match kitB T U with
      | some b => .ok (.bl b) st
      | none => .no
    | none => .no) := rfl
@[simp] theorem bTuple_l {xs : List D} : bTuple [.lst xs] st = .ok (.tup xs) st := rfl
@[simp] theorem bAll_l {xs : List D} : bAll [.lst xs] st = (match blsD xs with | some bs => .ok (.bl (bs.all id)) st | none => .no) := rfl
@[simp] theorem bAny_l {xs : List D} : bAny [.lst xs] st = (match blsD xs with | some bs => .ok (.bl (bs.any id)) st | none => .no) := rfl
@[simp] theorem bDict_l {xs : List D} : bDict [.lst xs] st = (match pairsD xs with | some ps => .ok (.dct (mergeD [] ps)) st | none => .no) := rfl
@[simp] theorem bRepr_ap : bRepr [d] st = (match d.sh with | some e => if ShOk e then .ok (.str e.shown) st else .no | none => .no) := rfl
@[simp] theorem oIn_ap {x y : D} : oIn x y st = (match inD x y with | some b => .ok (.bl b) st | none => .no) := rfl
@[simp] theorem oNotIn_ap {x y : D} : oNotIn x y st = (match inD x y with | some b => .ok (.bl !b) st | none => .no) := rfl
end
end DL
namespace DL
open PySem L2
/-! ### plain: data that can be shown -/
structure Gd (n L : Nat) (d : D) : Prop where
  ex : ∃ e, d.sh = some e ∧ e.showable = true ∧ e.depth ≤ n ∧ e.shown.length ≤ L
  len : ∀ x, d = .str x → x.length ≤ L
theorem Gd.mono {n L n' L' : Nat} {d : D} (h : Gd n L d) (h1 : n ≤ n') (h2 : L ≤ L') : Gd n' L' d := let ⟨e, a, b, c, q⟩ := h.ex; ⟨⟨e, a, b, Nat.le_trans c h1, Nat.le_trans q h2⟩, fun x e => Nat.le_trans (h.len x e) h2⟩
def Cs (x : Str) : Prop := ∀ c ∈ x.cps.toList, c < 4294967296
instance (x : Str) : Decidable (Cs x) := inferInstanceAs (Decidable (∀ c ∈ x.cps.toList, c < 4294967296))
theorem gd_str {x : Str} {L : Nat} (h : Cs x) (hl : 10 * x.length + 2 ≤ L) : Gd 0 L (.str x) := ⟨⟨_, rfl, rfl, Nat.le_refl _, Nat.le_trans (StrLaws.reprText_len x h) hl⟩, fun y e => by cases e; omega⟩
theorem sum_le {ts : List Str} {L : Nat} (h : ∀ t ∈ ts, t.length ≤ L) : (ts.map (·.length)).sum ≤ ts.length * L := by
  induction ts with
  | nil => simp
  | cons t r ih =>
    have h1 := ih fun x hx => h x (List.mem_cons_of_mem _ hx)
    have h2 := h t List.mem_cons_self
    rw [List.map_cons, List.sum_cons, List.length_cons, Nat.succ_mul]; omega
theorem gd_all {n L : Nat} : ∀ {xs : List D}, (∀ x ∈ xs, Gd n L x) → ∃ es, D.shL xs = some es ∧ es.length = xs.length ∧ PyData.showableAll es = true ∧ PyData.depthAll es ≤ n ∧ (PyData.shownAll es).length = xs.length ∧ ∀ t ∈ PyData.shownAll es, t.length ≤ L
  | [], _ => ⟨[], rfl, rfl, rfl, Nat.zero_le _, rfl, by simp [PyData.shownAll]⟩
  | x :: xs, h => by
    obtain ⟨e, a, b, c, q⟩ := (h x List.mem_cons_self).ex
    obtain ⟨es, a', l', b', c', m', q'⟩ := gd_all fun y hy => h y (List.mem_cons_of_mem _ hy)
    refine ⟨e :: es, by simp [D.shL, a, a'], by simp [l'], by simp [PyData.showableAll, b, b'], by simp only [PyData.depthAll]; omega, by simp [PyData.shownAll, m'], ?_⟩
    intro t ht
    simp only [PyData.shownAll, List.mem_cons] at ht
    rcases ht with rfl | ht
    · exact q
    · exact q' t ht
theorem gd_lst {n L : Nat} {xs : List D} (h : ∀ x ∈ xs, Gd n L x) : Gd (n + 1) (xs.length * (L + 2) + 3) (.lst xs) := by
  obtain ⟨es, a, l, b, c, m, q⟩ := gd_all h
  refine ⟨⟨.list es, by simp [D.sh, a], by simpa [PyData.showable] using b, by simp only [PyData.depth]; omega, ?_⟩, fun _ e => nomatch e⟩
  have h1 := listText_len_le (PyData.shownAll es)
  have h2 := sum_le q
  rw [m] at h1 h2
  simp only [PyData.shown]
  rw [Nat.mul_add]; omega
theorem sh_key (k : Key) : (kD k).sh = some (kP k) := by cases k <;> rfl
theorem gd_kv {n L : Nat} : ∀ {xs : List (Key × D)}, (∀ p ∈ xs, Gd 0 L (kD p.1) ∧ Gd n L p.2) → ∃ es, D.shP xs = some es ∧ PyData.showableKv es = true ∧ PyData.depthKv es ≤ n ∧ (PyData.shownKv es).length = xs.length ∧ ∀ t ∈ PyData.shownKv es, t.length ≤ 2 * L + 2
  | [], _ => ⟨[], rfl, rfl, Nat.zero_le _, rfl, by simp [PyData.shownKv]⟩
  | (k, x) :: xs, h => by
    obtain ⟨hk, hx⟩ := (h (k, x) List.mem_cons_self)
    obtain ⟨k', ka, kb, kc, kq⟩ := hk.ex
    obtain ⟨e, a, b, c, q⟩ := hx.ex
    obtain ⟨es, a', b', c', m', q'⟩ := gd_kv fun y hy => h y (List.mem_cons_of_mem _ hy)
    rw [sh_key] at ka; cases ka
    have kc : (kP k).depth ≤ 0 := kc
    have kq : (kP k).shown.length ≤ L := kq
    have kb : (kP k).showable = true := kb
    have a0 : D.sh x = some e := a
    refine ⟨(kP k, e) :: es, by simp [D.shP, a0, a'], by simp [PyData.showableKv, kb, b, b'], by simp only [PyData.depthKv]; omega, by simp [PyData.shownKv, m'], ?_⟩
    intro t ht
    simp only [PyData.shownKv, List.mem_cons] at ht
    rcases ht with rfl | ht
    · rw [strLen_append, strLen_append]
      have : (": " : Str).length = 2 := rfl
      omega
    · exact q' t ht
theorem gd_dct {n L : Nat} {xs : List (Key × D)} (h : ∀ p ∈ xs, Gd 0 L (kD p.1) ∧ Gd n L p.2) : Gd (n + 1) (xs.length * (2 * L + 4) + 3) (.dct xs) := by
  obtain ⟨es, a, b, c, m, q⟩ := gd_kv h
  refine ⟨⟨.dict es, by simp [D.sh, a], by simpa [PyData.showable] using b, by simp only [PyData.depth]; omega, ?_⟩, fun _ e => nomatch e⟩
  have h1 := dictText_len_le (PyData.shownKv es)
  have h2 := sum_le q
  rw [m] at h1 h2
  simp only [PyData.shown]
  have e : xs.length * (2 * L + 4) = xs.length * (2 * L + 2) + 2 * xs.length := by rw [show 2 * L + 4 = (2 * L + 2) + 2 from rfl, Nat.mul_add]; omega
  omega
/-- repr of it -/
def shw (d : D) : Str := match d.sh with | some e => e.shown | none => ""
theorem Gd.repr {n L : Nat} {d : D} (h : Gd n L d) (hn : n ≤ 60) (hL : L ≤ 16777216) (st : Store) : bRepr [d] st = .ok (.str (shw d)) st := by
  obtain ⟨e, a, b, c, q⟩ := h.ex
  have : ShOk e := ⟨b, Nat.le_trans c hn, Nat.le_trans q hL⟩
  simp [bRepr, shw, a, this]

/-! ### plain: loops -/
theorem forL_ok {g : GM} {mb : SM} : ∀ {ds : List D} (I : Nat → DEnv → Store → Prop), (∀ (j : Nat) (d : D), ds[j]? = some d → ∀ Γ st, I j Γ st → ∃ Γ1, g d Γ = some Γ1 ∧ ∃ Γ2 st2, mb Γ1 st = .nx Γ2 st2 ∧ I (j + 1) Γ2 st2) →
    ∀ Γ st, I 0 Γ st → ∃ Γ' st', forL g mb ds Γ st = .nx Γ' st' ∧ I ds.length Γ' st'
  | [], I, _, Γ, st, i => ⟨Γ, st, rfl, i⟩
  | d :: ds, I, h, Γ, st, i => by
    obtain ⟨Γ1, h1, Γ2, st2, h2, i2⟩ := h 0 d rfl Γ st i
    obtain ⟨Γ', st', h3, i3⟩ := forL_ok (ds := ds) (fun j => I (j + 1)) (fun j d hd => h (j + 1) d hd) Γ2 st2 i2
    refine ⟨Γ', st', ?_, i3⟩
    unfold forL
    rw [h1]
    show (match mb Γ1 st with | .nx Γ2 st2 => forL g mb ds Γ2 st2 | .ct Γ2 st2 => forL g mb ds Γ2 st2 | .bk Γ2 st2 => .nx Γ2 st2 | r => r) = _
    rw [h2]; exact h3
/-- every turn gives an item -/
theorem lcL_ok {g : GM} {me : EM} {Γ : DEnv} {E : D → Prop} : ∀ {ds : List D} (I : Nat → Store → Prop), (∀ (j : Nat) (d : D), ds[j]? = some d → ∀ st, I j st → ∃ Γ1, g d Γ = some Γ1 ∧ ∃ x st2, me Γ1 st = .ok x st2 ∧ E x ∧ I (j + 1) st2) →
    ∀ st acc, I 0 st → acc.length + ds.length ≤ 16777216 → ∃ xs st', lcL g eYes me ds Γ st acc = .ok (.lst (acc ++ xs)) st' ∧ I ds.length st' ∧ (∀ x ∈ xs, E x) ∧ xs.length = ds.length
  | [], I, _, st, acc, i, _ => ⟨[], st, by simp [lcL], i, by simp, rfl⟩
  | d :: ds, I, h, st, acc, i, hl => by
    obtain ⟨Γ1, h1, x, st2, h2, e, i2⟩ := h 0 d rfl st i
    obtain ⟨xs, st', h3, i3, e3, l3⟩ := lcL_ok (ds := ds) (fun j => I (j + 1)) (fun j d hd => h (j + 1) d hd) st2 (acc ++ [x]) i2 (by simp at hl ⊢; omega)
    have hlt : acc.length < 16777216 := by simp at hl; omega
    refine ⟨x :: xs, st', ?_, i3, ?_, by simp [l3]⟩
    · unfold lcL
      rw [h1]
      show (match me Γ1 st with | .ok x s2 => (if acc.length < 16777216 then lcL g eYes me ds Γ s2 (acc ++ [x]) else .no) | _ => .no) = _
      rw [h2]
      show (if acc.length < 16777216 then lcL g eYes me ds Γ st2 (acc ++ [x]) else .no) = _
      rw [if_pos hlt, h3]; simp
    · intro y hy
      rcases List.mem_cons.mp hy with rfl | hy
      · exact e
      · exact e3 y hy
theorem rng_length (lo c : Int) (n : Nat) : (rng lo c n).length = n := rng_len lo c n
theorem eRng1_n {ma : EM} {Γ : DEnv} {st s : Store} {n : Nat} (h : ma Γ st = .ok (.tup [.int n]) s) (hn : n < 4294967296) : eRng1 ma Γ st = .ok (.tup (rng 0 1 n)) s := by
  unfold eRng1
  rw [h, ok_bind]
  dsimp only
  rw [if_pos (by omega), Int.toNat_natCast]
theorem eRng1_i {ma : EM} {Γ : DEnv} {st s : Store} {n : Int} (h : ma Γ st = .ok (.tup [.int n]) s) (hn : -4294967296 < n ∧ n < 4294967296) : eRng1 ma Γ st = .ok (.tup (rng 0 1 n.toNat)) s := by
  unfold eRng1
  rw [h, ok_bind]
  dsimp only
  rw [if_pos (by omega)]
theorem eLc_of {vs : List Nat} {mi mt me : EM} {g : GM} {Γ : DEnv} {st s : Store} {ds : List D} (h : mi Γ st = .ok (.tup ds) s) : eLc vs mi g mt me Γ st = lcL g mt me ds (wipeE Γ vs) s [] := by
  unfold eLc
  rw [h]; rfl
theorem sFor_of {mi : EM} {g : GM} {b : SM} {Γ : DEnv} {st s : Store} {ds : List D} (h : mi Γ st = .ok (.tup ds) s) : sFor mi g b Γ st = forL g b ds Γ s := by
  unfold sFor
  rw [h]; rfl
theorem rng_at {lo c : Int} {n j : Nat} {d : D} (h : (rng lo c n)[j]? = some d) : j < n ∧ d = .int (lo + (j : Int) * c) := by
  have hl := getElem?_lt h
  rw [rng_len] at hl
  rw [rng_get hl] at h; cases h; exact ⟨hl, rfl⟩

/-! ### plain: texts -/
theorem strs_of : ∀ {xs : List D}, (∀ x ∈ xs, ∃ y, x = .str y) → ∃ ys, strsOf xs = some ys ∧ xs = ys.map .str
  | [], _ => ⟨[], rfl, rfl⟩
  | x :: xs, h => by
    obtain ⟨y, rfl⟩ := h x List.mem_cons_self
    obtain ⟨ys, h1, h2⟩ := strs_of fun z hz => h z (List.mem_cons_of_mem _ hz)
    exact ⟨y :: ys, by simp [strsOf, h1], by simp [h2]⟩
theorem joinL_nil : ∀ ps : List (List Nat), TL.joinL [] ps = ps.flatten
  | [] => rfl
  | [p] => by simp [TL.joinL]
  | p :: q :: r => by
    show p ++ ([] ++ TL.joinL [] (q :: r)) = _
    rw [joinL_nil (q :: r)]; simp
theorem join0 (ys : List Str) : (Txt.join ("" : Str) ys).cps.toList = (ys.map fun y => y.cps.toList).flatten := by
  rw [TL.join_eq]
  have := TL.tl_join ("" : Str) ys
  show TL.tl _ = _
  rw [this]
  exact joinL_nil _
theorem len_toList (x : Str) : x.length = x.cps.toList.length := TL.len_tl x
end DL
namespace DL
open PySem PySem.Spec PyProof.Rows L2
/-! ### the end of a law's row -/
theorem law_callG {P : Program} {w : World} {K : PySem.W.Frag} {mg mb mm : Str → Option Value} {k : Nat} {fa a : Addr} {fd : FuncData} {x : Str} {sp : Sp} {s₁ : Shared} {vs : List Value} {ns : List Int}
    (KX : K.In s₁.heap) (hns : s₁.heap.Ns mainGlobals mg) (hsm : s₁.heap.Ns sysModules mm) (hb : s₁.heap.Ns builtinsNs mb) (hbb : ∀ x : Str, x ≠ "__name__" → mb x = bootBuiltins x) (hlim : s₁.heap.NoLimit) (hg : s₁.gens = #[])
    (ha : s₁.heap.get? a = some { cls := .type "list", data := .seq vs.toArray }) (hi : IntsAre vs ns) (hl : ns.length ≤ sizeLine) (hr : Room k callerA)
    (F : ∀ base : Heap, K.In base → base.Ns mainGlobals mg → FnG P w K mg base k fa fd [x] sp) (hbind : ∀ (s : Shared) (u : Value), BindsTo s fd ⟨[u], []⟩ [(x, u)])
    (hsp : ∀ H : Hp, Only H → SqL K H a (ns.map V.int) → sp [.ref a] H (fun v _ => v = .bl true) fun _ _ _ => False) :
    codeAny (model P w) callerA (.call (.ref fa) ⟨[.ref a], []⟩) (fun r s' => r = .ok (.ret (.bool true)) ∧ OldK s₁.heap s'.heap ∧ s'.os = s₁.os ∧ AllBare s'.gens) s₁ := by
  have rv := vals_ints hi
  have lenV := hi.length
  have core : ∀ H : Hp, Only H → SqL K H a (ns.map V.int) → HOk P w H s₁.heap → (∀ b, H b ≠ none → b = a) → (H a ≠ none → K.lookup a = none) →
      codeAny (model P w) callerA (.call (.ref fa) ⟨[.ref a], []⟩) (fun r s' => r = .ok (.ret (.bool true)) ∧ OldK s₁.heap s'.heap ∧ s'.os = s₁.os ∧ AllBare s'.gens) s₁ := by
    intro H hO hS hok hA hK
    have base_of : ∀ {b : Addr} {o : Obj}, s₁.heap.get? b = some o → H b = none → (hidT s₁.heap H).get? b = some o := fun e n => hidT_get e n
    have noA : ∀ {b : Addr} {o : Obj} {es : Array DictEntry} {ep : Nat}, s₁.heap.get? b = some o → o.data = .dict es ep → H b = none := fun {b o es ep} e d => by
      cases q : H b with
      | none => rfl
      | some u =>
        have e' : b = a := hA b (by rw [q]; simp)
        subst e'
        rw [ha] at e; cases e
        have d' : Data.seq vs.toArray _ = Data.dict es ep := d
        cases d'
    have nsK : ∀ {b : Addr} {m : Str → Option Value}, s₁.heap.Ns b m → (hidT s₁.heap H).Ns b m := fun {b m} ⟨o, es, ep, e, d, r⟩ => ⟨o, es, ep, base_of e (noA e d), d, r⟩
    have hKb : K.In (hidT s₁.heap H) := fun b o e => base_of (KX b o e) (by
      cases q : H b with
      | none => rfl
      | some u =>
        have e' : b = a := hA b (by rw [q]; simp)
        subst e'
        rw [hK (by rw [q]; simp)] at e; cases e)
    have hM : Mod K mg (hidT s₁.heap H) := ⟨hKb, nsK hns, ⟨mb, nsK hb, hbb⟩, let ⟨mc, h1, h2⟩ := hlim; ⟨mc, nsK h1, h2⟩⟩
    have e0 : Env0 P w K mg (hidT s₁.heap H) callerA [] s₁ H := ⟨rfl, hM, fun b o e => of_hidT e, Nat.le_of_eq (hidT_size _ _), trivial, fun b hb => absurd (show b ∈ ([] : List Addr) from hb) (by simp), hok, .of_eq hg⟩
    have tp : Tp callerA (hidT s₁.heap H) := ⟨rfl, let ⟨o, _, _, e, _⟩ := nsK hsm; ⟨o, e⟩⟩
    refine codeAny_mono ((F _ hKb (nsK hns)).go (args := ⟨[.ref a], []⟩) (us := [.ref a]) (vs := [.ref a]) ⟨hr, tp⟩ e0 (hbind s₁ (.ref a)) (.cons rfl .nil) (hsp H hO hS)) fun r s' h => ?_
    cases r with
    | error e => obtain ⟨_, _, _, _, _, _, _, _, _, _, _, _, _, _, _, _, z⟩ := h
    | ok fl =>
      cases fl with
      | next => exact False.elim h
      | brk => exact False.elim h
      | cont => exact False.elim h
      | ret u =>
        obtain ⟨v, H', os, bare, un, hok', r', q⟩ := h
        have q' : v = .bl true := q
        subst q'
        obtain rfl : u = Value.bool true := r'
        refine ⟨rfl, OldK.of_keep fun b o e => ?_, os, bare⟩
        cases q : H b with
        | none => exact un.keep b o e q (by intro z; exact absurd (show b ∈ ([] : List Addr) from z) (by simp)) (by simp)
        | some u =>
          rcases hO b with z | ⟨ob, xs, z⟩
          · rw [q] at z; cases z
          · have z2 := un.frzs b ob _ z
            obtain ⟨e1, _⟩ := hok b _ z
            obtain ⟨e2, _⟩ := hok' b _ z2
            rw [e] at e1; cases e1
            exact e2
  cases hk : K.lookup a with
  | some o =>
    have e := KX a o hk
    rw [ha] at e
    cases e
    refine core (fun _ => none) (fun _ => .inl rfl) (.inr ⟨_, vs.toArray, _, hk, rfl, rfl, rfl, by rw [List.size_toArray, lenV]; exact hl, by simpa using rv⟩) (fun b u z => by have z' : (none : Option HO) = some u := z; cases z') (fun b z => absurd rfl z) fun z => absurd rfl z
  | none =>
    refine core (fun b => if b = a then some (.frz { cls := .type "list", data := .seq vs.toArray } (.lst (ns.map V.int))) else none) (fun b => ?_) (.inl (.inr ⟨{ cls := .type "list", data := .seq vs.toArray }, if_pos rfl⟩)) (fun b u z => ?_) (fun b z => ?_) fun _ => hk
    · by_cases hb : b = a
      · exact .inr ⟨_, _, if_pos hb⟩
      · exact .inl (if_neg hb)
    · by_cases hb : b = a
      · have z' := (if_pos hb).symm.trans z
        cases z'
        subst hb
        exact ⟨ha, by rw [List.length_map]; exact hl, vs, _, rv, ha⟩
      · have z' := (if_neg hb).symm.trans z
        cases z'
    · by_cases hb : b = a
      · exact hb
      · exact absurd (if_neg hb) z
/-- what is asked of a law -/
def spLaw (K : PySem.W.Frag) : Sp := fun vs H Q _ => ∃ (a : Addr) (ns : List Int), vs = [.ref a] ∧ Only H ∧ SqL K H a (ns.map V.int) ∧ ns.length ≤ 63 ∧ ∀ H', Q (.bl true) H'
theorem walk {l : PySem.W.OpenLaw} {k : Nat} {q : Program} {loose : List Str} {XP : (Str → Option Value) → Heap → Prop} {YP : World → Heap → Prop} {d : DefRec} {K : Params → PySem.W.Frag} {x : Str}
    (hn : l.most = some 63) (hdf : d.params.defaults = []) (hq : importsNone q = true) (hr : Room k callerA)
    (hY : ∀ (w : World) (h : Heap), YP w h → (K w.params).In h)
    (F : ∀ (w : World) (mg : Str → Option Value) (fa : Addr) (h : Heap), (K w.params).In h → h.Ns mainGlobals mg → mg d.name = some (.ref fa) →
      ∃ fd : FuncData, (∀ (s : Shared) (u : Value), BindsTo s fd ⟨[u], []⟩ [(x, u)]) ∧
        ∀ base : Heap, (K w.params).In base → base.Ns mainGlobals mg → FnG l.prog w (K w.params) mg base k fa fd [x] (spLaw (K w.params))) :
    PySem.W.WalkO q loose XP YP l.row.toRowW d [] (fun f vs => PySem.call f vs) := by
  refine Att.attach_call hn hdf fun w s₀ s₁ mg mb fa o pm cd doc a vs ns G Y ho hd hcd hmg hobj hints hlen hg => ?_
  have KX := hY w _ Y
  obtain ⟨fd, hb, hF⟩ := F w mg fa _ KX G.T.g hmg
  obtain ⟨mm, hsm, _⟩ := (G.T.seer hq).mods
  exact law_callG KX G.T.g hsm G.T.b G.T.builtins G.T.nolimit hg hobj hints (Nat.le_trans hlen (by decide)) hr hF hb fun H hO hS => ⟨a, ns, rfl, hO, hS, hlen, fun _ => rfl⟩
/-- from the plain law -/
theorem law_end {P : Program} {wd : World} {K : PySem.W.Frag} {mg : Str → Option Value} {base : Heap} {k : Nat} {fd : FuncData} {f : Addr} {F : DF} {p : Str} (h : FnG P wd K mg base k f fd [p] (spD K F)) (pl : ∀ ns : List Int, ns.length ≤ 63 → ∃ st', F [.scr ns] [] = .ok (.bl true) st') :
    FnG P wd K mg base k f fd [p] (spLaw K) := h.imp fun vs H Q E q => by
  obtain ⟨a, ns, rfl, hO, hS, hl, q⟩ := q
  obtain ⟨st', e⟩ := pl ns hl
  refine ⟨⟨H, fun _ => 0, [], H⟩, [.scr ns], rfl, ⟨fun _ _ h => h, fun l d h => by simp at h, fun l m h => by simp at h⟩, .cons (.scr hS) .nil, ?_⟩
  rw [e]
  intro v w' _ _ _ r
  cases r
  exact q _
end DL
/-! sets of plain keys of one kind that can be walked: set(list), sorted(set) -/
namespace DL
open PySem L2 PySem.Spec PyProof.Rows
section
variable {P : Program} {w : World} {K : Type} [DecidableEq K] {knd : KeyKind P w K}
/-- two entries stand for different keys -/
def Apt (knd : KeyKind P w K) (e f : Int × Value) : Prop := ∀ k, ¬ (knd.is k e.2 = true ∧ knd.is k f.2 = true)
theorem apt_symm {e f : Int × Value} (h : Apt knd e f) : Apt knd f e := fun k z => h k ⟨z.2, z.1⟩
/-- a set that can be walked -/
structure StG (knd : KeyKind P w K) (es : Array (Int × Value)) (t : SetTable) (S : K → Bool) : Prop where
  el : ElemsOf knd es.toList
  ap : es.toList.Pairwise (Apt knd)
  me : ∀ k, S k = true ↔ ∃ e ∈ es.toList, knd.is k e.2 = true
  lt : es.size < scanBound
  ft : t.fits es.size = true
  ri : Ris t.place.toList
  le : w.params.followText "set-order" = true ∨ t.led = true
def SetG (knd : KeyKind P w K) (h : Heap) (a : Addr) (S : K → Bool) (n : Nat) : Prop :=
  ∃ o es ep t, h.get? a = some o ∧ o.ExactSet ∧ o.data = .set es ep t ∧ es.size = n ∧ StG knd es t S
theorem SetG.at {h h' : Heap} {a : Addr} {S : K → Bool} {n : Nat} (R : SetG knd h a S n) (k : ∀ o, h.get? a = some o → h'.get? a = some o) : SetG knd h' a S n :=
  let ⟨o, es, ep, t, ho, r⟩ := R; ⟨o, es, ep, t, k o ho, r⟩
theorem SetG.cg {h : Heap} {a : Addr} {S S' : K → Bool} {n m : Nat} (R : SetG knd h a S n) (e : ∀ k, S k = S' k) (q : n = m) : SetG knd h a S' m := by
  have : S = S' := funext e
  subst this; subst q; exact R
variable {A : Around} {E : Value → Shared → Prop} {s : Shared} {a : Addr} {S : K → Bool} {n : Nat}
/-- laid again under the same entries, in another order perhaps -/
theorem stG_perm {es es' : Array (Int × Value)} {t t' : SetTable} (g : StG knd es t S) (p : es'.toList.Perm es.toList) (hf : t'.fits es'.size = true) (hr : Ris t'.place.toList) (hl : t'.led = t.led) : StG knd es' t' S where
  el := g.el.perm p
  ap := (p.pairwise_iff fun h => apt_symm h).mpr g.ap
  me := fun k => (g.me k).trans ⟨fun ⟨e, he, q⟩ => ⟨e, p.mem_iff.mpr he, q⟩, fun ⟨e, he, q⟩ => ⟨e, p.mem_iff.mp he, q⟩⟩
  lt := by rw [← Array.length_toList, p.length_eq, Array.length_toList]; exact g.lt
  ft := hf
  ri := hr
  le := g.le.imp id fun z => by rw [hl]; exact z
theorem addG_tail {g : Bool → Sem Unit} (hg : ∀ (b : Bool) (s₁ : Shared) (Q' : Unit → Shared → Prop), Q' () s₁ → wpAny (model P w) A (g b) Q' E s₁)
    {o : Obj} {es : Array (Int × Value)} {ep : Nat} {t : SetTable} (ho : s.heap.get? a = some o) (hex : o.ExactSet) (hd : o.data = .set es ep t)
    {es1 : Array (Int × Value)} {t2 : SetTable} (g1 : StG knd es1 t2 S) {was : Bool} {R : Option Bool → Shared → Prop}
    (hR : ∀ h', Heap.SameBut a s.heap h' → SetG knd h' a S es1.size → R (some true) { s with heap := h' }) :
    wpAny (model P w) A (do
        storeSet a es1 t2
        if (!was && t2.tooFull) = true then do
            g (relayAll t2 es1 (SetTable.grown es1.size)).2.2
            storeSet a (relayAll t2 es1 (SetTable.grown es1.size)).1 (relayAll t2 es1 (SetTable.grown es1.size)).2.1
            pure (some true)
          else pure (some true)) R E s := by
  refine wpAny_bind (wpAny_storeSet_of ho hd ?_ (fits_of_scanBound g1.lt))
  have b1 := store_at (es' := es1) (t' := t2) ho hd
  have c1 := Heap.SameBut.update s.heap a (Obj.putSet es1 t2)
  by_cases hc : (!was && t2.tooFull) = true
  · rw [if_pos hc]
    have p := relayAll_perm t2 es1 (SetTable.grown es1.size)
    have g2 := stG_perm g1 p (relayAll_fits t2 es1 _) (relayAll_ris t2 es1 _) (relayAll_led t2 es1 _)
    have z : (relayAll t2 es1 (SetTable.grown es1.size)).1.size = es1.size := by rw [← Array.length_toList, p.length_eq, Array.length_toList]
    generalize relayAll t2 es1 (SetTable.grown es1.size) = Z at p g2 z ⊢
    refine wpAny_bind (hg _ _ _ ?_)
    refine wpAny_bind (wpAny_storeSet_of b1 rfl ?_ (fits_of_scanBound g2.lt))
    exact wpAny_pure (hR _ (c1.trans (Heap.SameBut.update _ a _)) ⟨_, _, _, _, store_at (es' := Z.1) (t' := Z.2.1) b1 rfl, hex, rfl, z, g2⟩)
  · rw [if_neg hc]
    exact wpAny_pure (hR _ c1 ⟨_, _, _, _, b1, hex, rfl, rfl, g1⟩)
theorem addG {k : K} {x : Value} {Q : Bool → Shared → Prop} (hk : knd.is k x = true) (hs : x.scannable = true) (R : SetG knd s.heap a S n) (room : n + 1 < scanBound)
    (hQ : ∀ h', Heap.SameBut a s.heap h' → SetG knd h' a (fun j => S j || decide (j = k)) (if S k = true then n else n + 1) → Q (!S k) { s with heap := h' }) :
    wpAny (model P w) A (setAddHashed a x (knd.hash k)) Q E s := by
  obtain ⟨o, es, ep, t, ho, hex, hd, hn, g⟩ := R
  unfold setAddHashed setAddHashedIn
  refine wpAny_holding (wpAny_bind (wpAny_setState_of ho hd g.ft ?_))
  dsimp only
  rw [byScan_of hs g.lt g.el]
  simp only [↓reduceIte]
  unfold setAddByScan
  refine wpAny_bind (wpAny_bind (wpAny_rule (wpAny_bind (wpAny_setScan_of hk ho hd g.ft g.el ?_))))
  cases fi : List.findIdx? (fun e => knd.is k e.2) es.toList with
  | some j =>
    obtain ⟨hj, pj, _⟩ := List.findIdx?_eq_some_iff_getElem.mp fi
    have y : S k = true := (g.me k).mpr ⟨_, List.getElem_mem hj, pj⟩
    have q := hQ s.heap (Heap.SameBut.refl a s.heap) (SetG.cg ⟨o, es, ep, t, ho, hex, hd, hn, g⟩ (fun i => by by_cases e : i = k <;> simp [e, y]) (by rw [if_pos y]))
    rw [y] at q
    exact wpAny_pure (wpAny_pure q)
  | none =>
    have nf := List.findIdx?_eq_none_iff.mp fi
    have y : S k = false := by
      cases q : S k with
      | false => rfl
      | true => obtain ⟨e, he, z⟩ := (g.me k).mp q; rw [nf e he] at z; cases z
    have p := layNew_perm t es (knd.hash k) x
    have hf := layNew_fits t es (knd.hash k) x
    have hr := layNew_ris t es (knd.hash k) x g.ri
    have hl := layNew_led t es (knd.hash k) x
    generalize layNew t es (knd.hash k) x = Z at p hf hr hl ⊢
    obtain ⟨es1, t1, was, gave⟩ := Z
    dsimp only at p hf hr hl ⊢
    rw [Array.toList_push] at p
    have z : es1.size = n + 1 := by rw [← Array.length_toList, p.length_eq, List.length_append, Array.length_toList, hn]; rfl
    have g1 : ∀ t2 : SetTable, t2.fits es1.size = true → Ris t2.place.toList → t2.led = t.led → StG knd es1 t2 (fun j => S j || decide (j = k)) := fun t2 a1 a2 a3 => {
      el := (g.el.push hk hs).perm p
      ap := (p.pairwise_iff fun h => apt_symm h).mpr (List.pairwise_append.mpr ⟨g.ap, List.pairwise_singleton _ _, fun e he f hf' i q => by
        rw [List.mem_singleton] at hf'; subst hf'
        have := knd.inj x i k q.2 hk
        subst this
        rw [nf e he] at q; cases q.1⟩)
      me := mem_push_iff hk g.me p
      lt := by rw [z]; exact room
      ft := a1
      ri := a2
      le := g.le.imp id fun c => by rw [a3]; exact c }
    have gw : ∀ (b : Bool) {s₁ : Shared} {Q' : Unit → Shared → Prop}, Q' () s₁ → wpAny (model P w) A (match b with | true => rule "set.scan.the-table-gave-way" | false => pure ()) Q' E s₁ :=
      fun b s₁ Q' q => by cases b <;> first | exact wpAny_pure q | exact wpAny_rule q
    have fin : ∀ h', Heap.SameBut a s.heap h' → SetG knd h' a (fun j => S j || decide (j = k)) es1.size → Q true { s with heap := h' } := fun h' c r => by
      have q := hQ h' c
      rw [y] at q
      rw [z] at r
      exact q r
    refine wpAny_bind (gw _ ?_)
    split
    · refine wpAny_bind ?_
      rw [hashByValue_scannable 8 hs]
      refine wpAny_pure ?_
      refine addG_tail (fun b s₁ Q' q => by cases b <;> first | exact wpAny_pure q | exact wpAny_rule q) ho hex hd (g1 _ ?_ ?_ ?_) fun h' c r => wpAny_pure (fin h' c r)
      · first | (split <;> first | exact hf | exact SetTable.fits_plain_off hf) | exact hf
      · first | (split <;> exact hr) | exact hr
      · first | (split <;> exact hl) | exact hl
    · refine wpAny_bind (wpAny_pure ?_)
      simp only [↓reduceIte]
      exact addG_tail (fun b s₁ Q' q => by cases b <;> first | exact wpAny_pure q | exact wpAny_rule q) ho hex hd (g1 _ hf hr hl) fun h' c r => wpAny_pure (fin h' c r)
end
end DL
/-! set(list), set(tuple), sorted(set of texts) -/
namespace DL
open PySem L2 PySem.Spec PyProof.Rows
/-- each once, in the order of the first -/
def ddpS {K : Type} [DecidableEq K] (acc : List K) (k : K) : List K := if k ∈ acc then acc else acc ++ [k]
def ddp {K : Type} [DecidableEq K] (l : List K) : List K := l.foldl ddpS []
section
variable {K : Type} [DecidableEq K]
theorem ddp_snoc (l : List K) (k : K) : ddp (l ++ [k]) = ddpS (ddp l) k := by unfold ddp; rw [List.foldl_append]; rfl
theorem ddp_mem (l : List K) (k : K) : k ∈ ddp l ↔ k ∈ l := by
  suffices h : ∀ (l acc : List K), k ∈ l.foldl ddpS acc ↔ k ∈ acc ∨ k ∈ l by have := h l []; unfold ddp; simpa using this
  intro l
  induction l with
  | nil => intro acc; simp
  | cons x r ih =>
    intro acc
    rw [List.foldl_cons, ih, List.mem_cons]
    unfold ddpS
    by_cases e : x ∈ acc
    · rw [if_pos e]
      constructor
      · rintro (h | h)
        · exact .inl h
        · exact .inr (.inr h)
      · rintro (h | rfl | h)
        · exact .inl h
        · exact .inl e
        · exact .inr h
    · rw [if_neg e, List.mem_append, List.mem_singleton, or_assoc]
theorem ddp_nd (l : List K) : (ddp l).Nodup := by
  suffices h : ∀ (l acc : List K), acc.Nodup → (l.foldl ddpS acc).Nodup by exact h l [] List.nodup_nil
  intro l
  induction l with
  | nil => intro acc h; exact h
  | cons x r ih =>
    intro acc h
    rw [List.foldl_cons]
    refine ih _ ?_
    unfold ddpS
    by_cases e : x ∈ acc
    · rw [if_pos e]; exact h
    · rw [if_neg e, List.nodup_append]
      exact ⟨h, List.nodup_cons.mpr ⟨by simp, List.nodup_nil⟩, fun a ha b hb q => e (by rw [List.mem_singleton.mp hb] at q; rw [← q]; exact ha)⟩
theorem ddp_le (l : List K) : (ddp l).length ≤ l.length := by
  suffices h : ∀ (l acc : List K), (l.foldl ddpS acc).length ≤ acc.length + l.length by have := h l []; unfold ddp; simpa using this
  intro l
  induction l with
  | nil => intro acc; simp
  | cons x r ih =>
    intro acc
    rw [List.foldl_cons]
    refine Nat.le_trans (ih _) ?_
    unfold ddpS
    split <;> simp <;> omega
theorem ddp_take (l : List K) (i : Nat) : (ddp (l.take i)).length ≤ (ddp l).length :=
  (ddp_nd _).length_le_of_subset fun x hx => (ddp_mem l x).mpr (List.mem_of_mem_take ((ddp_mem _ x).mp hx))
end
section
variable {prog : Program} {w : World} {K : Type} [DecidableEq K] {knd : KeyKind prog w K}
section
variable {A : Around} {R : Result → Shared → Prop} {I : Addr} {fp wr : List Addr} {G : Array GenState → Array GenState → Prop} {n : Nat} {Pv : Nat → Value → Prop} {St : Nat → Shared → Prop}
theorem loopG (W : WalksS prog w A.in1 I fp wr G n Pv St) (S : Addr) (hSf : S ∉ fp) (ks : List K) (hn : ks.length = n) (hval : ∀ i v, Pv i v → ∃ k, ks[i]? = some k ∧ knd.is k v = true ∧ v.scannable = true) (hb : (ddp ks).length + 1 < scanBound) :
    ∀ (m i : Nat) (s : Shared), n - i = m → i ≤ n → St i s → SetG knd s.heap S (fun k => decide (k ∈ ks.take i)) (ddp (ks.take i)).length →
      (∀ s', Moved (S :: wr) G s s' → SetG knd s'.heap S (fun k => decide (k ∈ ks)) (ddp ks).length → R (.ok (.ret .none)) s') →
      codeAny (model prog w) A (.builtin "set.update.loop" ⟨[.ref S, .ref I], []⟩) R s := by
  have hSw : S ∉ wr := fun h => hSf (W.sub _ h)
  have up : ∀ b ∈ wr, b ∈ S :: wr := fun b hb => List.mem_cons_of_mem _ hb
  intro m
  induction m with
  | zero =>
    intro i s hm hi st hS hR
    have e : i = n := by omega
    subst e
    rw [← hn, List.take_length] at hS
    refine codeAny_builtin F.entry_set_update_loop ?_
    rw [Around.under_plainId F.plain_set_update_loop _]
    show wpAny _ A.in1 (pyNext (.ref I) >>= _) _ _ s
    refine wpAny_bind (W.done s _ _ st fun s' mv => ?_)
    exact wpAny_pure (hR s' (mv.mono up) (hS.at fun o ho => mv.heap S o hSw ho))
  | succ m ih =>
    intro i s hm hi st hS hR
    have lt : i < n := by omega
    refine codeAny_builtin F.entry_set_update_loop ?_
    rw [Around.under_plainId F.plain_set_update_loop _]
    show wpAny _ A.in1 (pyNext (.ref I) >>= _) _ _ s
    refine wpAny_bind (W.item i s _ _ lt st fun v s' hP st' mv => ?_)
    obtain ⟨k, hk, is, sc⟩ := hval i v hP
    have tk : ks.take (i + 1) = ks.take i ++ [k] := by rw [List.take_add_one, hk]; rfl
    have hS' : SetG knd s'.heap S (fun k => decide (k ∈ ks.take i)) (ddp (ks.take i)).length := hS.at fun o ho => mv.heap S o hSw ho
    show wpAny _ A.in1 (holding [v] (setAdd S v) >>= _) _ _ s'
    refine wpAny_bind (wpAny_holding ?_)
    unfold setAdd
    refine wpAny_holding (wpAny_bind (knd.pyHash is ?_))
    have room : (ddp (ks.take i)).length + 1 < scanBound := by have := ddp_take ks i; omega
    refine addG (s := { s' with toks := s'.toks + 1 }) is sc hS' room fun h' sb hS2 => ?_
    have hS3 : SetG knd h' S (fun k => decide (k ∈ ks.take (i + 1))) (ddp (ks.take (i + 1))).length := hS2.cg (fun j => by rw [tk]; simp) (by
      rw [tk, ddp_snoc]
      unfold ddpS
      have := ddp_mem (ks.take i) k
      by_cases e : k ∈ ks.take i
      · rw [if_pos (decide_eq_true e), if_pos (this.mpr e)]
      · rw [if_neg (by simpa using e), if_neg (fun z => e (this.mp z))]; simp)
    refine wpAny_pure ⟨plainId_quiet F.plain_set_update_loop _, ih (i + 1) _ (by omega) lt (W.frame _ s' _ _ st' (Nat.le_succ _) fun b hb o e => ?_) hS3 fun s'' mv2 hS4 => ?_⟩
    · rw [sb.2 b (fun z : b = S => hSf (by rw [← z]; exact hb))]; exact e
    · refine hR s'' (Moved.trans W.gtrans ((mv.mono up).then_heap (Nat.le_succ _) fun b o hb e => ?_) mv2) hS4
      rw [sb.2 b (fun z : b = S => hb (by rw [z]; exact List.mem_cons_self))]; exact e
end
section
variable {A : Around} {E : Value → Shared → Prop} {s : Shared}
/-- set(x) makes its object so that it can be walked -/
theorem set_new1 (a : Value) {Q₁ : Value → Shared → Prop} (h : ∀ led : Bool, (w.params.followText "set-order" = true ∨ led = true) → Q₁ (.ref s.heap.objs.size) { s with heap := s.heap.push { cls := .type "set", dict := none, data := .set #[] 0 (.fresh 0 0 led) } }) :
    codeAny (model prog w) A (.call (.builtin "set.__new__") ⟨[.type "set", a], []⟩) (wants Q₁ E) s := by
  refine codeAny_of_tree ?_
  show wpAny _ A.in1 (do checkBuiltinCall "set.__new__" ⟨[.type "set", a], []⟩; again (.builtin "set.__new__" ⟨[.type "set", a], []⟩)) _ _ s
  refine wpAny_bind (wpAny_of_eq (F.newCall_set_1 a) (wpAny_pure ⟨plainId_quiet F.plain_set_new _, codeAny_builtin F.entry_set_new ?_⟩))
  rw [Around.under_plainId F.plain_set_new _]
  unfold Builtin.«set.__new__» Builtin.Frozenset.newClass
  have hsub := sub_set_self
  obtain ⟨hp, g, d, tk, os⟩ := s
  dsimp only
  wp_walk
  refine wpAny_askSetting (wpAny_pure ?_)
  dsimp only
  simp only [newObj]
  refine wpAny_bind (wpAny_alloc (wpAny_pure (wpAny_pure (h _ ?_))))
  show w.params.followText "set-order" = true ∨ (!w.params.followText "set-order") = true
  cases w.params.followText "set-order"
  · exact .inr rfl
  · exact .inl rfl
theorem setG_fresh {h : Heap} {led : Bool} (hl : w.params.followText "set-order" = true ∨ led = true) {ks : List K} (o : Obj) : SetG knd ((h.push { cls := .type "set", dict := none, data := .set #[] 0 (.fresh 0 0 led) }).push o) h.objs.size (fun k => decide (k ∈ ks.take 0)) (ddp (ks.take 0)).length :=
  ⟨_, #[], 0, _, Heap.get?_push_of_some _ (Heap.get?_push_size _ rfl), ⟨rfl, rfl, rfl⟩, rfl, rfl, ⟨fun e he => by simp at he, by simp, fun k => by simp, by decide, by rfl, List.Pairwise.nil, hl⟩⟩
theorem init_set_ListG {l : Addr} {items : Array Value} {ks : List K} {led : Bool} {B : Around} {E' : Value → Shared → Prop} (hled : w.params.followText "set-order" = true ∨ led = true)
    (hh : B.handled = none) (hl : s.heap.IsList l items) (hn : ks.length = items.size) (hi : ∀ (i : Nat) (v : Value), items[i]? = some v → ∃ k : K, ks[i]? = some k ∧ knd.is k v = true ∧ v.scannable = true) (hb : (ddp ks).length + 1 < scanBound) :
    wpAny (model prog w) B (Builtin.«set.__init__» ⟨[.ref s.heap.objs.size, .ref l], []⟩) (fun f s₂ => (∃ r, f = .done (.ret r) ∧ r = .none) ∧ ∃ h' tk, s₂ = { s with heap := h', toks := tk } ∧ SetG knd h' s.heap.objs.size (fun k => decide (k ∈ ks)) (ddp ks).length ∧
          (∀ b o, b < s.heap.objs.size → s.heap.get? b = some o → h'.get? b = some o)) E' { s with heap := s.heap.push { cls := .type "set", dict := none, data := .set #[] 0 (.fresh 0 0 led) } } := by
  have hS : (s.heap.push { cls := .type "set", dict := none, data := .set #[] 0 (.fresh 0 0 led) }).get? s.heap.objs.size = some { cls := .type "set", dict := none, data := .set #[] 0 (.fresh 0 0 led) } := Heap.get?_push_size _ rfl
  obtain ⟨ol, hol, hcl, nl, hdl⟩ := hl
  obtain ⟨ocls, odict, odata, oslots⟩ := ol
  simp only at hcl hdl
  subst hcl; subst hdl
  have hol' : (s.heap.push { cls := .type "set", dict := none, data := .set #[] 0 (.fresh 0 0 led) }).get? l = some { cls := .type "list", dict := odict, data := .seq items nl, slots := oslots } := Heap.get?_push_of_some _ hol
  have hsls := F.sub_list_set
  have hslf := F.sub_list_frozenset
  have hne : (Value.type "list" == Value.type "dict") = false := by decide
  have hl1 : (s.heap.push { cls := .type "set", dict := none, data := .set #[] 0 (.fresh 0 0 led) }).IsList l items := ⟨_, hol', rfl, nl, rfl⟩
  unfold Builtin.«set.__init__» noKeywords Builtin.Frozenset.updateFrom
  generalize hPI : pyIter = PI
  wp_walk
  subst hPI
  refine wpAny_pyIter_list hl1 ?_
  refine wpAny_bind (wpAny_runValue ?_)
  have lS : l < s.heap.objs.size := Heap.lt_size hol
  have h3 : B.in1.handled = none := by simp [hh]
  have neI : l ≠ (s.heap.push { cls := .type "set", dict := none, data := .set #[] 0 (.fresh 0 0 led) }).objs.size := by
    rw [Heap.size_push]; exact Nat.ne_of_lt (Nat.lt_succ_of_lt lS)
  have nS : s.heap.objs.size ∉ [(s.heap.push { cls := .type "set", dict := none, data := .set #[] 0 (.fresh 0 0 led) }).objs.size, l] := by
    rw [Heap.size_push]; simp only [List.mem_cons, List.mem_singleton, List.not_mem_nil, or_false, not_or]
    exact ⟨Nat.ne_of_lt (Nat.lt_succ_self _), Nat.ne_of_gt lS⟩
  refine loopG ((Walks.list h3 _ l neI items).toS) s.heap.objs.size nS ks hn hi hb (items.size - 0) 0 _ (by omega) (Nat.zero_le _) ⟨⟨_, Heap.get?_push_size _ rfl, rfl, rfl⟩, (hl1.push _)⟩ (setG_fresh hled _) fun s' hm hS' => ?_
  obtain ⟨h', g', d', tk', os'⟩ := s'
  have eg : g' = s.gens := hm.gens
  have ed : d' = s.drawn := hm.drawn
  have eo : os' = s.os := hm.os
  subst eg; subst ed; subst eo
  show wpAny _ _ _ _ _ _
  refine wpAny_pure ?_
  show wpAny _ _ (ret Value.none) _ _ _
  refine wpAny_pure ⟨⟨_, rfl, rfl⟩, h', tk', rfl, hS', fun b o hb e => ?_⟩
  have n1 : b ≠ s.heap.objs.size := Nat.ne_of_lt hb
  have n2 : b ≠ (s.heap.push { cls := .type "set", dict := none, data := .set #[] 0 (.fresh 0 0 led) }).objs.size := by
    rw [Heap.size_push]; exact Nat.ne_of_lt (Nat.lt_succ_of_lt hb)
  exact hm.heap b o (by simp only [List.mem_cons, List.mem_singleton, List.not_mem_nil, or_false, not_or]; exact ⟨n1, n2⟩) (Heap.get?_push_of_some _ (Heap.get?_push_of_some _ e))
theorem call_set1 {v : Value} {S : K → Bool} {n : Nat} {Q : Value → Shared → Prop}
    (hi : ∀ led : Bool, (w.params.followText "set-order" = true ∨ led = true) → ∀ (B : Around) (E' : Value → Shared → Prop), B.handled = A.handled → wpAny (model prog w) B (Builtin.«set.__init__» ⟨[.ref s.heap.objs.size, v], []⟩) (fun f s₂ => (∃ r, f = .done (.ret r) ∧ r = .none) ∧ ∃ h' tk, s₂ = { s with heap := h', toks := tk } ∧ SetG knd h' s.heap.objs.size S n ∧
          (∀ b o, b < s.heap.objs.size → s.heap.get? b = some o → h'.get? b = some o)) E' { s with heap := s.heap.push { cls := .type "set", dict := none, data := .set #[] 0 (.fresh 0 0 led) } })
    (h : ∀ (h' : Heap) (tk : Nat), SetG knd h' s.heap.objs.size S n → (∀ b o, b < s.heap.objs.size → s.heap.get? b = some o → h'.get? b = some o) → Q (.ref s.heap.objs.size) { s with heap := h', toks := tk }) :
    wpAny (model prog w) A (call (.type "set") [v]) Q E s := by
  obtain ⟨c, tl, hmro⟩ := F.called_set.mro
  have hmade := F.called_set.made
  have hsub := F.called_set.sub
  refine wpAny_call (codeAny_of_tree ?_)
  show wpAny _ _ (callAny (.type "set") _) _ _ _
  refine wpAny_pure ⟨Code.quiet_builtin _ (by decide +kernel), codeAny_builtin F.entry_type_call ?_⟩
  rw [Around.under_plain (weight_type_call_type "set" [v] []) rfl]
  have h1 := F.called_set.notType
  have h2 := F.called_set.canCreate
  have hct := F.typeCall_set_1 v
  repeat (any_goals (first | assumption | wp_step))
  refine codeAny_mono (set_new1 v (E := E) (Q₁ := fun obj s₁ => ∃ led : Bool, (w.params.followText "set-order" = true ∨ led = true) ∧ obj = .ref s.heap.objs.size ∧ s₁ = { s with heap := s.heap.push { cls := .type "set", dict := none, data := .set #[] 0 (.fresh 0 0 led) } }) fun led q => ⟨led, q, rfl, rfl⟩) fun r s₁ hr => ?_
  cases r with
  | error e => exact hr
  | ok fl =>
    cases fl with
    | ret obj =>
      obtain ⟨led, hled, rfl, rfl⟩ := hr
      have hS : (s.heap.push { cls := .type "set", dict := none, data := .set #[] 0 (.fresh 0 0 led) }).get? s.heap.objs.size = some { cls := .type "set", dict := none, data := .set #[] 0 (.fresh 0 0 led) } := Heap.get?_push_size _ rfl
      have hT : Shared.TypeIs { s with heap := s.heap.push { cls := .type "set", dict := none, data := .set #[] 0 (.fresh 0 0 led) } } (.ref s.heap.objs.size) "set" := ⟨_, hS, rfl⟩
      have hli := F.called_set.init.lookup
      have hbi := F.called_set.init.bind (.ref s.heap.objs.size)
      repeat (any_goals (first | assumption | wp_step))
      refine codeAny_mono (codeAny_call_builtin (R := wants (fun r s₂ => r = .none ∧ ∃ h' tk, s₂ = { s with heap := h', toks := tk } ∧ SetG knd h' s.heap.objs.size S n ∧
          (∀ b o, b < s.heap.objs.size → s.heap.get? b = some o → h'.get? b = some o)) E) F.called_set.init.plain F.entry_set_init (check_set_init_1 hT ?_)) fun r₂ s₂ hr₂ => ?_
      · refine wpAny_mono (hi led hled _ _ rfl) (fun f s₂ ⟨⟨r, e1, e2⟩, q⟩ => ?_) fun e s' z => z
        subst e1; subst e2; exact ⟨rfl, q⟩
      · cases r₂ with
        | error e => exact hr₂
        | ok fl₂ =>
          cases fl₂ with
          | ret r =>
            obtain ⟨rfl, h', tk, rfl, hS', hk'⟩ := hr₂
            repeat (any_goals (first | assumption | wp_step))
            exact h _ _ hS' hk'
          | _ => exact hr₂.elim
    | _ => exact hr.elim
end
end
end DL
/-! len(set(e)), sorted(set(e)) as expressions -/
namespace DL
open PySem L2 PySem.Spec PyProof.Rows
/-- a plain value among keys -/
def lfV : V → Option Leaf
  | .non => some .none
  | .int i => some (.num i)
  | .bl b => some (.num (if b = true then 1 else 0))
  | .str x => some (.text x)
  | _ => none
def lfVs : List V → Option (List Leaf)
  | [] => some []
  | x :: xs => match lfV x, lfVs xs with | some k, some ks => some (k :: ks) | _, _ => none
section
variable {X : Cx}
def tLenSetX (K : PySem.W.Frag) (ta : TE) : TE := fun σ H Q => ta σ H fun x H1 => ∃ l xs ks, x = .ref l ∧ (SqL K H1 l xs ∨ SqT K H1 l xs) ∧ lfVs xs = some ks ∧ xs.length + 1 < 4096 ∧ Q (.int (ddp ks).length) H1
/-! ### sorted(set(e)), texts -/
def leT (a b : Str) : Bool := decide (a.cps.toList ≤ b.cps.toList)
theorem strs_each : ∀ {vs : List Value}, (∀ v ∈ vs, ∃ k t, v = Value.str k t) → ∃ ks : List Str, PySem.W.EachIs (fun v k => ∃ t, v = Value.str k t) vs ks
  | [], _ => ⟨[], .nil⟩
  | v :: vs, h => by
    obtain ⟨k, hk⟩ := h v List.mem_cons_self
    obtain ⟨ks, hks⟩ := strs_each fun u hu => h u (List.mem_cons_of_mem _ hu)
    exact ⟨k :: ks, .cons hk hks⟩
theorem each_vals : ∀ {vs : List Value} {ks : List Str}, PySem.W.EachIs (fun v k => ∃ t, v = Value.str k t) vs ks → Vals (ks.map V.str) vs
  | _, _, .nil => .nil
  | _, _, .cons h t => .cons h (each_vals t)
theorem each_mem : ∀ {vs : List Value} {ks : List Str}, PySem.W.EachIs (fun v k => ∃ t, v = Value.str k t) vs ks → ∀ k, k ∈ ks ↔ ∃ v ∈ vs, Value.isStrOf k v = true
  | _, _, .nil, k => by simp
  | _, _, .cons (a := v) (b := b) h t, k => by
    rw [List.mem_cons, each_mem t]
    obtain ⟨tk, rfl⟩ := h
    constructor
    · rintro (rfl | ⟨v, hv, q⟩)
      · exact ⟨_, List.mem_cons_self, by simp [Value.isStrOf]⟩
      · exact ⟨v, List.mem_cons_of_mem _ hv, q⟩
    · rintro ⟨v, hv, q⟩
      rcases List.mem_cons.mp hv with rfl | hv
      · exact .inl (Value.isStrOf_inj _ _ _ q (by simp [Value.isStrOf]))
      · exact .inr ⟨v, hv, q⟩
theorem each_nd : ∀ {vs : List Value} {ks : List Str}, PySem.W.EachIs (fun v k => ∃ t, v = Value.str k t) vs ks → vs.Pairwise (fun u v => ∀ k, ¬ (Value.isStrOf k u = true ∧ Value.isStrOf k v = true)) → ks.Nodup
  | _, _, .nil, _ => List.nodup_nil
  | _, _, .cons (a := v) (b := b) h t, p => by
    obtain ⟨p1, p2⟩ := List.pairwise_cons.mp p
    refine List.nodup_cons.mpr ⟨fun hm => ?_, each_nd t p2⟩
    obtain ⟨u, hu, q⟩ := (each_mem t b).mp hm
    obtain ⟨tk, rfl⟩ := h
    exact p1 u hu b ⟨by simp [Value.isStrOf], q⟩
/-- list(sorted(set of texts)): the model's own steps -/
theorem sorted_setT {P : Program} {w : World} {A : Around} {E : Value → Shared → Prop} {s : Shared} {a : Addr} {S : Str → Bool} {n : Nat} {Q : Value → Shared → Prop} (R : SetG (strKind P w) s.heap a S n) (hh : A.handled = none) (hu : A.units + 10 < cLine)
    (hQ : ∀ s' p (out : List Value) (c : Nat) (ks : List Str), (∀ b o, s.heap.get? b = some o → s'.heap.get? b = some o) → s'.gens = s.gens → s'.os = s.os → s.heap.objs.size ≤ p →
      s'.heap.get? p = some (seqObj "list" out.toArray c) → Vals (ks.map V.str) out → ks.Pairwise (fun x y => leT x y = true) → ks.Nodup → (∀ k, k ∈ ks ↔ S k = true) → ks.length ≤ 4096 → Q (.ref p) s') :
    wpAny (model P w) A (call (.builtin "sorted") [.ref a]) Q E s := by
  obtain ⟨o, es, ep, t, ho, hex, hd, hn, g⟩ := R
  refine Calls.call_function_entry kind_sorted plain_sorted entry_sorted (args_sorted1 _) ?_
  unfold Builtin.«sorted»
  refine wpAny_bind (m := checkCount "sorted" 1 1 _) (wpAny_pure ?_)
  refine wpAny_bind (collect_set (A := A.in1) hh ⟨o, ho, hex.1, hd⟩ g.ft g.lt g.ri g.le fun s1 vs k1 hz g1 o1 pm => ?_)
  have hvl : vs.length = es.size := by rw [pm.length_eq, List.length_map, Array.length_toList]
  have hb : es.size < 4096 := g.lt
  have hst : ∀ v ∈ vs, ∃ k t, v = Value.str k t := fun v hv => by
    obtain ⟨e, he, q⟩ := List.mem_map.mp (pm.mem_iff.mp hv)
    obtain ⟨⟨k, h1, _⟩, _⟩ := g.el e he
    obtain ⟨t, h2⟩ := Value.isStrOf_shape (show Value.isStrOf k e.2 = true from h1)
    exact ⟨k, t, by rw [← q]; exact h2⟩
  obtain ⟨ks, hks⟩ := strs_each hst
  have kl : ks.length = vs.length := hks.length.symm
  have nd : ks.Nodup := by
    refine each_nd hks ?_
    refine (pm.pairwise_iff (R := fun u v => ∀ k, ¬ (Value.isStrOf k u = true ∧ Value.isStrOf k v = true)) fun h k z => h k ⟨z.2, z.1⟩).mpr ?_
    exact List.pairwise_map.mpr (g.ap.imp fun h k z => h k z)
  have hm : ∀ k, k ∈ ks ↔ S k = true := fun k => by
    rw [each_mem hks, g.me k]
    constructor
    · rintro ⟨v, hv, q⟩
      obtain ⟨e, he, rfl⟩ := List.mem_map.mp (pm.mem_iff.mp hv)
      exact ⟨e, he, q⟩
    · rintro ⟨e, he, q⟩
      exact ⟨e.2, pm.mem_iff.mpr (List.mem_map.mpr ⟨e, he, rfl⟩), q⟩
  refine wpAny_bind (wpAny_newList ?_ (by rw [hvl, sizeLine_eq]; omega))
  have hoL : (s1.heap.push (seqObj "list" vs.toArray 0)).get? s1.heap.objs.size = some (seqObj "list" vs.toArray 0) := Heap.get?_push_size _ rfl
  refine wpAny_bind (wpAny_holding (PySem.W.list_sort_data (s := { s1 with heap := s1.heap.push (seqObj "list" vs.toArray 0) }) (R := fun v k => ∃ t, v = Value.str k t) (enc := fun k : Str => PyData.str k) (bs := ks) hoL hks (hks.mono fun v k ⟨t, e⟩ => ⟨[], by rw [e]; exact .str _ _, by simp⟩)
    (PySem.W.AllAlike.of fun _ _ => rfl) (PySem.W.Sortable.others fun _ => ⟨by simp, by simp⟩) (by rw [kl, hvl, sizeLine_eq]; omega) (fun b _ => by show A.units + 1 + 1 + 0 < cLine; omega) fun out hl he => ?_))
  rw [PySem.W.dataLe_str] at he
  obtain ⟨c, hcc⟩ := sortedHeap_at (vs := vs) (out := out.toArray) hoL
  have pp : (ks.mergeSort (fun a b => decide (a.cps.toList ≤ b.cps.toList))).Perm ks := List.mergeSort_perm _ _
  refine wpAny_pure ⟨_, rfl, hQ _ s1.heap.objs.size out c _ (fun b u e => ?_) g1 o1 hz hcc (each_vals he) ?_ (pp.nodup_iff.mpr nd) (fun k => by rw [pp.mem_iff, hm]) (by rw [pp.length_eq, kl, hvl]; omega)⟩
  · have q := k1 b u e
    have hlt := Heap.lt_size q
    show (sortedHeap (s1.heap.push (seqObj "list" vs.toArray 0)) s1.heap.objs.size vs out.toArray).get? b = some u
    rw [sortedHeap_old (Nat.ne_of_lt hlt) (by rw [size_push']; exact Nat.lt_succ_of_lt hlt)]
    exact Heap.get?_push_of_some _ q
  · refine List.pairwise_mergeSort (le := fun a b => decide (a.cps.toList ≤ b.cps.toList)) (fun a b c h1 h2 => ?_) (fun a b => ?_) ks
    · exact decide_eq_true (Std.le_trans (of_decide_eq_true h1) (of_decide_eq_true h2))
    · rw [Bool.or_eq_true, decide_eq_true_eq, decide_eq_true_eq]; exact Std.le_total
end
end DL
namespace DL
open PySem L2
/-! ### objects -/
section
variable {X : Cx} {k : Nat} {f C g : Addr} {fd : FuncData} {ps : List Str} {sp : Sp} {W : WX} {pins : List (Addr × Obj)} {σ : L2.St} {H : Hp} {s : Shared} {Q : VK} {us : List Value} {vs : List V}
theorem run_g (F : FnG X.prog X.w X.K X.mg X.base k f fd ps sp) (hr : Room k X.A ∧ Tp X.A X.base) (hb : Binds X.K fd ps []) (tk : Takes X W) (I : Inv X pins σ H s) (r : Vals vs us) (h : sp vs H Q (WE W σ)) : wpAny (model X.prog X.w) X.A (call (.ref f) us) (EP X pins σ Q) X.xe s := by
  have hl : us.length = ps.length := by rw [← r.length]; exact F.len _ _ _ _ h
  have bd := hb s us I.kIn (by rw [List.append_nil]; exact hl)
  rw [List.append_nil] at bd
  exact wpAny_call (call_g (E := WE W) F hr ⟨us, []⟩ bd (passAt tk σ) I r h (fun _ _ z => z) fun _ _ z => z)
theorem run_makeG (M : Mk X.K C f) (F : FnG X.prog X.w X.K X.mg X.base k f fd ps sp) (hr : Room (k + 1) X.A ∧ Tp X.A X.base) (hb : Binds X.K fd ps []) (tk : Takes X W) (I : Inv X pins σ H s) (r : Vals vs us)
    (h : ∀ x dx, H x = none → H dx = none → dx ≠ x → sp (.ref x :: vs) (upd (upd H dx (.own x)) x (.ins C dx [])) (fun v H2 => v = .non ∧ Q (.ref x) H2) (WE W σ)) :
    wpAny (model X.prog X.w) X.A (call (.ref C) us) (EP X pins σ Q) X.xe s := by
  have hq := h (s.heap.objs.size + 1) s.heap.objs.size (I.hok.fresh (Nat.le_succ _)) (I.hok.fresh (Nat.le_refl _)) (Nat.ne_of_lt (Nat.lt_succ_self _))
  have I2 := Inv.made (C := C) I
  have r2 : Vals (V.ref (s.heap.objs.size + 1) :: vs) (Value.ref (s.heap.objs.size + 1) :: us) := .cons rfl r
  have hl : (Value.ref (s.heap.objs.size + 1) :: us).length = ps.length := by
    have e := r2.length
    rw [F.len _ _ _ _ hq] at e
    exact e.symm
  have bd := hb _ (Value.ref (s.heap.objs.size + 1) :: us) I2.kIn (by rw [List.append_nil]; exact hl)
  rw [List.append_nil] at bd
  refine wpAny_call (make_map (f := f) I.kIn M.makes M.init (beq_iff_eq.mp M.fn) (codeAny_mono (F.go (outer := X.stack) (args := ⟨Value.ref (s.heap.objs.size + 1) :: us, []⟩) ⟨hr.1.make C us [], hr.2⟩
    (I2.env0.make C us []) bd r2 hq) fun r s' hq' => ?_))
  cases r with
  | error e => exact passAt tk σ pins _ _ e s' I2 hq'
  | ok fl =>
    cases fl with
    | ret u =>
      obtain ⟨v, H', I3, rv, ev, q3⟩ := I2.after hq'
      subst ev
      exact ⟨rv, ⟨V.ref (s.heap.objs.size + 1), H', I3, rfl, q3⟩⟩
    | next => exact False.elim hq'
    | brk => exact False.elim hq'
    | cont => exact False.elim hq'
theorem getprop_g {p a dx : Addr} {fs : List (Str × V)} {n : Str} {b : Bool} {E' : Value → Shared → Prop} (I : Inv X pins σ H s) (ea : H a = some (.ins C dx fs)) (c : Cls X.K C) (hp : PropOf X.K C n p g)
    (F : FnG X.prog X.w X.K X.mg X.base k g fd ps sp) (hr : Room (k + 1) X.A ∧ Tp X.A X.base) (hb : Binds X.K fd ps []) (h : sp [.ref a] H Q fun _ _ _ => False) :
    wpAny (model X.prog X.w) X.A (getAttr (.ref a) n b) (EP X pins σ Q) E' s := by
  obtain ⟨mA, O, _, _, _, _⟩ := ins_get I.hok ea
  obtain ⟨od, J, _⟩ := O.look
  obtain ⟨rest, hrec⟩ := hp.rec_
  have I1 := I.tok (s.toks + 1)
  have hl : [Value.ref a].length = ps.length := by
    rw [← F.len _ _ _ _ h]; rfl
  have bd := hb { s with toks := s.toks + 1 } [Value.ref a] I1.kIn (by rw [List.append_nil]; exact hl)
  rw [List.append_nil] at bd
  have hc : (PySem.W.clsIn X.K C).isSome = true := by
    obtain ⟨cd, hc, _⟩ := PySem.W.any_some c.hd
    rw [hc]
    rfl
  refine PySem.W.get_bind I.kIn J (PySem.W.plainGet_of (c.get n)).1 (PySem.W.findObj_data hc hp.at_ hp.get hp.tak) (PySem.W.plainGet_of (c.get n)).2 (wpAny_call (PySem.W.prop_get (s := { s with toks := s.toks + 1 }) I.kIn hrec ?_))
  refine codeAny_mono (F.go (A := X.A.in1) (outer := X.stack) (args := ⟨[.ref a], []⟩) (us := [.ref a]) (vs := [.ref a]) ⟨hr.1.in1, hr.2⟩ I1.env0.in1 bd (.cons rfl .nil) h) fun r s' hq => ?_
  cases r with
  | error er => obtain ⟨_, _, _, _, _, _, _, _, _, _, _, _, _, _, _, _, z⟩ := hq
  | ok fl =>
    cases fl with
    | ret u =>
      obtain ⟨v, H', I3, rv, q3⟩ := I1.after hq
      show wpAny _ _ (handedOut u) _ _ _
      rw [PySem.W.handedOut_of (handed_of rv)]
      exact wpAny_pure ⟨v, H', I3, rv, q3⟩
    | next => exact False.elim hq
    | brk => exact False.elim hq
    | cont => exact False.elim hq
end
/-! #### what is known of a class, of its methods -/
structure MethOK (P : Program) (wd : World) (K : PySem.W.Frag) (mg : Str → Option Value) (base : Heap) (k : Nat) (C : String) (m : Str) (F : DF) : Prop where
  c : Cls K (cA K C)
  ex : ∃ (g : Addr) (fd : FuncData) (ps : List Str), FnG P wd K mg base k g fd ps (spD K F) ∧ Meth K (cA K C) m g ∧ Binds K fd ps []
structure PropOK (P : Program) (wd : World) (K : PySem.W.Frag) (mg : Str → Option Value) (base : Heap) (k : Nat) (C : String) (m : Str) (F : DF) : Prop where
  c : Cls K (cA K C)
  ex : ∃ (g p : Addr) (fd : FuncData) (ps : List Str), FnG P wd K mg base k g fd ps (spD K F) ∧ PropOf K (cA K C) m p g ∧ Binds K fd ps []
structure MakeOK (P : Program) (wd : World) (K : PySem.W.Frag) (mg : Str → Option Value) (base : Heap) (k : Nat) (C : String) (F : DF) : Prop where
  at_ : mg (Str.ofString C) = some (.ref (cA K C))
  ex : ∃ (g : Addr) (fd : FuncData) (ps : List Str), FnG P wd K mg base k g fd ps (spD K F) ∧ Mk K (cA K C) g ∧ Binds K fd ps []
structure FldOK (K : PySem.W.Frag) (C : String) (f : Str) : Prop where
  c : Cls K (cA K C)
  n : NoAttr K (cA K C) f
theorem cA_of {K : PySem.W.Frag} {n : String} {C : Addr} (h : PySem.W.nsIn K mainGlobals (Str.ofString n) = some (some (.ref C))) : cA K n = C := by unfold cA; rw [h]
/-- all of a table -/
def AllT (tab : List (String × DF)) (R : String → DF → Prop) : Prop := ∀ p ∈ tab, R p.1 p.2
section
variable {P : Program} {wd : World} {K : PySem.W.Frag} {mg : Str → Option Value} {base : Heap} {k : Nat} {N : List Str} {sc : SC} {W : WX}
/-! #### fields -/
theorem RepP.look {w : Wd} {vs : List (Str × V)} {xs : List (Str × D)} (r : RepP K w vs xs) (f : Str) {d : D} (h : xs.lookup f = some d) : ∃ v, vs.lookup f = some v ∧ Rep K w v d := by
  induction xs generalizing vs with
  | nil => cases h
  | cons p ps ih =>
    obtain ⟨k1, x1⟩ := p
    obtain ⟨v', r', rfl, h1, t⟩ := r.inv
    by_cases z : f == k1
    · simp only [List.lookup, z] at h ⊢
      cases h; exact ⟨v', rfl, h1⟩
    · simp only [List.lookup, z] at h ⊢
      exact ih t h
theorem RepP.look0 {w : Wd} {vs : List (Str × V)} {xs : List (Str × D)} (r : RepP K w vs xs) (f : Str) (h : xs.lookup f = none) : vs.lookup f = none := by
  induction xs generalizing vs with
  | nil => rw [r.inv0]; rfl
  | cons p ps ih =>
    obtain ⟨k1, x1⟩ := p
    obtain ⟨v', r', rfl, h1, t⟩ := r.inv
    by_cases z : f == k1
    · simp only [List.lookup, z] at h; cases h
    · simp only [List.lookup, z] at h ⊢
      exact ih t h
def putFD (f : Str) (v : D) : List (Str × D) → List (Str × D)
  | [] => [(f, v)]
  | (g, x) :: r => if g = f then (g, v) :: r else (g, x) :: putFD f v r
theorem repP_putF {w : Wd} {f : Str} {v : V} {x : D} (h : Rep K w v x) : ∀ {vs : List (Str × V)} {xs : List (Str × D)}, RepP K w vs xs → RepP K w (putF f v vs) (putFD f x xs)
  | vs, [], r => by rw [r.inv0]; exact .cons h .nil
  | vs, (k, y) :: xs, r => by
    obtain ⟨v', r', rfl, h1, t⟩ := r.inv
    unfold putF putFD
    by_cases z : k = f
    · rw [if_pos z, if_pos z]; exact .cons h t
    · rw [if_neg z, if_neg z]; exact .cons h1 (repP_putF h t)
def eFld (cs : List String) (f : Str) (mo : EM) : EM := fun Γ st => (mo Γ st).bind fun o s => match deref s o with
  | .ins C fs => if C ∈ cs then (match fs.lookup f with | some d => .ok d s | none => .no) else .no
  | _ => .no
theorem pr_fld {o : Expr} {f : Str} {mo : EM} {cs : List String} {pos : Pos} (T : ∀ C ∈ cs, FldOK K C f) (ho : PB P wd K mg base k N sc W o mo) (hb : ∀ env, attributeBase o f env (eval o env) = eval o env := by intro _; rfl) : PR P wd K mg base k N sc W (.Attribute o f pos) (eFld cs f mo) := by
  obtain ⟨t, p, r⟩ := ho
  refine ⟨tFld K t f, fun X g => by have := pe_fld (f := f) (pos := pos) (p X g) (hb X.env); rw [g.kk] at this; exact this, ?_⟩
  intro H0 w Γ σ ok f0 Q q
  refine RB.use (P := fun w r => PostE K w r Q (at_ W σ)) r ok f0 (fun _ _ e k p => p.shift e k) (fun _ _ p => p) (fun p => p) q fun d v w1 e1 k1 f1 r1 p1 => ?_
  have vw := r1.vw k1 f1
  revert vw p1
  cases deref w1.st d with
  | ins C fs =>
    intro p1 vw
    obtain ⟨a, dx, vs, rfl, hH, rp⟩ := vw
    dsimp only at p1
    obtain ⟨hc, p1⟩ := PostE.ite p1
    cases hl : fs.lookup f with
    | none => rw [hl] at p1; exact p1.elim
    | some x =>
      rw [hl] at p1
      obtain ⟨v', hv, rv⟩ := rp.look f hl
      exact ⟨a, _, dx, vs, v', rfl, hH, (T C hc).c, (T C hc).n, hv, p1.now k1 rv⟩
  | _ => intro p1 _; exact p1.elim
/-- o.f = e: o of the store -/
def sFldR (cs : List String) (f : Str) (mo me : EM) : SM := fun Γ st => (me Γ st).bs Γ fun x s1 => (mo Γ s1).bs Γ fun o s2 => match o with
  | .ref l => match s2[l]? with
    | some (.ins C fs) => if C ∈ cs ∧ fs.length < 1000 then .nx Γ (s2.set l (.ins C (putFD f x fs))) else .no
    | _ => .no
  | _ => .no
theorem ps_fldR {o e : Expr} {f : Str} {mo me : EM} {cs : List String} {pos pos' : Pos} (T : ∀ C ∈ cs, FldOK K C f) (ho : PR P wd K mg base k N sc W o mo) (he : PR P wd K mg base k N sc W e me)
    (hs : ∀ env, swapsWith e (some (.Attribute o f pos')) pos.line env = pure false) : PSt P wd K mg base k N sc W (.Assign [.Attribute o f pos'] e pos) (sFldR cs f mo me) := by
  obtain ⟨to, po, ro⟩ := ho
  obtain ⟨te, pe, re⟩ := he
  refine ⟨sFld K to te f, fun X g => by have := ps_fld (f := f) (pos := pos) (pos' := pos') (po X g) (pe X g) (hs X.env); rw [g.kk] at this; exact this, ?_⟩
  intro w0 w Γ σ e0 ok f0 Dn q
  refine re.useS e0 ok f0 q fun x v w1 e1 k1 f1 r1 x1 p1 => ?_
  refine ro.useS e1 k1 f1 p1 fun o u w2 e2 k2 f2 r2 x2 p2 => ?_
  have r1' := r1.ext x2
  cases r2 with
  | @ref l hl =>
    dsimp only at p2
    split at p2
    · rename_i C fs hx
      obtain ⟨ob, h1, h2, h3⟩ := k2.live hx (by simp)
      obtain ⟨dx, vs, rfl, rp⟩ := h3
      by_cases hc : C ∈ cs ∧ fs.length < 1000
      · rw [if_pos hc] at p2
        obtain ⟨ev, kv⟩ := put_ok (o := .ins (cA K C) dx (putF f v vs)) (d := .ins C (putFD f x fs)) k2 hl h2 ⟨dx, _, rfl, repP_putF r1' rp⟩
        exact ⟨w2.ρ l, _, dx, vs, rfl, h1, (T C hc.1).c, (T C hc.1).n, by rw [rp.len]; exact hc.2, p2 (w2.put l _ _) σ (e2.trans k2 ev) ev.ext kv rfl (f2.evo ev)⟩
      · rw [if_neg hc] at p2; exact p2.elim
    · exact p2.elim
  | _ => exact p2.elim

/-! #### methods -/
def tMethG (K : PySem.W.Frag) (tab : List (String × DF)) (m : Str) (W : WX) (ta : TE) (t : TA) : TE := fun σ H Q => ∃ p ∈ tab, ta σ H fun x H1 => ∃ a dx fs, x = .ref a ∧ H1 a = some (.ins (cA K p.1) dx fs) ∧ fs.lookup m = none ∧ t σ H1 fun vs H2 => spD K p.2 (x :: vs) H2 Q (WE W σ)
def eMeth (tab : List (String × DF)) (m : Str) (mo ms : EM) : EM := fun Γ st => if tab = [] then .no else (mo Γ st).bind fun o s1 => match deref s1 o with
  | .ins C fs => if (fs.lookup m).isNone = true then (match tab.lookup C with
      | some F => (ms Γ s1).bind fun d s2 => match d with | .tup ds => F (o :: ds) s2 | _ => .no
      | none => .no) else .no
  | _ => .no
theorem lookup_mem {α β : Type} [BEq α] [LawfulBEq α] {l : List (α × β)} {a : α} {b : β} (h : l.lookup a = some b) : (a, b) ∈ l := by
  induction l with
  | nil => cases h
  | cons p ps ih =>
    obtain ⟨x, y⟩ := p
    by_cases z : a == x
    · simp only [List.lookup, z] at h
      cases h
      rw [eq_of_beq z]; exact List.mem_cons_self
    · simp only [List.lookup, z] at h
      exact List.mem_cons_of_mem _ (ih h)
theorem rt_meth {tab : List (String × DF)} {m : Str} {ta : TE} {t : TA} {mo ms : EM} (ra : RT K W ta mo) (r : RTA K W t ms) : RT K W (tMethG K tab m W ta t) (eMeth tab m mo ms) := by
  intro H0 w Γ σ ok f0 Q q
  unfold eMeth at q
  by_cases hT : tab = []
  · rw [if_pos hT] at q; exact q.elim
  rw [if_neg hT] at q
  cases e : mo Γ w.st with
  | no => rw [e] at q; exact q.elim
  | err x st =>
    cases tab with
    | nil => exact absurd rfl hT
    | cons p ps =>
      refine ⟨p, List.mem_cons_self, ra H0 w Γ σ ok f0 _ ?_⟩
      rw [e] at q ⊢; exact q
  | ok o s1 =>
    rw [e, ok_bind] at q
    cases hd : deref s1 o with
    | ins C fs =>
      rw [hd] at q
      dsimp only at q
      by_cases hm : (fs.lookup m).isNone = true
      · rw [if_pos hm] at q
        cases hF : tab.lookup C with
        | none => rw [hF] at q; exact q.elim
        | some F =>
          rw [hF] at q
          dsimp only at q
          refine ⟨(C, F), lookup_mem hF, ra H0 w Γ σ ok f0 _ ?_⟩
          rw [e]
          intro v w1 e1 k1 s1' rv
          have vw := rv.vw k1
          rw [s1', hd] at vw
          obtain ⟨a, dx, vs, rfl, hH, rp⟩ := vw
          refine ⟨a, dx, vs, rfl, hH, rp.look0 m (Option.isNone_iff_eq_none.mp hm), ?_⟩
          have q1 : PostE K w1 ((ms Γ w1.st).bind fun d s2 => match d with | .tup ds => F (o :: ds) s2 | _ => .no) Q (at_ W σ) := by rw [s1']; exact PostE.shift e1 k1 q
          refine RTA.use (P := fun w r => PostE K w r Q (at_ W σ)) r k1 (f0.evo e1) (fun _ _ e k p => p.shift e k) (fun _ _ p => p) (fun p => p) (fun d st hb => by cases d <;> first | rfl | exact absurd rfl (hb _)) q1 fun ds vs' w2 e2 k2 f2 r2 p2 => ?_
          exact ⟨w2, o :: ds, rfl, k2, .cons (rv.evo e2) r2, p2⟩
      · rw [if_neg hm] at q; exact q.elim
    | _ => rw [hd] at q; exact q.elim
theorem pr_meth {j : Nat} {m : Str} {tab : List (String × DF)} {o e : Expr} {es : List Expr} {mo ms : EM} {pl : PySem.Env → Sem Bool} {apos pos : Pos} (T : ∀ p ∈ tab, MethOK P wd K mg base j p.1 m p.2) (ho : PR P wd K mg base k N sc W o mo) (ha : PAr P wd K mg base k N sc W (e :: es) ms) (hk : j ≤ k := by omega)
    (hst : ∀ env, starEach (e :: es) env = (false, eval e env) :: starEach es env := by intro _; rfl) (hpl : ∀ env, (backTo pos (starEach es env)).any (·.1) = false := by intro _; rfl)
    (ht : ∀ env, eval (.Call (.Attribute o m apos) (e :: es) [] pos) env = (do
      let ov ← eval o env
      standAt apos.atName
      let (f, first) ← holding [ov] (getMethod ov m (pl env))
      callWith pos f first (backTo pos (starEach (e :: es) env)) (backToKw pos (keywordEach [] env))) := by intro _; rfl) :
    PR P wd K mg base k N sc W (.Call (.Attribute o m apos) (e :: es) [] pos) (eMeth tab m mo ms) := by
  obtain ⟨ta, pa, ra⟩ := ho
  obtain ⟨t, pt, r⟩ := ha
  refine ⟨tMethG K tab m W ta t, fun X g => ⟨fun pins s σ H Q I h => ?_⟩, rt_meth ra r⟩
  have pX := pa X g
  have aX := pt X g
  obtain ⟨rfl, rfl, rfl, rfl, rfl, rfl, hsc, hc, hr, hgd, tk, _, _⟩ := g
  obtain ⟨p, hp, h⟩ := h
  obtain ⟨c, gf, fd, ps, F, hm, hb⟩ := T p hp
  refine PySem.W.methodCall_KW (pl := pl X.env) (thn (pX.run pins s σ H _ I h) fun u s1 ⟨x, H1, I1, rx, a, dx, fs, ex, ea, l, q⟩ => ?_) (ht X.env)
  subst ex
  obtain rfl : u = Value.ref a := rx
  refine getmeth_ok I1 ea c hm l ?_
  refine PySem.W.callWith_K (first := [.ref a]) (h₀ := X.base) I.ok.mod.kin hm.kp (thn (aX.run pos pins s1 σ H1 _ I1 q) fun us s2 ⟨vs, H2, I2, r, q2⟩ => ⟨I2.kIn, ?_⟩) (hst X.env) (hpl X.env)
  exact run_g (us := .ref a :: us) (vs := .ref a :: vs) F ⟨hr.mono hk, hgd⟩ hb tk I2 (.cons rfl r) q2
theorem pr_meth0 {j : Nat} {m : Str} {tab : List (String × DF)} {o : Expr} {mo : EM} {pl : PySem.Env → Sem Bool} {apos pos : Pos} (T : ∀ p ∈ tab, MethOK P wd K mg base j p.1 m p.2) (ho : PR P wd K mg base k N sc W o mo) (hk : j ≤ k := by omega)
    (ht : ∀ env, eval (.Call (.Attribute o m apos) [] [] pos) env = (do
      let ov ← eval o env
      standAt apos.atName
      let (f, first) ← holding [ov] (getMethod ov m (pl env))
      callWith pos f first (backTo pos (starEach [] env)) (backToKw pos (keywordEach [] env))) := by intro _; rfl) :
    PR P wd K mg base k N sc W (.Call (.Attribute o m apos) [] [] pos) (eMeth tab m mo eNil) := by
  obtain ⟨ta, pa, ra⟩ := ho
  obtain ⟨t, pt, r⟩ := (pa_nil' : PAr P wd K mg base k N sc W [] eNil)
  refine ⟨tMethG K tab m W ta tNil, fun X g => ⟨fun pins s σ H Q I h => ?_⟩, rt_meth ra fun H0 w Γ σ ok f Q p => p [] w (Evo.refl w) ok rfl .nil⟩
  have pX := pa X g
  obtain ⟨rfl, rfl, rfl, rfl, rfl, rfl, hsc, hc, hr, hgd, tk, _, _⟩ := g
  obtain ⟨p, hp, h⟩ := h
  obtain ⟨c, gf, fd, ps, F, hm, hb⟩ := T p hp
  refine PySem.W.methodCall_KW (pl := pl X.env) (thn (pX.run pins s σ H _ I h) fun u s1 ⟨x, H1, I1, rx, a, dx, fs, ex, ea, l, q⟩ => ?_) (ht X.env)
  subst ex
  obtain rfl : u = Value.ref a := rx
  refine getmeth_ok I1 ea c hm l ?_
  exact PySem.W.callWith_K0 (first := [.ref a]) I1.kIn hm.kp (run_g (us := [.ref a]) (vs := [.ref a]) F ⟨hr.mono hk, hgd⟩ hb tk I1 (.cons rfl .nil) q)
/-! #### properties -/
def tPropG (K : PySem.W.Frag) (tab : List (String × DF)) (ta : TE) : TE := fun σ H Q => ∃ p ∈ tab, ta σ H fun x H1 => ∃ a dx fs, x = .ref a ∧ H1 a = some (.ins (cA K p.1) dx fs) ∧ spD K p.2 [.ref a] H1 Q fun _ _ _ => False
def eProp (tab : List (String × DF)) (mo : EM) : EM := fun Γ st => if tab = [] then .no else (mo Γ st).bind fun o s1 => match deref s1 o with
  | .ins C _ => (match tab.lookup C with
      | some F => (match F [o] s1 with | .ok d s2 => .ok d s2 | _ => .no)
      | none => .no)
  | _ => .no
theorem rt_prop {tab : List (String × DF)} {ta : TE} {mo : EM} (ra : RT K W ta mo) : RT K W (tPropG K tab ta) (eProp tab mo) := by
  intro H0 w Γ σ ok f0 Q q
  unfold eProp at q
  by_cases hT : tab = []
  · rw [if_pos hT] at q; exact q.elim
  rw [if_neg hT] at q
  cases e : mo Γ w.st with
  | no => rw [e] at q; exact q.elim
  | err x st =>
    cases tab with
    | nil => exact absurd rfl hT
    | cons p ps =>
      refine ⟨p, List.mem_cons_self, ra H0 w Γ σ ok f0 _ ?_⟩
      rw [e] at q ⊢; exact q
  | ok o s1 =>
    rw [e, ok_bind] at q
    cases hd : deref s1 o with
    | ins C fs =>
      rw [hd] at q
      dsimp only at q
      cases hF : tab.lookup C with
      | none => rw [hF] at q; exact q.elim
      | some F =>
        rw [hF] at q
        dsimp only at q
        refine ⟨(C, F), lookup_mem hF, ra H0 w Γ σ ok f0 _ ?_⟩
        rw [e]
        intro v w1 e1 k1 s1' rv
        have vw := rv.vw k1
        rw [s1', hd] at vw
        obtain ⟨a, dx, vs, rfl, hH, rp⟩ := vw
        refine ⟨a, dx, vs, rfl, hH, w1, [o], rfl, k1, .cons rv .nil, ?_⟩
        show PostE K w1 (F [o] w1.st) Q _
        rw [s1']
        cases hr : F [o] s1 with
        | ok d s2 => rw [hr] at q; exact PostE.shift (r := .ok d s2) e1 k1 q
        | err x s2 => rw [hr] at q; exact q.elim
        | no => rw [hr] at q; exact q.elim
    | _ => rw [hd] at q; exact q.elim
theorem pr_prop {j : Nat} {m : Str} {tab : List (String × DF)} {o : Expr} {mo : EM} {pos : Pos} (T : ∀ p ∈ tab, PropOK P wd K mg base j p.1 m p.2) (ho : PR P wd K mg base k N sc W o mo) (hk : j + 1 ≤ k := by omega)
    (hb : ∀ env, attributeBase o m env (eval o env) = eval o env := by intro _; rfl) : PR P wd K mg base k N sc W (.Attribute o m pos) (eProp tab mo) := by
  obtain ⟨ta, pa, ra⟩ := ho
  refine ⟨tPropG K tab ta, fun X g => ⟨fun pins s σ H Q I h => ?_⟩, rt_prop ra⟩
  have pX := pa X g
  obtain ⟨rfl, rfl, rfl, rfl, rfl, rfl, hsc, hc, hr, hgd, tk, _, _⟩ := g
  obtain ⟨p, hp, h⟩ := h
  obtain ⟨c, gf, pf, fd, ps, F, hm, hbd⟩ := T p hp
  refine attr_of (hb X.env) (thn (pX.run pins s σ H _ I h) fun u s1 ⟨x, H1, I1, rx, a, dx, fs, ex, ea, q⟩ => ?_)
  subst ex
  obtain rfl : u = Value.ref a := rx
  exact getprop_g I1 ea c hm F ⟨hr.mono hk, hgd⟩ hbd q
/-! #### new objects -/
def tMakeG (K : PySem.W.Frag) (C : String) (F : DF) (W : WX) (t : TA) : TE := fun σ H Q => t σ H fun vs H1 => ∀ x dx, H1 x = none → H1 dx = none → dx ≠ x →
  spD K F (.ref x :: vs) (upd (upd H1 dx (.own x)) x (.ins (cA K C) dx [])) (fun v H2 => v = .non ∧ Q (.ref x) H2) (WE W σ)
/-- an object of the store is sealed: from then on it is read only -/
theorem sealO {w1 w' : Wd} {l : Nat} {C : String} {fs : List (Str × D)} (e : Evo w1 w') (k : Ok K w') (hx : w1.H (w'.ρ l) = none) (h : w'.st[l]? = some (.ins C fs)) : ∃ w2 : Wd, w2.H = w'.H ∧ w2.st = w'.st.set l .tomb ∧ Evo w1 w2 ∧ Ok K w2 ∧ Rep K w2 (.ref (w'.ρ l)) (.ins C fs) := by
  obtain ⟨o, h1, h2, h3⟩ := k.live h (by simp)
  have h3' := h3
  obtain ⟨dx, vs, rfl, rp⟩ := h3'
  have hl := getElem?_lt h
  have x : Ext w' { w' with M := upd w'.M (w'.ρ l) (.ins (cA K C) dx vs), st := w'.st.set l .tomb } := ⟨fun b u q => by show upd w'.M _ _ b = _; rw [upd_ne (ne_of_none q h2)]; exact q, fun _ _ => rfl, by show _ ≤ (w'.st.set l D.tomb).length; simp⟩
  refine ⟨{ w' with M := upd w'.M (w'.ρ l) (.ins (cA K C) dx vs), st := w'.st.set l .tomb }, rfl, rfl, ⟨(e.ext.trans x).mono, e.rho, (e.ext.trans x).le, fun b u q n => ?_, fun m a b => ?_, e.keep⟩, ⟨fun b u q => ?_, fun m d q => ?_, fun a b ha hb => ?_⟩, ?_⟩
  · by_cases z : b = w'.ρ l
    · rw [z]; exact hx
    · have q' : upd w'.M (w'.ρ l) _ b = some u := q
      rw [upd_ne z] at q'; exact e.newM b u q' n
  · have b' : m < (w'.st.set l D.tomb).length := b
    simp at b'
    exact e.newR m a b'
  · have q' : upd w'.M (w'.ρ l) _ b = some u := q
    by_cases z : b = w'.ρ l
    · rw [z, upd_same] at q'; cases q'; rw [z]; exact h1
    · rw [upd_ne z] at q'; exact k.ex b u q'
  · have q' : (w'.st.set l D.tomb)[m]? = some d := q
    by_cases z : l = m
    · subst z
      rw [List.getElem?_set_self hl] at q'; cases q'
      exact ⟨_, h1, .inl rfl⟩
    · rw [List.getElem?_set_ne z] at q'
      obtain ⟨u, g1, g2⟩ := k.sto m d q'
      refine ⟨u, g1, g2.imp id fun ⟨g2, g3⟩ => ⟨?_, g3.ext x⟩⟩
      show upd w'.M _ _ (w'.ρ m) = _
      rw [upd_ne (fun y => z (k.inj l m hl (getElem?_lt q') y.symm))]; exact g2
  · have ha' : a < (w'.st.set l D.tomb).length := ha
    have hb' : b < (w'.st.set l D.tomb).length := hb
    simp at ha' hb'
    exact k.inj a b ha' hb'
  · have rp' := rp.ext x
    exact .ins (by show upd _ _ _ _ = _; exact upd_same) rp'.1 rp'.2
def eMakeR (C : String) (F : DF) (ms : EM) : EM := fun Γ st => (ms Γ st).bind fun d s => match d with
  | .tup ds => (match F (.ref s.length :: ds) (s ++ [.ins C []]) with
    | .ok .non s2 => .ok (.ref s.length) s2
    | .err x s2 => .err x s2
    | _ => .no)
  | _ => .no
def eMake (C : String) (F : DF) (ms : EM) : EM := fun Γ st => (ms Γ st).bind fun d s => match d with
  | .tup ds => (match F (.ref s.length :: ds) (s ++ [.ins C []]) with
    | .ok .non s2 => (match s2[s.length]? with | some (.ins C' fs) => .ok (.ins C' fs) (s2.set s.length .tomb) | _ => .no)
    | .err x s2 => .err x s2
    | _ => .no)
  | _ => .no
theorem make_start {w1 : Wd} (k1 : Ok K w1) {C : String} {x dx : Addr} (hx : w1.H x = none) (hd : w1.H dx = none) (ne : dx ≠ x) : ∃ w2 : Wd, w2.H = upd (upd w1.H dx (.own x)) x (.ins (cA K C) dx []) ∧ w2.st = w1.st ++ [.ins C []] ∧ Evo w1 w2 ∧ Ok K w2 ∧ w2.ρ w1.st.length = x := by
  have e1 := evo_al k1 (.own x) hd
  have o1 := ok_al k1 (.own x) (k1.none hd) (k1.noR hd)
  have hx1 : (w1.al dx (.own x)).H x = none := by show upd _ _ _ _ = _; rw [upd_ne (Ne.symm ne)]; exact hx
  have e2 := evo_al o1 (.ins (cA K C) dx []) hx1
  have o2 := ok_al o1 (.ins (cA K C) dx []) (o1.none hx1) (o1.noR hx1)
  obtain ⟨e3, _, o3⟩ := push_ok (w0 := w1) (a := x) (d := .ins C []) (e1.trans o1 e2) o2 hx (show upd _ _ _ _ = _ from upd_same) (o1.none hx1) (o1.noR hx1) ⟨dx, [], rfl, .nil⟩
  exact ⟨_, rfl, rfl, e3, o3, by show (if w1.st.length = w1.st.length then x else _) = _; rw [if_pos rfl]⟩
theorem rt_make {C : String} {F : DF} {t : TA} {ms : EM} (r : RTA K W t ms) : RT K W (tMakeG K C F W t) (eMake C F ms) := by
  intro H0 w Γ σ ok f0 Q q
  refine RTA.use (P := fun w r => PostE K w r Q (at_ W σ)) r ok f0 (fun _ _ e k p => p.shift e k) (fun _ _ p => p) (fun p => p) (fun d st hb => by cases d <;> first | rfl | exact absurd rfl (hb _)) q fun ds vs w1 e1 k1 f1 r1 p1 => ?_
  intro x dx hx hd ne
  obtain ⟨w2, h1, h2, e2, k2, hr⟩ := make_start (C := C) k1 hx hd ne
  have hl : w1.st.length < w2.st.length := by rw [h2]; simp
  have rr : Rep K w2 (.ref x) (.ref w1.st.length) := by rw [← hr]; exact .ref hl
  refine ⟨w2, .ref w1.st.length :: ds, h1, k2, .cons rr (r1.evo e2), ?_⟩
  rw [h2]
  have p1' : PostE K w1 (match F (.ref w1.st.length :: ds) (w1.st ++ [.ins C []]) with | .ok .non s2 => (match s2[w1.st.length]? with | some (.ins C' fs) => .ok (.ins C' fs) (s2.set w1.st.length .tomb) | _ => .no) | .err x s2 => .err x s2 | _ => .no) Q (at_ W σ) := p1
  cases e : F (.ref w1.st.length :: ds) (w1.st ++ [.ins C []]) with
  | no => rw [e] at p1'; exact p1'.elim
  | err y s2 => rw [e] at p1'; exact fun c dd w3 e3 k3 s3 rx => p1' c dd w3 (e2.trans k2 e3) k3 s3 rx
  | ok d s2 =>
    rw [e] at p1'
    cases d with
    | non =>
      intro v w3 e3 k3 s3 rv
      cases rv
      refine ⟨rfl, ?_⟩
      dsimp only at p1'
      split at p1'
      · rename_i C' fs hs
        rw [← s3] at hs p1'
        have hρ : w3.ρ w1.st.length = x := (e3.rho _ hl).trans hr
        obtain ⟨w4, g1, g2, g3, g4, g5⟩ := sealO (e2.trans k2 e3) k3 (by rw [hρ]; exact hx) hs
        rw [hρ] at g5
        rw [← g1]
        exact p1' (.ref x) w4 g3 g4 g2 g5
      · exact p1'.elim
    | _ => exact p1'.elim
theorem pe_makeG {X : Cx} {j : Nat} {C : String} {F : DF} {e : Expr} {es : List Expr} {t : TA} {p pos : Pos} (g : G P wd K mg base k N sc W X) (M : MakeOK P wd K mg base j C F) (pa : PA X (e :: es) t) (hk : j + 1 ≤ k) (hg : sc.s.names.lookup (Str.ofString C) = some .globalImplicit)
    (hdb : (Str.ofString C == ("__debug__" : Str)) = false) (he : ∀ env, starEach (e :: es) env = (false, eval e env) :: starEach es env) (hpl : ∀ env, (backTo pos (starEach es env)).any (·.1) = false) :
    PE X (.Call (.Name (Str.ofString C) p) (e :: es) [] pos) (tMakeG K C F W t) := by
  obtain ⟨rfl, rfl, rfl, rfl, rfl, rfl, hsc, hc, hr, hgd, tk, _, _⟩ := g
  obtain ⟨hm, gf, fd, ps, F1, M1, hb⟩ := M
  refine ⟨fun pins s σ H Q I h => ?_⟩
  refine wpAny_Call_Name_kw (ld_glob I (by unfold Gl PySem.Env.kindOf; rw [hsc]; exact hg) hm ?_ hdb)
  refine PySem.W.callWith_K (h₀ := X.base) I.ok.mod.kin M1.kp (thn (pa.run pos pins s σ H _ I h) fun us s1 ⟨vs, H1, I1, r, q⟩ => ⟨I1.kIn, ?_⟩) (he X.env) (hpl X.env)
  exact run_makeG M1 F1 ⟨hr.mono hk, hgd⟩ hb tk I1 r q
theorem pr_make {j : Nat} (C : String) {F : DF} {e : Expr} {es : List Expr} {ms : EM} {p pos : Pos} (M : MakeOK P wd K mg base j C F) (ha : PAr P wd K mg base k N sc W (e :: es) ms) (hk : j + 1 ≤ k := by omega) (hg : sc.s.names.lookup (Str.ofString C) = some .globalImplicit := by rfl)
    (hdb : (Str.ofString C == ("__debug__" : Str)) = false := by decide) (he : ∀ env, starEach (e :: es) env = (false, eval e env) :: starEach es env := by intro _; rfl) (hpl : ∀ env, (backTo pos (starEach es env)).any (·.1) = false := by intro _; rfl) :
    PR P wd K mg base k N sc W (.Call (.Name (Str.ofString C) p) (e :: es) [] pos) (eMake C F ms) := by
  obtain ⟨t, pt, r⟩ := ha
  exact ⟨_, fun X g => pe_makeG g M (pt X g) hk hg hdb he hpl, rt_make r⟩
end
end DL
namespace DL
open PySem L2
section
variable {P : Program} {wd : World} {K : PySem.W.Frag} {mg : Str → Option Value} {base : Heap} {k : Nat} {N : List Str} {sc : SC} {W : WX}
/-! ### what is never reached -/
def eNo : EM := fun _ _ => .no
def sNo : SM := fun _ _ => .no
theorem ps_no {s : Stmt} : PSt P wd K mg base k N sc W s sNo := ⟨fun _ _ _ => False, fun X g => ⟨fun _ _ _ _ _ _ h => h.elim⟩, fun w0 w Γ σ e ok f D p => p⟩
/-! ### a < b < c -/
def eChain (f g : D → D → Store → ER) (ma mb mc : EM) : EM := fun Γ st => (ma Γ st).bind fun x s1 => (mb Γ s1).bind fun y s2 => (f (deref s2 x) (deref s2 y) s2).bind fun z s3 => match z with
  | .bl true => (mc Γ s3).bind fun u s4 => g (deref s4 y) (deref s4 u) s4
  | .bl false => .ok (.bl false) s3
  | _ => .no
theorem rt_chain {r r' : R2} {f g : D → D → Store → ER} {ta tb tc : TE} {ma mb mc : EM} (h : OpD K r f) (h' : OpD K r' g) (ra : RB K W ta ma) (rb : RB K W tb mb) (rc : RB K W tc mc) : RT K W (tChain r r' ta tb tc) (eChain f g ma mb mc) := by
  intro H0 w Γ σ ok f0 Q p
  refine ra.use ok f0 (P := fun w r => PostE K w r Q (at_ W σ)) (fun _ _ e k p => p.shift e k) (fun _ _ p => p) (fun p => p) p fun dx x w1 e1 k1 f1 vx p1 => ?_
  refine rb.use k1 f1 (P := fun w r => PostE K w r Q (at_ W σ)) (fun _ _ e k p => p.shift e k) (fun _ _ p => p) (fun p => p) p1 fun dy y w2 e2 k2 f2 vy p2 => ?_
  refine h w2 x y _ _ _ (at_ W σ) k2 ((vx.evo e2).vw k2 f2) (vy.vw k2 f2) ?_
  have p2' : PostE K w2 ((f (deref w2.st dx) (deref w2.st dy) w2.st).bind _) Q (at_ W σ) := p2
  cases e : f (deref w2.st dx) (deref w2.st dy) w2.st with
  | no => rw [e] at p2'; exact p2'
  | err z s3 => rw [e] at p2'; exact p2'
  | ok z s3 =>
    rw [e, ok_bind] at p2'
    intro v w3 e3 k3 s3' rv
    subst s3'
    cases rv with
    | @bl b =>
      refine ⟨b, rfl, ?_⟩
      have p3 := PostE.shift e3 k3 p2'
      cases b with
      | true =>
        refine iteT ?_
        refine rc.use k3 (f2.evo e3) (P := fun w r => PostE K w r Q (at_ W σ)) (fun _ _ e k p => p.shift e k) (fun _ _ p => p) (fun p => p) p3 fun du u w4 e4 k4 f4 vu p4 => ?_
        exact h' w4 y u _ _ Q _ k4 (((vy.evo e3).evo e4).vw k4 f4) (vu.vw k4 f4) p4
      | false => exact iteF (p3.now k3 .bl)
    | _ => exact p2'.elim
theorem pr_chain {op op' : CmpOp} {r r' : R2} {f g : D → D → Store → ER} {a b c : Expr} {ma mb mc : EM} {pos : Pos} (ho : ∀ X, G P wd K mg base k N sc W X → OpR X (compareOp op) r) (h : OpD K r f) (ho' : ∀ X, G P wd K mg base k N sc W X → OpR X (compareOp op') r') (h' : OpD K r' g)
    (ha : PB P wd K mg base k N sc W a ma) (hb : PB P wd K mg base k N sc W b mb) (hc : PB P wd K mg base k N sc W c mc) (hm : lastMarks [op, op'] [b, c] = false := by with_unfolding_all rfl) : PR P wd K mg base k N sc W (.Compare a [op, op'] [b, c] pos) (eChain f g ma mb mc) := by
  obtain ⟨ta, pa, ra⟩ := ha
  obtain ⟨tb, pb, rb⟩ := hb
  obtain ⟨tc, pc, rc⟩ := hc
  exact ⟨_, fun X g => pe_chain (ho X g) (ho' X g) (pa X g) (pb X g) (pc X g) hm, rt_chain h h' ra rb rc⟩
theorem X_le (X : Cx) (_ : G P wd K mg base k N sc W X) : OpR X (compareOp .LtE) (rOr (rI0 fun i j => .bl (decide (i ≤ j))) (fun x y H Q => ∃ i j, x = .str i ∧ y = .str j ∧ Q (.bl (!decide (j.cps.toList < i.cps.toList))) H)) := OpR.or' op_le op_le_str

/-! ### dict comprehensions -/
def dcL (mg : GM) (mt mk me : EM) : List D → DEnv → Store → List (Key × D) → ER
  | [], _, st, acc => .ok (.dct acc) st
  | d :: ds, Γ, st, acc => match mg d Γ with
    | none => .no
    | some Γ1 => match mt Γ1 st with
      | .ok (.bl true) s1 => match mk Γ1 s1 with
        | .ok ky s2 => match keyD ky with
          | some kk => match me Γ1 s2 with
            | .ok x s3 => if acc.length < 16777216 then dcL mg mt mk me ds Γ s3 (putD acc kk x) else .no
            | _ => .no
          | none => .no
        | _ => .no
      | .ok (.bl false) s1 => dcL mg mt mk me ds Γ s1 acc
      | _ => .no
def eDc (vs : List Nat) (mi : EM) (mg : GM) (mt mk me : EM) : EM := fun Γ st => (mi Γ st).bind fun d s => match d with | .tup ds => dcL mg mt mk me ds (wipeE Γ vs) s [] | _ => .no
theorem rtn_dc {wi : TI} {g : TG} {tt : TT} {tk te : TE} {mi mt mk me : EM} {mg' : GM} {is vs : List Nat} (hi : RTI K W wi mi) (hg : RTG K g mg' is) (his : ∀ i ∈ is, i ∈ vs) (ht : RTT K WF tt mt) (hkk : RT K WF tk mk) (he : RT K WF te me) : RTN K W (tDc wi g tt tk te vs) (eDc vs mi mg' mt mk me) := by
  intro H0 w Γ σ ok f Q p
  refine hi H0 w Γ σ ok f _ ?_
  have p' : PostN K w ((mi Γ w.st).bind _) Q (at_ W σ) := p
  cases h : mi Γ w.st with
  | no => rw [h] at p'; exact p'
  | err x st => rw [h] at p'; exact p'
  | ok d st =>
    rw [h] at p'
    cases d with
    | tup ds =>
      intro J w' ev k' s it
      subst s
      have p1 : PostN K w' (dcL mg' mt mk me ds (wipeE Γ vs) w'.st []) Q (at_ W σ) := PostN.shift ev k' p'
      have f' := f.evo ev
      intro D hD
      have a0 := evo_al k' (.dK []) hD
      have o0 := ok_al k' (.dK []) (k'.none hD) (k'.noR hD)
      refine ⟨fun i m H => ∃ (w1 : Wd) (acc : List (Key × V)) (acd : List (Key × DL.D)), H = w1.H ∧ Evo w' w1 ∧ Ok K w1 ∧ w1.H D = some (.dK acc) ∧ w1.M D = none ∧ (∀ l, l < w1.st.length → w1.ρ l ≠ D) ∧ RepP K w1 acc acd ∧ m = ds.length - i ∧ i ≤ ds.length ∧ PostN K w' (dcL mg' mt mk me (ds.drop i) (wipeE Γ vs) w1.st acd) Q (at_ W σ),
        ⟨ds.length, w'.al D (.dK []), [], [], rfl, a0, o0, upd_same, k'.none hD, k'.noR hD, .nil, rfl, Nat.zero_le _, p1⟩, ?_⟩
      rintro i m H ⟨w1, acc, acd, rfl, e1, k1, hd1, hm1, hr1, ra, rfl, hle, q⟩
      obtain ⟨go, stop⟩ := it i w1 e1.ext k1
      cases hd : ds[i]? with
      | none =>
        refine .inl ⟨stop hd, ?_⟩
        rw [List.drop_eq_nil_of_le (List.getElem?_eq_none_iff.mp hd)] at q
        exact q D _ w1 e1 k1 rfl hD hd1 hm1 hr1 ⟨acc, rfl, ra⟩
      | some d =>
        obtain ⟨g1, g2⟩ := go d hd
        have hl := getElem?_lt hd
        refine .inr ⟨g1, fun H => ∃ (w1 : Wd) (acc : List (Key × V)) (acd : List (Key × DL.D)), H = w1.H ∧ Evo w' w1 ∧ Ok K w1 ∧ w1.H D = some (.dK acc) ∧ w1.M D = none ∧ (∀ l, l < w1.st.length → w1.ρ l ≠ D) ∧ RepP K w1 acc acd ∧ PostN K w' (dcL mg' mt mk me (ds.drop (i + 1)) (wipeE Γ vs) w1.st acd) Q (at_ W σ), ?_, fun x H2 y => ?_⟩
        · rintro H' ⟨w3, acc3, acd3, rfl, b1, b2, b3, b4, b5, b6, b7⟩
          exact ⟨ds.length - (i + 1), by omega, w3, acc3, acd3, rfl, b1, b2, b3, b4, b5, b6, rfl, hl, b7⟩
        · obtain ⟨w2, rfl, s2, e2, k2, r2⟩ := g2 x H2 y
          rw [List.drop_eq_getElem_cons hl] at q
          have hd' : ds[i] = d := by rw [List.getElem?_eq_getElem hl] at hd; exact Option.some.inj hd
          rw [hd'] at q
          unfold dcL at q
          have fw : Fr K H0 w2 (wipeE Γ vs) (wipe σ vs) := ((fr_wipe f' vs).evo e1).evo e2
          have stand : ∀ {w3 w4 : Wd}, Evo w3 w4 → w3.H D = some (.dK acc) → w3.M D = none → (∀ l, l < w3.st.length → w3.ρ l ≠ D) → w4.H D = some (.dK acc) ∧ w4.M D = none ∧ ∀ l, l < w4.st.length → w4.ρ l ≠ D := fun {w3 w4} e h1 h2 h3 => by
            refine ⟨e.keep D _ h1 h2 h3, ?_, fun l hl z => ?_⟩
            · cases z : w4.M D with
              | none => rfl
              | some u => have y := e.newM D u z h2; rw [h1] at y; cases y
            · by_cases z2 : l < w3.st.length
              · exact h3 l z2 ((e.rho l z2).symm.trans z)
              · have y := e.newR l (Nat.le_of_not_lt z2) hl
                rw [z, h1] at y; cases y
          cases h1 : mg' d (wipeE Γ vs) with
          | none => rw [h1] at q; exact q.elim
          | some Γ2 =>
            rw [h1] at q
            dsimp only at q
            refine hg H0 w2 _ Γ2 _ x d k2 fw r2 h1 _ fun σ2 f2 wp => ⟨(wp vs his).trans (wipe_wipe vs), ?_⟩
            refine ht H0 w2 Γ2 σ2 k2 f2 _ ?_
            rw [s2]
            obtain ⟨c1, c2, c3⟩ := stand e2 hd1 hm1 hr1
            cases h2 : mt Γ2 w1.st with
            | no => rw [h2] at q; exact q.elim
            | err x st => rw [h2] at q; exact q.elim
            | ok b s1 =>
              rw [h2] at q
              cases b with
              | bl b =>
                intro w3 e3 k3 s3
                obtain ⟨d1, d2, d3⟩ := stand e3 c1 c2 c3
                have e13 : Evo w' w3 := (e1.trans k1 e2).trans k2 e3
                cases b with
                | false =>
                  refine iteF ⟨w3, acc, acd, rfl, e13, k3, d1, d2, d3, (ra.evo e2).evo e3, ?_⟩
                  rw [s3]; exact q
                | true =>
                  refine iteT ?_
                  refine hkk H0 w3 Γ2 σ2 k3 (f2.evo e3) _ ?_
                  rw [s3]
                  dsimp only at q
                  cases h3 : mk Γ2 s1 with
                  | no => rw [h3] at q; exact q.elim
                  | err x st => rw [h3] at q; exact q.elim
                  | ok ky s4 =>
                    rw [h3] at q
                    dsimp only at q
                    cases hky : keyD ky with
                    | none => rw [hky] at q; exact q.elim
                    | some kk =>
                      rw [hky] at q
                      dsimp only at q
                      intro vk w4 e4 k4 s4' rvk
                      obtain ⟨y1, y2, y3⟩ := stand e4 d1 d2 d3
                      have hvk := keyD_rep rvk hky
                      refine he H0 w4 Γ2 σ2 k4 ((f2.evo e3).evo e4) _ ?_
                      rw [s4']
                      cases h4 : me Γ2 s4 with
                      | no => rw [h4] at q; exact q.elim
                      | err x st => rw [h4] at q; exact q.elim
                      | ok x' s5 =>
                        rw [h4] at q
                        dsimp only at q
                        intro v w5 e5 k5 s5' rv
                        obtain ⟨z1, z2, z3⟩ := stand e5 y1 y2 y3
                        by_cases hlen : acd.length < 16777216
                        · rw [if_pos hlen] at q
                          have ra5 := (((ra.evo e2).evo e3).evo e4).evo e5
                          refine ⟨acc, kk, hvk, z1, by rw [ra.len, sizeLine_eq]; exact hlen, w5.al D (.dK (putK acc kk v)), putK acc kk v, putD acd kk x', rfl, ?_, ok_al k5 _ z2 z3, upd_same, z2, z3, RepP.ext (w := w5) (w' := w5.al D _) ⟨fun _ _ h => h, fun _ _ => rfl, Nat.le_refl _⟩ (repP_put ra5 kk rv), ?_⟩
                          · have e15 := (e13.trans k3 e4).trans k4 e5
                            exact ⟨e15.mono, e15.rho, e15.le, e15.newM, e15.newR, fun b u hb hmb hrb => by
                              show upd w5.H D _ b = _
                              rw [upd_ne (ne_of_none hb hD)]; exact e15.keep b u hb hmb hrb⟩
                          · show PostN K w' (dcL mg' mt mk me _ _ w5.st _) Q _
                            rw [s5']; exact q
                        · rw [if_neg hlen] at q; exact q.elim
              | _ => exact q.elim
    | _ => exact p'.elim
theorem dcL_dct {mg' : GM} {mt mk me : EM} {d : DL.D} {s : Store} : ∀ (ds : List DL.D) (Γ : DEnv) (st : Store) (acc : List (Key × DL.D)), dcL mg' mt mk me ds Γ st acc = .ok d s → ∃ xs, d = .dct xs
  | [], Γ, st, acc, h => by cases h; exact ⟨_, rfl⟩
  | x :: ds, Γ, st, acc, h => by
    unfold dcL at h
    split at h
    · cases h
    · split at h
      · split at h
        · split at h
          · split at h
            · split at h
              · exact dcL_dct ds _ _ _ h
              · cases h
            · cases h
          · cases h
        · cases h
      · exact dcL_dct ds _ _ _ h
      · cases h
theorem isNew_dc {vs : List Nat} {mi mt mk me : EM} {mg' : GM} : IsNew (eDc vs mi mg' mt mk me) := fun Γ st d s h => by
  have h' : (mi Γ st).bind _ = .ok d s := h
  cases e : mi Γ st with
  | no => rw [e] at h'; cases h'
  | err x st => rw [e] at h'; cases h'
  | ok x s1 =>
    rw [e] at h'
    cases x with
    | tup ds => obtain ⟨xs, rfl⟩ := dcL_dct ds _ _ _ h'; trivial
    | _ => cases h'
theorem pn_dc {kx vx tg iter : Expr} {ifs : List Expr} {scope : Scope} {own : List (Str × Nat)} {pos : Pos} {mi mt mk me : EM} {mg' : GM} {is : List Nat} (nd : N.Nodup) (ok : BlkOk N sc.s scope own) (hi : PIt P wd K mg base k N sc W tg iter mi) (hg : PGt P wd K mg base k N (blkS scope sc) WF tg mg' is)
    (ht : PTj P wd K mg base k N (blkS scope sc) WF ifs mt) (hkk : PR P wd K mg base k N (blkS scope sc) WF kx mk) (he : PR P wd K mg base k N (blkS scope sc) WF vx me) (his : ∀ i ∈ is, i ∈ own.map (·.2) := by decide) (hs : ∀ env x, foldedSetIterable iter env x = pure x := by intro _ _; rfl) :
    PN P wd K mg base k N sc W (.DictComp kx vx [⟨tg, iter, ifs, 0⟩] scope pos) (eDc (own.map (·.2)) mi mg' mt mk me) := by
  obtain ⟨ti, pi, ri⟩ := hi
  obtain ⟨tg', pg, rg⟩ := hg
  obtain ⟨tt, pt, rt⟩ := ht
  obtain ⟨tk, pk, rk⟩ := hkk
  obtain ⟨te, pe, re⟩ := he
  exact ⟨_, fun X g => pe_dc g.calm (by rw [g.nn]; exact nd) (pi X g) (by rw [g.nn, g.scp]; exact ok) (fun s H C cl fp => pg _ (g_blk g)) (fun s H C cl fp => pt _ (g_blk g)) (fun s H C cl fp => pk _ (g_blk g)) (fun s H C cl fp => pe _ (g_blk g)) (hs X.env), rtn_dc ri rg his rt rk re⟩
theorem pr_dc {kx vx tg iter : Expr} {ifs : List Expr} {scope : Scope} {own : List (Str × Nat)} {pos : Pos} {mi mt mk me : EM} {mg' : GM} {is : List Nat} (nd : N.Nodup) (ok : BlkOk N sc.s scope own) (hi : PIt P wd K mg base k N sc W tg iter mi) (hg : PGt P wd K mg base k N (blkS scope sc) WF tg mg' is)
    (ht : PTj P wd K mg base k N (blkS scope sc) WF ifs mt) (hkk : PR P wd K mg base k N (blkS scope sc) WF kx mk) (he : PR P wd K mg base k N (blkS scope sc) WF vx me) (his : ∀ i ∈ is, i ∈ own.map (·.2) := by decide) (hs : ∀ env x, foldedSetIterable iter env x = pure x := by intro _ _; rfl) :
    PR P wd K mg base k N sc W (.DictComp kx vx [⟨tg, iter, ifs, 0⟩] scope pos) (eDc (own.map (·.2)) mi mg' mt mk me) := (pn_dc nd ok hi hg ht hkk he his hs).fz isNew_dc
end
end DL
namespace DL
open PySem L2
/-! ### sorted texts -/
def leS (a b : Str) : Bool := !PySem.Spec.ltCps b.cps.toList a.cps.toList
def srtS (xs : List Str) : List Str := xs.mergeSort leS
theorem leS_iff {a b : Str} : leS a b = true ↔ ¬ b.cps.toList < a.cps.toList := by
  unfold leS
  rw [PyProof.Rows.ltCps_eq]
  simp
theorem leS_trans (a b c : Str) (h : leS a b = true) (h' : leS b c = true) : leS a c = true := by
  rw [leS_iff, List.not_lt] at *
  exact List.le_trans h h'
theorem leS_total (a b : Str) : (leS a b || leS b a) = true := by
  by_cases h : leS a b = true
  · rw [h]; rfl
  · have h' : b.cps.toList < a.cps.toList := by
      rw [leS_iff] at h
      exact Classical.not_not.mp h
    have : leS b a = true := by
      rw [leS_iff]
      exact fun z => List.lt_irrefl _ (List.lt_trans h' z)
    rw [this, Bool.or_true]
theorem leS_anti (a b : Str) (h : leS a b = true) (h' : leS b a = true) : a = b := by
  rw [leS_iff, List.not_lt] at h h'
  have := List.le_antisymm h h'
  obtain ⟨⟨x⟩⟩ := a
  obtain ⟨⟨y⟩⟩ := b
  simp at this
  subst this; rfl
theorem srtS_perm (xs : List Str) : (srtS xs).Perm xs := List.mergeSort_perm xs leS
theorem srtS_sorted (xs : List Str) : (srtS xs).Pairwise (fun a b => leS a b = true) := List.pairwise_mergeSort leS_trans leS_total xs
section
variable {P : Program} {wd : World} {K : PySem.W.Frag} {mg : Str → Option Value} {base : Heap} {k : Nat} {N : List Str} {sc : SC} {W : WX}
def keyTs : List (Key × D) → Option (List Str)
  | [] => some []
  | (.inr x, _) :: r => (keyTs r).map (x :: ·)
  | _ => none
theorem keyTs_of : ∀ {kvs : List (Key × D)} {ks : List Str}, keyTs kvs = some ks → kvs.map (·.1) = ks.map Sum.inr
  | [], ks, h => by cases h; rfl
  | (.inr x, d) :: r, ks, h => by
    unfold keyTs at h
    cases e : keyTs r with
    | none => rw [e] at h; cases h
    | some js => rw [e] at h; cases h; simp [keyTs_of e]
  | (.inl _, _) :: _, ks, h => by cases h
def bSorted : List D → Store → ER
  | [.lst xs], st => match strsOf xs with
    | some ys => if ys.length < 64 then .ok (.lst ((srtS ys).map .str)) st else .no
    | none => .no
  | [.dct kvs], st => match keyTs kvs with
    | some ys => if ys.length < 64 then .ok (.lst ((srtS ys).map .str)) st else .no
    | none => .no
  | _, _ => .no
theorem repL_strs {w : Wd} (ys : List Str) : RepL K w (ys.map V.str) (ys.map D.str) := RepL.of_map (fun _ => .str) ys
/-! ### list(dict), dict(dict) -/
def bListX : List D → Store → ER
  | [.lst xs], st => .ok (.lst xs) st
  | [.tup xs], st => .ok (.lst xs) st
  | [.scr ns], st => .ok (.lst (ns.map .int)) st
  | [.dct kvs], st => .ok (.lst (kvs.map fun p => kD p.1)) st
  | _, _ => .no
theorem repP_keys {w : Wd} {vs : List (Key × V)} {xs : List (Key × D)} (r : RepP K w vs xs) : RepL K w (vs.map fun kv => kV kv.1) (xs.map fun p => kD p.1) := by
  have e : (vs.map fun kv => kV kv.1) = (xs.map fun p => kV p.1) := by
    have h1 : (vs.map fun kv => kV kv.1) = (vs.map (·.1)).map kV := by rw [List.map_map]; rfl
    have h2 : (xs.map fun kv => kV kv.1) = (xs.map (·.1)).map kV := by rw [List.map_map]; rfl
    rw [h1, h2, r.1]
  rw [e]
  exact RepL.of_map (fun p => rep_kV p.1) xs
theorem cd_listX : CallD K (fun xs H Q => (∃ p ys, xs = [.ref p] ∧ (SqL K H p ys ∨ SqT K H p ys) ∧ ∀ l, H l = none → Q (.ref l) (upd H l (.lst ys))) ∨ ∃ (a : Addr) (kvs : List (Key × V)), xs = [.ref a] ∧ Rd H a (.dK kvs) ∧ ∀ p, H p = none → Q (.ref p) (upd H p (.lst (kvs.map fun kv => kV kv.1)))) bListX := fun w vs ds Q E k v p => by
  unfold bListX at p
  split at p
  · obtain ⟨x, rfl, a, us, rfl, h, r⟩ := v.one; exact .inl ⟨_, _, rfl, .inl (SqL.of h), fun l hl => p.lst rfl k r l hl⟩
  · obtain ⟨x, rfl, a, us, rfl, h, r⟩ := v.one; exact .inl ⟨_, _, rfl, .inr h, fun l hl => p.lst rfl k r l hl⟩
  · obtain ⟨x, rfl, a, rfl, h⟩ := v.one; exact .inl ⟨_, _, rfl, .inl h, fun l hl => p.lst rfl k (repL_ints _) l hl⟩
  · obtain ⟨x, rfl, a, us, rfl, h, r⟩ := v.one; exact .inr ⟨_, _, rfl, h, fun l hl => p.lst rfl k (repP_keys r) l hl⟩
  · exact p.elim
theorem pr_listx {e : Expr} {ms : EM} {p pos : Pos} (hm : mg "list" = none) (ha : PAb P wd K mg base k N sc W [e] ms) (hg : sc.s.names.lookup ("list" : Str) = some .globalImplicit := by rfl) (he : ∀ env, starEach [e] env = (false, eval e env) :: starEach [] env := by intro _; rfl) :
    PR P wd K mg base k N sc W (.Call (.Name "list" p) [e] [] pos) (eB bListX ms) :=
  pr_Ty (T := "list") (fun X g => CallR.or (by have := call_list_of (X := X); rw [g.kk] at this; exact this) (call_listD g.calm)) cd_listX hm (by decide +kernel) ha hg (by decide) (by decide) he (fun _ => rfl)
def bDictX : List D → Store → ER
  | [.lst xs], st => match pairsD xs with
    | some ps => .ok (.dct (mergeD [] ps)) st
    | none => .no
  | [.dct kvs], st => .ok (.dct kvs) st
  | _, _ => .no
theorem cn_dictX : CallN K (fun xs H Q => (∃ (a : Addr) (ps : List Addr) (kvs : List (Key × V)), xs = [.ref a] ∧ SqL K H a (ps.map V.ref) ∧ Paired (fun p kv => SqT K H p [kV kv.1, kv.2]) ps kvs ∧
    ∀ p, H p = none → Q (.ref p) (upd H p (.dK (mergeK [] kvs)))) ∨ ∃ (a : Addr) (kvs : List (Key × V)), xs = [.ref a] ∧ Rd H a (.dK kvs) ∧ ∀ p, H p = none → Q (.ref p) (upd H p (.dK kvs))) bDictX := fun w vs ds Q E k v p => by
  unfold bDictX at p
  split at p
  · rename_i xs
    obtain ⟨x, rfl, a, us, rfl, m, r⟩ := v.one
    cases h : pairsD xs with
    | none => rw [h] at p; exact p.elim
    | some ps =>
      rw [h] at p
      obtain ⟨as, kvs, rfl, h1, h2⟩ := pairs_rep k r h
      exact .inl ⟨a, as, kvs, rfl, SqL.of m, h1, fun l hl => PostN.al p k hl ⟨_, rfl, repP_merge h2 .nil⟩⟩
  · obtain ⟨x, rfl, a, us, rfl, m, r⟩ := v.one
    exact .inr ⟨a, us, rfl, m, fun l hl => PostN.al p k hl ⟨_, rfl, r⟩⟩
  · exact p.elim
theorem pn_dictx {e : Expr} {ms : EM} {p pos : Pos} (hm : mg "dict" = none) (ha : PAb P wd K mg base k N sc W [e] ms) (hg : sc.s.names.lookup ("dict" : Str) = some .globalImplicit := by rfl) (he : ∀ env, starEach [e] env = (false, eval e env) :: starEach [] env := by intro _; rfl) :
    PN P wd K mg base k N sc W (.Call (.Name "dict" p) [e] [] pos) (eB bDictX ms) :=
  pn_Ty (T := "dict") (fun X g => CallR.or (by have := call_dictP (X := X) g.calm; rw [g.kk] at this; exact this) call_dictD) cn_dictX hm (by decide +kernel) ha hg (by decide) (by decide) he (fun _ => rfl)
theorem pr_dictx {e : Expr} {ms : EM} {p pos : Pos} (hm : mg "dict" = none) (ha : PAb P wd K mg base k N sc W [e] ms) (hg : sc.s.names.lookup ("dict" : Str) = some .globalImplicit := by rfl) (he : ∀ env, starEach [e] env = (false, eval e env) :: starEach [] env := by intro _; rfl) :
    PR P wd K mg base k N sc W (.Call (.Name "dict" p) [e] [] pos) (eB bDictX ms) := (pn_dictx hm ha hg he).fz (eB_new fun ds st d s h => by
  unfold bDictX at h
  split at h
  · split at h
    · cases h; trivial
    · cases h
  · cases h; trivial
  · cases h)
/-! ### texts, reversed lists, ranges downwards -/
def oStarts : D → D → Store → ER
  | .str a, .str b, st => .ok (.bl (Txt.startswith a b)) st
  | _, _, _ => .no
def eRev (mo : EM) : EM := fun Γ st => (mo Γ st).bind fun d s => match deref s d with
  | .lst xs => .ok (.lst xs.reverse) s
  | _ => .no
def eRngD (ms : EM) : EM := fun Γ st => (ms Γ st).bind fun d s => match d with
  | .tup [.int i, .int j, .int (-1)] => if -4611686018427387904 ≤ i ∧ i < 4611686018427387904 ∧ -4611686018427387904 ≤ j ∧ j < 4611686018427387904 then .ok (.tup (rng i (-1) (i - j).toNat)) s else .no
  | _ => .no
theorem pi_rngD {tg a b c : Expr} {ms : EM} {p pos : Pos} (hm : mg "range" = none) (ha : PAr P wd K mg base k N sc W [a, b, c] ms) (hg : sc.s.names.lookup ("range" : Str) = some .globalImplicit := by rfl)
    (hs : ∀ env, starEach [a, b, c] env = (false, eval a env) :: starEach [b, c] env := by intro _; rfl) (hpl : ∀ env, (backTo pos (starEach [b, c] env)).any (·.1) = false := by intro _; rfl) :
    PIt P wd K mg base k N sc W tg (.Call (.Name "range" p) [a, b, c] [] pos) (eRngD ms) := by
  obtain ⟨t, pt, r⟩ := ha
  refine ⟨_, fun X g => pi_range3 (by unfold Gl PySem.Env.kindOf; rw [g.scp]; exact hg) (by rw [g.mg]; exact hm) (pt X g) (hs X.env) (hpl X.env), ?_⟩
  intro H0 w Γ σ ok f R q
  refine RTA.use (P := fun w r => PostI K w r R (at_ W σ)) r ok f (fun _ _ e k p => p.shift e k) (fun _ _ p => p) (fun p => p) (fun d st hb => by cases d <;> first | rfl | exact absurd rfl (hb _)) q fun ds vs w1 e1 k1 f1 r1 p1 => ?_
  split at p1
  · rename_i i j heq
    cases heq
    obtain ⟨v, us, rfl, rv, ru⟩ := r1.inv
    obtain ⟨v2, us2, rfl, rv2, ru2⟩ := ru.inv
    obtain ⟨v3, us3, rfl, rv3, ru3⟩ := ru2.inv
    rw [ru3.inv0]
    cases rv; cases rv2; cases rv3
    by_cases h : -4611686018427387904 ≤ i ∧ i < 4611686018427387904 ∧ -4611686018427387904 ≤ j ∧ j < 4611686018427387904
    · rw [if_pos h] at p1
      exact ⟨i, j, -1, (i - j).toNat, rfl, RgC.neg h.1 h.2.1 h.2.2.1 h.2.2.2, p1 _ w1 (Evo.refl w1) k1 rfl itr_rngC⟩
    · rw [if_neg h] at p1; exact p1.elim
  · exact p1.elim
end
end DL
/-! sorted of texts, however many: a list, a dict's keys, set(list) -/
namespace DL
open PySem L2 PySem.Spec PyProof.Rows
theorem leT_leS {a b : Str} (h : leT a b = true) : leS a b = true := by rw [leS_iff, List.not_lt]; exact of_decide_eq_true h
theorem srt_of {ks xs : List Str} (p : ks.Perm xs) (h : ks.Pairwise (fun x y => leT x y = true)) : ks = srtS xs :=
  List.Perm.eq_of_pairwise (fun a b _ _ x y => leS_anti a b x y) (h.imp fun z => leT_leS z) (srtS_sorted xs) (p.trans (srtS_perm xs).symm)
theorem leT_sort (ks : List Str) : (ks.mergeSort (fun a b => decide (a.cps.toList ≤ b.cps.toList))).Perm ks ∧ (ks.mergeSort (fun a b => decide (a.cps.toList ≤ b.cps.toList))).Pairwise (fun x y => leT x y = true) := by
  refine ⟨List.mergeSort_perm _ _, ?_⟩
  refine List.pairwise_mergeSort (le := fun a b => decide (a.cps.toList ≤ b.cps.toList)) (fun a b c h1 h2 => ?_) (fun a b => ?_) ks
  · exact decide_eq_true (Std.le_trans (of_decide_eq_true h1) (of_decide_eq_true h2))
  · rw [Bool.or_eq_true, decide_eq_true_eq, decide_eq_true_eq]; exact Std.le_total
/-- all once, sorted -/
def sset (xs : List Str) : List Str := srtS (ddp xs)
theorem sset_of {ks xs : List Str} (nd : ks.Nodup) (m : ∀ k, k ∈ ks ↔ k ∈ xs) (h : ks.Pairwise (fun x y => leT x y = true)) : ks = sset xs :=
  srt_of ((List.perm_ext_iff_of_nodup nd (ddp_nd xs)).mpr fun k => (m k).trans (ddp_mem xs k).symm) h
theorem each_at : ∀ {vs : List Value} {ks : List Str}, vs.length = ks.length → (∀ (j : Nat) (v : Value) (k : Str), vs[j]? = some v → ks[j]? = some k → ∃ t, v = Value.str k t) → PySem.W.EachIs (fun v k => ∃ t, v = Value.str k t) vs ks
  | [], [], _, _ => .nil
  | v :: vs, k :: ks, hl, h => .cons (h 0 v k rfl rfl) (each_at (by simpa using hl) fun j u l a b => h (j + 1) u l (by simpa using a) (by simpa using b))
theorem vals_each : ∀ {xs : List Str} {us : List Value}, Vals (xs.map V.str) us → PySem.W.EachIs (fun v k => ∃ t, v = Value.str k t) us xs
  | [], _, r => by cases r; exact .nil
  | x :: xs, _, r => by
    cases r with
    | cons r1 r2 => exact .cons r1 (vals_each r2)
section
variable {X : Cx}
/-- a new list that is sorted at once, given out -/
theorem sort_new {pins : List (Addr × Obj)} {σ : L2.St} {H : Hp} {s : Shared} {h' : Heap} {tk : Nat} {Q : VK} {vs : List Value} {ks : List Str} {A : Around} {E : Value → Shared → Prop} (I : Inv X pins σ H { s with heap := h', toks := tk }) (hks : PySem.W.EachIs (fun v k => ∃ t, v = Value.str k t) vs ks) (hl : ks.length ≤ sizeLine) (hu : A.units + 10 < cLine)
    (q : ∀ p, H p = none → Q (.ref p) (upd H p (.lst ((srtS ks).map V.str)))) :
    wpAny (model X.prog X.w) A (call (.builtin "list.sort") [.ref h'.objs.size]) (fun v s2 => v = .none ∧ EP X pins σ Q (.ref h'.objs.size) s2) E { s with heap := h'.push (seqObj "list" vs.toArray 0), toks := tk } := by
  have hoL : (h'.push (seqObj "list" vs.toArray 0)).get? h'.objs.size = some (seqObj "list" vs.toArray 0) := Heap.get?_push_size _ rfl
  refine PySem.W.list_sort_data (s := { s with heap := h'.push (seqObj "list" vs.toArray 0), toks := tk }) (R := fun v k => ∃ t, v = Value.str k t) (enc := fun k : Str => PyData.str k) (bs := ks) hoL hks (hks.mono fun v k ⟨t, e⟩ => ⟨[], by rw [e]; exact .str _ _, by simp⟩)
    (PySem.W.AllAlike.of fun _ _ => rfl) (PySem.W.Sortable.others fun _ => ⟨by simp, by simp⟩) hl (fun b _ => by show A.units + 1 + 0 < cLine; omega) fun out hl2 he => ?_
  rw [PySem.W.dataLe_str] at he
  obtain ⟨c, hcc⟩ := sortedHeap_at (vs := vs) (out := out.toArray) hoL
  obtain ⟨p1, p2⟩ := leT_sort ks
  have e := srt_of p1 p2
  rw [e] at he
  have hlen : ((srtS ks).map V.str).length ≤ sizeLine := by rw [List.length_map, (srtS_perm ks).length_eq]; exact hl
  refine ⟨rfl, .ref h'.objs.size, upd H h'.objs.size (.lst ((srtS ks).map V.str)), I.laid (t' := tk) (fun b u e => ?_) (Nat.le_refl _) (show ObjOk X.prog X.w _ _ _ (.lst ((srtS ks).map V.str)) from ⟨hlen, out, c, each_vals he, hcc⟩), rfl, q _ (I.hok.fresh (Nat.le_refl _))⟩
  have hb : b < h'.objs.size := Heap.lt_size e
  show (sortedHeap (h'.push (seqObj "list" vs.toArray 0)) h'.objs.size vs out.toArray).get? b = some u
  rw [sortedHeap_old (Nat.ne_of_lt hb) (by rw [size_push']; exact Nat.lt_succ_of_lt hb)]
  exact Heap.get?_push_of_some _ e
/-- sorted(d) -/
theorem cr_sortedD (hcalm : X.calm = true) (hu : X.A.units + 20 < cLine) : CallR X (.builtin "sorted") (fun xs H Q => ∃ (a : Addr) (kvs : List (Key × V)) (ks : List Str), xs = [.ref a] ∧ Rd H a (.dK kvs) ∧ kvs.map (·.1) = ks.map Sum.inr ∧
    ∀ p, H p = none → Q (.ref p) (upd H p (.lst ((srtS ks).map V.str)))) := by
  intro pins s σ H xs us Q I r q
  obtain ⟨a, kvs, ks, rfl, hd, hks, q⟩ := q
  obtain ⟨u, rfl, rx⟩ := vals1 r
  cases rx
  obtain ⟨z, lo, vs, rel, dd⟩ := dk_rd I.hok hd
  obtain ⟨ep, hat⟩ := dd.dictAt
  have hkeys : vs.map (·.1) = ks.map Sum.inr := rel.keys.symm.trans hks
  have hl : vs.length = ks.length := by simpa using congrArg List.length hkeys
  have h16 : vs.length ≤ sizeLine := by rw [← rel.length]; exact z
  refine Calls.call_function_entry kind_sorted plain_sorted entry_sorted (args_sorted1 _) ?_
  unfold Builtin.«sorted»
  refine wpAny_bind (m := checkCount "sorted" 1 1 _) (wpAny_pure ?_)
  refine wpAny_bind (PySem.W.kdu_collect (A := X.A.in1) (PySem.W.kdl_dict (knd := mixKind X.prog X.w) (kvs := vs) (ep := ep) lo) (I.ok.hd hcalm) hat h16 fun h' tk acc hk hacc => ?_)
  have hal : acc.toList.length = ks.length := by rw [Array.length_toList, hacc.1, hl]
  have hS : PySem.W.EachIs (fun v k => ∃ t, v = Value.str k t) acc.toList ks := by
    refine each_at hal fun j v k e e4 => ?_
    obtain ⟨k', x, e1, e2⟩ := hacc.2 j v (by rw [← Array.getElem?_toList]; exact e)
    have e3 : (vs.map (·.1))[j]? = some k' := by rw [List.getElem?_map, e1]; rfl
    rw [hkeys, List.getElem?_map, e4] at e3
    cases e3
    exact Value.isStrOf_shape (x := k) (v := v) e2
  have I1 : Inv X pins σ H { s with heap := h', toks := tk } := I.kept hk
  refine wpAny_bind (wpAny_newList ?_ (by rw [hal, ← hl]; exact h16))
  refine wpAny_bind (wpAny_holding (wpAny_mono (sort_new (A := X.A.in1) I1 hS (by rw [← hl]; exact h16) (by show X.A.units + 1 + 10 < cLine; omega) q) (fun v s2 h2 => ?_) fun _ _ z => z))
  obtain ⟨rfl, h2⟩ := h2
  exact wpAny_pure ⟨_, rfl, h2⟩
/-- sorted(xs) -/
theorem cr_sortedL (hu : X.A.units + 20 < cLine) : CallR X (.builtin "sorted") (fun vs H Q => ∃ (a : Addr) (xs : List Str), vs = [V.ref a] ∧ SqL X.K H a (xs.map V.str) ∧ ∀ (p : Addr), H p = none → Q (.ref p) (upd H p (.lst ((srtS xs).map V.str)))) := by
  intro pins s σ H vs us Q I r h
  obtain ⟨a, xs, rfl, hq, q⟩ := h
  obtain ⟨u, rfl, rx⟩ := vals1 r
  cases rx
  obtain ⟨its, ri, pl, hz⟩ := I.list hq
  have hks := vals_each ri
  have hlen : its.length = xs.length := hks.length
  have hzz : xs.length ≤ sizeLine := by simpa using hz
  refine PySem.W.sorted_data (vs := its) (R := fun v k => ∃ t, v = Value.str k t) (enc := fun k : Str => PyData.str k) (bs := xs) pl.isList hks (hks.mono fun v k ⟨t, e⟩ => ⟨[], by rw [e]; exact .str _ _⟩)
    (PySem.W.AllAlike.of fun _ _ => rfl) (PySem.W.Sortable.others fun _ => ⟨by simp, by simp⟩) hzz (fun b _ => by show X.A.units + 2 + 0 < cLine; omega) fun out hl he => ?_
  rw [PySem.W.dataLe_str] at he
  obtain ⟨p1, p2⟩ := leT_sort xs
  rw [srt_of p1 p2] at he
  obtain ⟨c, hc⟩ := sortedAll_at s.heap its out.toArray
  have hlen2 : ((srtS xs).map V.str).length ≤ sizeLine := by rw [List.length_map, (srtS_perm xs).length_eq]; exact hzz
  exact ⟨.ref (s.heap.objs.size + 1), upd H (s.heap.objs.size + 1) (.lst ((srtS xs).map V.str)), I.laid (t' := s.toks) (fun b u e => sortedAll_old e) (Nat.le_succ _) (show ObjOk X.prog X.w _ _ _ (.lst ((srtS xs).map V.str)) from ⟨hlen2, out, c, each_vals he, hc⟩), rfl, q _ (I.hok.fresh (Nat.le_succ _))⟩
/-- sorted(set(e)) -/
def tSortSet (K : PySem.W.Frag) (ta : TE) : TE := fun σ H Q => ta σ H fun x H1 => ∃ l, ∃ xs : List Str, x = .ref l ∧ SqL K H1 l (xs.map V.str) ∧ (ddp xs).length + 1 < 4096 ∧ ∀ p, H1 p = none → Q (.ref p) (upd H1 p (.lst ((sset xs).map V.str)))
theorem vals_at : ∀ {xs : List Str} {us : List Value}, Vals (xs.map V.str) us → ∀ (i : Nat) (v : Value), us[i]? = some v → ∃ k, xs[i]? = some k ∧ Value.isStrOf k v = true ∧ v.scannable = true
  | [], _, r, i, v, e => by cases r; simp at e
  | x :: xs, _, r, i, v, e => by
    cases r with
    | cons r1 r2 =>
      cases i with
      | zero => simp at e; subst e; obtain ⟨t, rfl⟩ := r1; exact ⟨x, rfl, by simp [Value.isStrOf], rfl⟩
      | succ i => exact vals_at r2 i v (by simpa using e)
theorem pe_sortSet {a : Expr} {ta : TE} {p p2 q pos : Pos} (hc : X.calm = true) (hu : X.A.units + 20 < cLine) (hg : Gl X "sorted") (hm : X.mg "sorted" = none) (hg2 : Gl X "set") (hm2 : X.mg "set" = none) (ha : PE X a ta)
    (na : starEach [a] X.env = (false, eval a X.env) :: starEach [] X.env := by rfl) : PE X (.Call (.Name "sorted" p) [.Call (.Name "set" p2) [a] [] q] [] pos) (tSortSet X.K ta) := by
  refine ⟨fun pins s σ H Q I h => ?_⟩
  refine Call_ (ld_blt I hg hm (show bootBuiltins "sorted" = some (.builtin "sorted") by decide +kernel) ?_)
  refine PyProof.Rows.callWith_builtin1 (PyProof.Rows.args_cons ?_ rfl) rfl rfl
  refine Call_ (ld_blt I hg2 hm2 PyProof.Rows.boot_set ?_)
  refine PyProof.Rows.callWith_type1 (PyProof.Rows.args_cons (thn (ha.run pins s σ H _ I h) fun v s1 ⟨x, H1, I1, r1, q1⟩ => PyProof.Rows.args_nil ?_) na) na rfl
  obtain ⟨l, xs, rfl, hq, hz, q1⟩ := q1
  cases r1
  obtain ⟨its, r, pl, _⟩ := I1.list hq
  have e : its.length = xs.length := by rw [← r.length, List.length_map]
  refine call_set1 (knd := strKind X.prog X.w) (fun led hled B E' hB => init_set_ListG (knd := strKind X.prog X.w) (ks := xs) hled (hB.trans (I1.ok.hd hc)) pl.isList (by simp [e]) (fun i v hv => vals_at r i v (by simpa using hv)) (by unfold scanBound; omega)) fun h' tk hS hk' => ?_
  refine PyProof.Rows.args_nil ?_
  have I2 : Inv X pins σ H1 { s1 with heap := h', toks := tk } := I1.kept fun b o e => hk' b o (Heap.lt_size e) e
  refine sorted_setT hS (I1.ok.hd hc) (by omega) fun s' p out c ks k g o hp hg hv hpw nd hm hln => ?_
  have hn : H1 p = none := I2.hok.fresh hp
  have hlen : (ks.map V.str).length ≤ sizeLine := by rw [List.length_map, sizeLine_eq]; omega
  have es : ks = sset xs := sset_of nd (fun k => (hm k).trans (by simp)) hpw
  have J : Inv X pins σ (upd H1 p (.lst (ks.map V.str))) s' := by
    have J0 := I2.call (ch := []) (Un.laid k hp hn) (I2.hok.laid k hp (show ObjOk X.prog X.w _ _ _ (.lst (ks.map V.str)) from ⟨hlen, out, c, hv, hg⟩)) (g' := s'.gens) (d' := s'.drawn) (t' := s'.toks) (by rw [g]; exact I2.bare) (fun _ z => nomatch z)
    have e2 : s' = { s1 with heap := s'.heap, gens := s'.gens, drawn := s'.drawn, toks := s'.toks } := by
      have o' : s'.os = s1.os := o
      cases s'
      dsimp only at o' ⊢
      rw [o']
    rw [e2]
    exact J0
  refine ⟨.ref p, _, J, rfl, ?_⟩
  rw [es]
  exact q1 p hn
end
end DL
namespace DL
open PySem L2
/-! ### a class's defs, by their names -/
/-- the def that an object of the class finds under the name -/
def cM (K : PySem.W.Frag) (C : String) (m : Str) : Addr := match PySem.W.findIn K (.ref (cA K C)) m with
  | some (some (.ref f)) => f
  | _ => 0
/-- the def behind a property -/
def cG (K : PySem.W.Frag) (C : String) (m : Str) : Addr := match PySem.W.recIn K (cM K C m) "property" with
  | some (.ref g :: _) => g
  | _ => 0
structure FnA (P : Program) (wd : World) (K : PySem.W.Frag) (mg : Str → Option Value) (base : Heap) (k : Nat) (f : Addr) (F : DF) : Prop where
  ex : ∃ (fd : FuncData) (ps : List Str), FnG P wd K mg base k f fd ps (spD K F) ∧ Binds K fd ps []
def HM (K : PySem.W.Frag) (x qual : Str) (st : Stmt) (f : Addr) : Prop := ∃ fd : FuncData, Fun K x qual st f fd
section
variable {P : Program} {wd : World} {K : PySem.W.Frag} {mg : Str → Option Value} {base : Heap} {k : Nat} {N : List Str}
theorem fn_okM {x qual : Str} {st : Stmt} {ps : List Str} {m : SM} {f : Addr} (h : HM K x qual st f) (S : FnScope N ps (defScope st)) (hb : ∀ (kV doc pm : Value) (an : Option Addr) (cdv ct : Value) (us : List Value), us.length = ps.length → bindArgs (PySem.W.fnOf x qual (defArgs st) (defBody st) (defScope st) .none kV doc pm an cdv ct) ⟨us, []⟩ = pure (ps.zip us))
    (b : ∀ W : WX, PSl P wd K mg base k N ⟨defScope st, fun _ => true, none⟩ W (defBody st) m) : FnA P wd K mg base (k + 1) f (run N ps m) := by
  obtain ⟨fd, F⟩ := h
  exact ⟨fd, ps, def_ok F S b, F.binds hb⟩
theorem methOK {C : String} {m : Str} {f : Addr} {F : DF} {i : Nat} (c : Cls K (cA K C)) (h : Meth K (cA K C) m f) (a : FnA P wd K mg base i f F) (hi : i ≤ k := by omega) : MethOK P wd K mg base k C m F :=
  let ⟨fd, ps, a, b⟩ := a.ex; ⟨c, f, fd, ps, a.mono hi, h, b⟩
theorem propOK {C : String} {m : Str} {f p : Addr} {F : DF} {i : Nat} (c : Cls K (cA K C)) (h : PropOf K (cA K C) m p f) (a : FnA P wd K mg base i f F) (hi : i ≤ k := by omega) : PropOK P wd K mg base k C m F :=
  let ⟨fd, ps, a, b⟩ := a.ex; ⟨c, f, p, fd, ps, a.mono hi, h, b⟩
theorem makeOK {C : String} {f : Addr} {F : DF} {i : Nat} (at_ : mg (Str.ofString C) = some (.ref (cA K C))) (h : Mk K (cA K C) f) (a : FnA P wd K mg base i f F) (hi : i ≤ k := by omega) : MakeOK P wd K mg base k C F :=
  let ⟨fd, ps, a, b⟩ := a.ex; ⟨at_, f, fd, ps, a.mono hi, h, b⟩
theorem all_nil {R : String × DF → Prop} : ∀ p ∈ ([] : List (String × DF)), R p := fun _ h => by simp at h
theorem all_cons {R : String × DF → Prop} {C : String} {F : DF} {tab : List (String × DF)} (h : R (C, F)) (t : ∀ p ∈ tab, R p) : ∀ p ∈ (C, F) :: tab, R p := fun p hp => by
  rcases List.mem_cons.mp hp with rfl | hp
  · exact h
  · exact t p hp
theorem fld_nil {R : String → Prop} : ∀ C ∈ ([] : List String), R C := fun _ h => by simp at h
theorem fld_cons {R : String → Prop} {C : String} {cs : List String} (h : R C) (t : ∀ C ∈ cs, R C) : ∀ D ∈ C :: cs, R D := fun p hp => by
  rcases List.mem_cons.mp hp with rfl | hp
  · exact h
  · exact t p hp
variable {sc : SC} {W : WX}
/-- a class as a value -/
theorem pr_cls {C : String} {pos : Pos} (hm : mg (Str.ofString C) = some (.ref (cA K C))) (hg : sc.s.names.lookup (Str.ofString C) = some .globalImplicit := by rfl) (hd : (Str.ofString C == ("__debug__" : Str)) = false := by decide) : PR P wd K mg base k N sc W (.Name (Str.ofString C) pos) (eC (.cls C)) :=
  pr_glob (v := .ref (cA K C)) ⟨_, hm, rfl⟩ (fun _ => .cls) hg hd
theorem cM_of {C : String} {m : Str} {c f : Addr} (hc : cA K C = c) (h : PySem.W.findIn K (.ref c) m = some (some (.ref f))) : cM K C m = f := by unfold cM; rw [hc, h]
theorem cG_of {C : String} {m : Str} {c p g : Addr} {rest : List Value} (hc : cA K C = c) (h : PySem.W.findIn K (.ref c) m = some (some (.ref p))) (hr : PySem.W.recIn K p "property" = some (.ref g :: rest)) : cG K C m = g := by unfold cG; rw [cM_of hc h, hr]
end
end DL
namespace DL
open PySem L2
section
variable {Γ : DEnv} {st : Store} {ma mo me ms : EM} {d : D}
@[simp] theorem bListX_l {xs : List D} : bListX [.lst xs] st = .ok (.lst xs) st := rfl
@[simp] theorem bListX_t {xs : List D} : bListX [.tup xs] st = .ok (.lst xs) st := rfl
@[simp] theorem bListX_d {xs : List (Key × D)} : bListX [.dct xs] st = .ok (.lst (xs.map fun p => kD p.1)) st := rfl
@[simp] theorem bDictX_l {xs : List D} : bDictX [.lst xs] st = (match pairsD xs with | some ps => .ok (.dct (mergeD [] ps)) st | none => .no) := rfl
@[simp] theorem bDictX_d {xs : List (Key × D)} : bDictX [.dct xs] st = .ok (.dct xs) st := rfl
@[simp] theorem oStarts_ap {a b : Str} : oStarts (.str a) (.str b) st = .ok (.bl (Txt.startswith a b)) st := rfl
@[simp] theorem eRev_ap : eRev mo Γ st = (mo Γ st).bind fun d s => match deref s d with | .lst xs => .ok (.lst xs.reverse) s | _ => .no := rfl
@[simp] theorem eChain_ap {f g : D → D → Store → ER} {mb mc : EM} : eChain f g ma mb mc Γ st = (ma Γ st).bind fun x s1 => (mb Γ s1).bind fun y s2 => (f (deref s2 x) (deref s2 y) s2).bind fun z s3 => match z with
  | .bl true => (mc Γ s3).bind fun u s4 => g (deref s4 y) (deref s4 u) s4
  | .bl false => .ok (.bl false) s3
  | _ => .no := rfl
@[simp] theorem eFld_ap {cs : List String} {f : Str} : eFld cs f mo Γ st = (mo Γ st).bind fun o s => match deref s o with
  | .ins C fs => if C ∈ cs then (match fs.lookup f with | some d => .ok d s | none => .no) else .no
  | _ => .no := rfl
@[simp] theorem sFldR_ap {cs : List String} {f : Str} : sFldR cs f mo me Γ st = (me Γ st).bs Γ fun x s1 => (mo Γ s1).bs Γ fun o s2 => match o with
  | .ref l => match s2[l]? with
    | some (.ins C fs) => if C ∈ cs ∧ fs.length < 1000 then .nx Γ (s2.set l (.ins C (putFD f x fs))) else .no
    | _ => .no
  | _ => .no := rfl
@[simp] theorem eMeth_ap {p : String × DF} {tab : List (String × DF)} {m : Str} : eMeth (p :: tab) m mo ms Γ st = (mo Γ st).bind fun o s1 => match deref s1 o with
  | .ins C fs => if (fs.lookup m).isNone = true then (match (p :: tab).lookup C with
      | some F => (ms Γ s1).bind fun d s2 => match d with | .tup ds => F (o :: ds) s2 | _ => .no
      | none => .no) else .no
  | _ => .no := by
  unfold eMeth
  exact if_neg (by simp)
@[simp] theorem eProp_ap {p : String × DF} {tab : List (String × DF)} : eProp (p :: tab) mo Γ st = (mo Γ st).bind fun o s1 => match deref s1 o with
  | .ins C _ => (match (p :: tab).lookup C with
      | some F => (match F [o] s1 with | .ok d s2 => .ok d s2 | _ => .no)
      | none => .no)
  | _ => .no := by
  unfold eProp
  exact if_neg (by simp)
@[simp] theorem eMake_ap {C : String} {F : DF} : eMake C F ms Γ st = (ms Γ st).bind fun d s => match d with
  | .tup ds => (match F (.ref s.length :: ds) (s ++ [.ins C []]) with
    | .ok .non s2 => (match s2[s.length]? with | some (.ins C' fs) => .ok (.ins C' fs) (s2.set s.length .tomb) | _ => .no)
    | .err x s2 => .err x s2
    | _ => .no)
  | _ => .no := rfl
@[simp] theorem eMakeR_ap {C : String} {F : DF} : eMakeR C F ms Γ st = (ms Γ st).bind fun d s => match d with
  | .tup ds => (match F (.ref s.length :: ds) (s ++ [.ins C []]) with
    | .ok .non s2 => .ok (.ref s.length) s2
    | .err x s2 => .err x s2
    | _ => .no)
  | _ => .no := rfl
end
theorem eRngD_i {ma : EM} {Γ : DEnv} {st s : Store} {i j : Int} (h : ma Γ st = .ok (.tup [.int i, .int j, .int (-1)]) s) (hi : -4294967296 < i ∧ i < 4294967296) (hj : -4294967296 < j ∧ j < 4294967296) : eRngD ma Γ st = .ok (.tup (rng i (-1) (i - j).toNat)) s := by
  unfold eRngD
  rw [h, ok_bind]
  exact if_pos (by omega)
theorem eDc_of {vs : List Nat} {mi mt mk me : EM} {g : GM} {Γ : DEnv} {st s : Store} {ds : List D} (h : mi Γ st = .ok (.tup ds) s) : eDc vs mi g mt mk me Γ st = dcL g mt mk me ds (wipeE Γ vs) s [] := by
  unfold eDc
  rw [h]; rfl
theorem atI_of {α : Type} {l : List α} {k : Int} (h0 : 0 ≤ k) (h1 : k < l.length) : ∃ x, L2.atI l k = some x ∧ x ∈ l := by
  have h3 : k.toNat < l.length := by omega
  refine ⟨l[k.toNat], ?_, List.getElem_mem h3⟩
  unfold L2.atI ixN
  simp [h0, h1]
theorem pyL_strs : ∀ ns : List Str, D.pyL (ns.map .str) = some (ns.map PyData.str)
  | [] => rfl
  | n :: ns => by simp [D.pyL, D.py, pyL_strs ns]
theorem strOk_of {x : Str} (h : ∀ c ∈ x.cps.toList, c < 1114112) : PyData.strOk x = true := by
  unfold PyData.strOk
  rw [← Array.all_toList, List.all_eq_true]
  exact fun c hc => decide_eq_true (h c hc)
theorem shaped_strs (ns : List Str) (hs : ∀ n ∈ ns, PyData.strOk n = true) : SeqAt.shaped (.list (ns.map PyData.str)) = true := by
  have h1 : ∀ ns : List Str, (∀ n ∈ ns, PyData.strOk n = true) → PyData.canLayAll0 (ns.map PyData.str) = true := fun ns => by
    induction ns with
    | nil => intro _; rfl
    | cons n ns ih => intro h; simp [PyData.canLayAll0, PyData.canLay0, ih fun y hy => h y (List.mem_cons_of_mem _ hy), h n List.mem_cons_self]
  have h1 := h1 ns hs
  have h2 : ∀ ns : List Str, PyData.depthAll (ns.map PyData.str) = 0 := fun ns => by induction ns with | nil => rfl | cons n ns ih => simp [PyData.depthAll, PyData.depth, ih]
  simp [SeqAt.shaped, PyData.canLay0, h1, PyData.depth, h2]
theorem dEq_strs_nil (ns : List Str) (hs : ∀ n ∈ ns, PyData.strOk n = true) : dEq (.lst (ns.map .str)) (.lst []) = some ns.isEmpty := by
  have h := shaped_strs ns hs
  have h0 : SeqAt.shaped (.list []) = true := by decide
  cases ns with
  | nil => simp [dEq, sclEq, pyEq, D.py, D.pyL, h0, PyData.eqv, PyData.eqvAll]
  | cons n ns =>
    rw [List.map_cons] at h
    simp [dEq, sclEq, pyEq, D.py, D.pyL, pyL_strs, h, h0, PyData.eqv, PyData.eqvAll]
theorem flDs_strs : ∀ ys : List Str, flDs (ys.map .str) = some (ys.map V.str)
  | [] => rfl
  | y :: ys => by simp [flDs, flD, flDs_strs ys]
theorem inD_strs (x : Str) (ys : List Str) : inD (.str x) (.lst (ys.map .str)) = some (decide (x ∈ ys)) := by
  unfold inD
  simp only [flD, flDs_strs]
  congr 1
  unfold inV
  rw [List.any_map]
  rw [Bool.eq_iff_iff]
  simp [eqV]
theorem cut_hi (x : Str) (z : Nat) : (cutS x none (some (z : Int))).length ≤ z := by
  rw [len_toList]
  unfold cutS
  rw [HT.sIx_nat]
  simp only [HT.sIx_none, List.length_take, List.length_drop]
  omega
theorem cut_take (x : Str) (z : Nat) : (cutS x none (some (z : Int))).cps.toList = x.cps.toList.take z := by
  unfold cutS
  rw [HT.sIx_nat, HT.sIx_none]
  have : x.length = x.cps.toList.length := len_toList x
  simp [this]
theorem str_ext {x y : Str} (h : x.cps.toList = y.cps.toList) : x = y := TL.ext_tl h
/-! ### dicts of texts to ints -/
def F (kvs : List (Str × Int)) : List (Key × D) := kvs.map fun p => (.inr p.1, .int p.2)
/-! ### loops, more -/
theorem forL_first {g : GM} {mb : SM} {st : Store} {I : DEnv → Prop} : ∀ {ds : List D} (p : Nat → Bool) (f : Nat → D), (∀ (j : Nat) (d : D), ds[j]? = some d → ∀ Γ, I Γ → ∃ Γ1, g d Γ = some Γ1 ∧ (p j = true → mb Γ1 st = .ret (f j) st) ∧ (p j = false → ∃ Γ2, mb Γ1 st = .nx Γ2 st ∧ I Γ2)) →
    ∀ Γ, I Γ → (∃ j, j < ds.length ∧ p j = true ∧ (∀ i < j, p i = false) ∧ forL g mb ds Γ st = .ret (f j) st) ∨ ((∀ j < ds.length, p j = false) ∧ ∃ Γ', forL g mb ds Γ st = .nx Γ' st ∧ I Γ')
  | [], p, f, _, Γ, i => .inr ⟨fun j h => by simp at h, Γ, rfl, i⟩
  | d :: ds, p, f, h, Γ, i => by
    obtain ⟨Γ1, h1, h2, h3⟩ := h 0 d rfl Γ i
    cases hp : p 0 with
    | true =>
      refine .inl ⟨0, by simp, hp, fun i h => by omega, ?_⟩
      unfold forL
      rw [h1]
      show (match mb Γ1 st with | .nx Γ2 st2 => forL g mb ds Γ2 st2 | .ct Γ2 st2 => forL g mb ds Γ2 st2 | .bk Γ2 st2 => .nx Γ2 st2 | r => r) = _
      rw [h2 hp]
    | false =>
      obtain ⟨Γ2, e2, i2⟩ := h3 hp
      have e : forL g mb (d :: ds) Γ st = forL g mb ds Γ2 st := by
        rw [forL, h1]
        show (match mb Γ1 st with | .nx Γ2 st2 => forL g mb ds Γ2 st2 | .ct Γ2 st2 => forL g mb ds Γ2 st2 | .bk Γ2 st2 => .nx Γ2 st2 | r => r) = _
        rw [e2]
      rw [e]
      rcases forL_first (ds := ds) (fun j => p (j + 1)) (fun j => f (j + 1)) (fun j d hd => h (j + 1) d hd) Γ2 i2 with ⟨j, hj, hp1, hm, he⟩ | ⟨hn, hx⟩
      · refine .inl ⟨j + 1, by simp; omega, hp1, fun i hi => ?_, he⟩
        cases i with
        | zero => exact hp
        | succ i => exact hm i (by omega)
      · refine .inr ⟨fun j hj => ?_, hx⟩
        cases j with
        | zero => exact hp
        | succ j => exact hn j (by simp at hj; omega)
/-! ### the longest of the texts that begin a text -/
def pfx (a : Str) (n : Nat) : Str := cutS a none (some (n : Int))
theorem pfx_list (a : Str) (n : Nat) : (pfx a n).cps.toList = a.cps.toList.take n := cut_take a n
theorem starts_iff {a b : Str} : Txt.startswith a b = true ↔ b = pfx a b.length ∧ b.length ≤ a.length := by
  unfold Txt.startswith
  rw [Bool.and_eq_true, StrLaws.subAt_eq]
  simp only [Nat.zero_add, decide_eq_true_eq, List.drop_zero, beq_iff_eq]
  constructor
  · rintro ⟨h1, h2⟩
    exact ⟨str_ext (by rw [pfx_list]; exact h2.symm), h1⟩
  · rintro ⟨h1, h2⟩
    exact ⟨h2, by have := congrArg (fun x : Str => x.cps.toList) h1; simp only [pfx_list] at this; exact this.symm⟩
theorem pfx_len {a : Str} {n : Nat} (h : n ≤ a.length) : (pfx a n).length = n := by
  rw [len_toList, pfx_list, List.length_take]
  rw [len_toList] at h
  omega
theorem starts_pfx {a : Str} {n : Nat} (h : n ≤ a.length) : Txt.startswith a (pfx a n) = true := by rw [starts_iff, pfx_len h]; exact ⟨rfl, h⟩
def Best (spot : Str) (ks : List Str) : Option Str → Prop
  | none => ∀ k ∈ ks, Txt.startswith spot k = false
  | some p => p ∈ ks ∧ Txt.startswith spot p = true ∧ ∀ k ∈ ks, Txt.startswith spot k = true → k.length ≤ p.length
theorem Best.uniq {spot : Str} {ks : List Str} {r q : Option Str} (h : Best spot ks r) (h' : Best spot ks q) : r = q := by
  cases r with
  | none =>
    cases q with
    | none => rfl
    | some p => have := h p h'.1; rw [h'.2.1] at this; cases this
  | some p =>
    cases q with
    | none => have := h' p h.1; rw [h.2.1] at this; cases this
    | some o =>
      have l1 := h.2.2 o h'.1 h'.2.1
      have l2 := h'.2.2 p h.1 h.2.1
      have e1 := (starts_iff.mp h.2.1).1
      have e2 := (starts_iff.mp h'.2.1).1
      have : p.length = o.length := by omega
      rw [e1, e2, this]
theorem Best.perm {spot : Str} {ks js : List Str} {r : Option Str} (h : Best spot ks r) (e : ∀ k, k ∈ js ↔ k ∈ ks) : Best spot js r := by
  cases r with
  | none => exact fun k hk => h k ((e k).mp hk)
  | some p => exact ⟨(e p).mpr h.1, h.2.1, fun k hk => h.2.2 k ((e k).mp hk)⟩
def oD : Option Str → D
  | none => .non
  | some p => .str p
def stepB (spot : Str) (o : Option Str) (k : Str) : Option Str := if Txt.startswith spot k = true ∧ (∀ p, o = some p → p.length < k.length) then some k else o
theorem best_fold (spot : Str) : ∀ (ks js : List Str) (o : Option Str), Best spot js o → Best spot (js ++ ks) (ks.foldl (stepB spot) o)
  | [], js, o, h => by simpa using h
  | k :: ks, js, o, h => by
    have h1 : Best spot (js ++ [k]) (stepB spot o k) := by
      unfold stepB
      by_cases q : Txt.startswith spot k = true ∧ (∀ p, o = some p → p.length < k.length)
      · rw [if_pos q]
        refine ⟨by simp, q.1, fun j hj hs => ?_⟩
        rcases List.mem_append.mp hj with hj | hj
        · cases o with
          | none => have := h j hj; rw [hs] at this; cases this
          | some p => have := h.2.2 j hj hs; have := q.2 p rfl; omega
        · simp at hj; subst hj; exact Nat.le_refl _
      · rw [if_neg q]
        cases o with
        | none =>
          intro j hj
          rcases List.mem_append.mp hj with hj | hj
          · exact h j hj
          · simp at hj; subst hj
            cases z : Txt.startswith spot j with
            | false => rfl
            | true => exact absurd ⟨z, fun p e => nomatch e⟩ q
        | some p =>
          refine ⟨by simp [h.1], h.2.1, fun j hj hs => ?_⟩
          rcases List.mem_append.mp hj with hj | hj
          · exact h.2.2 j hj hs
          · simp at hj; subst hj
            have : ¬ (p.length < j.length) := fun z => q ⟨hs, fun p' e => by cases e; exact z⟩
            omega
    have := best_fold spot ks (js ++ [k]) (stepB spot o k) h1
    simpa using this
end DL
namespace DL
open PySem L2
section
variable {P : Program} {wd : World} {K : PySem.W.Frag} {mg : Str → Option Value} {base : Heap} {k : Nat} {N : List Str} {sc : SC} {W : WX}
/-! ### sorted, however many; sets within an expression -/
def bSortedX : List D → Store → ER
  | [.lst xs], st => match strsOf xs with
    | some ys => .ok (.lst ((srtS ys).map .str)) st
    | none => .no
  | [.dct kvs], st => match keyTs kvs with
    | some ys => .ok (.lst ((srtS ys).map .str)) st
    | none => .no
  | _, _ => .no
theorem cd_sortedX : CallD K (fun xs H Q => (∃ (a : Addr) (xs' : List Str), xs = [V.ref a] ∧ SqL K H a (xs'.map V.str) ∧ ∀ (p : Addr), H p = none → Q (.ref p) (upd H p (.lst ((srtS xs').map V.str)))) ∨ ∃ (a : Addr) (kvs : List (Key × V)) (ks : List Str), xs = [.ref a] ∧ Rd H a (.dK kvs) ∧ kvs.map (·.1) = ks.map Sum.inr ∧ ∀ p, H p = none → Q (.ref p) (upd H p (.lst ((srtS ks).map V.str)))) bSortedX := fun w vs ds Q E k v p => by
  unfold bSortedX at p
  split at p
  · obtain ⟨x, rfl, a, us, rfl, m, r⟩ := v.one
    split at p
    · rename_i ys hy
      have e := strsOf_rep hy r
      subst e
      exact .inl ⟨a, ys, rfl, SqL.of m, fun l hn => p.lst rfl k (repL_strs _) l hn⟩
    · exact p.elim
  · obtain ⟨x, rfl, a, us, rfl, m, r⟩ := v.one
    split at p
    · rename_i ys hy
      exact .inr ⟨a, us, ys, rfl, m, r.1.trans (keyTs_of hy), fun l hn => p.lst rfl k (repL_strs _) l hn⟩
    · exact p.elim
  · exact p.elim
theorem pr_sortedX {e : Expr} {ms : EM} {p pos : Pos} (hm : mg "sorted" = none) (ha : PAb P wd K mg base k N sc W [e] ms) (hg : sc.s.names.lookup ("sorted" : Str) = some .globalImplicit := by rfl) (he : ∀ env, starEach [e] env = (false, eval e env) :: starEach [] env := by intro _; rfl) :
    PR P wd K mg base k N sc W (.Call (.Name "sorted" p) [e] [] pos) (eB bSortedX ms) :=
  pr_B (id := "sorted") (fun X g => CallR.or (by have := cr_sortedL (X := X) (by have := g.room.units; omega); rw [g.kk] at this; exact this) (cr_sortedD g.calm (by have := g.room.units; omega))) cd_sortedX hm (by decide +kernel) ha hg (by decide) (by decide) he (fun _ => rfl)
/-- sorted(set(e)) -/
def eSortSet (m : EM) : EM := fun Γ st => (m Γ st).bind fun d s => match deref s d with
  | .lst xs => match strsOf xs with
    | some ys => if (ddp ys).length + 1 < 4096 then .ok (.lst ((sset ys).map .str)) s else .no
    | none => .no
  | _ => .no
theorem G.gl {X : Cx} (g : G P wd K mg base k N sc W X) {x : Str} (h : sc.s.names.lookup x = some .globalImplicit) : Gl X x := by unfold Gl PySem.Env.kindOf; rw [g.scp]; exact h
theorem G.none {X : Cx} (g : G P wd K mg base k N sc W X) {x : Str} (h : mg x = none) : X.mg x = none := by rw [g.mg]; exact h
theorem G.un {X : Cx} (g : G P wd K mg base k N sc W X) : X.A.units + 20 < cLine := by have := g.room.units; omega
theorem pr_sortset {e : Expr} {m : EM} {p p2 q pos : Pos} (hm : mg "sorted" = none) (hm2 : mg "set" = none) (ha : PB P wd K mg base k N sc W e m) (hg : sc.s.names.lookup ("sorted" : Str) = some .globalImplicit := by rfl) (hg2 : sc.s.names.lookup ("set" : Str) = some .globalImplicit := by rfl)
    (na : ∀ env, starEach [e] env = (false, eval e env) :: starEach [] env := by intro _; rfl) :
    PR P wd K mg base k N sc W (.Call (.Name "sorted" p) [.Call (.Name "set" p2) [e] [] q] [] pos) (eSortSet m) := by
  obtain ⟨t, pt, r⟩ := ha
  refine ⟨tSortSet K t, fun X g => by have := pe_sortSet (p := p) (p2 := p2) (q := q) (pos := pos) g.calm g.un (g.gl hg) (g.none hm) (g.gl hg2) (g.none hm2) (pt X g) (na X.env); rw [g.kk] at this; exact this, ?_⟩
  intro H0 w Γ σ ok f Q q
  refine RB.use (P := fun w r => PostE K w r Q (at_ W σ)) r ok f (fun _ _ e k p => p.shift e k) (fun _ _ p => p) (fun p => p) q fun d v w1 e1 k1 f1 r1 p1 => ?_
  have vw := r1.vw k1 f1
  revert vw p1
  cases deref w1.st d with
  | lst xs =>
    intro p1 vw
    obtain ⟨a, vs, rfl, hH, rl⟩ := vw
    dsimp only at p1
    split at p1
    · rename_i ys hy
      obtain ⟨hl, p1⟩ := PostE.ite p1
      have e := strsOf_rep hy rl
      subst e
      exact ⟨a, ys, rfl, SqL.of hH, hl, fun l hl => p1.lst rfl k1 (repL_strs _) l hl⟩
    · exact p1.elim
  | _ => intro p1 _; exact p1.elim
/-- plain data among keys -/
def lfD : D → Option Leaf
  | .non => some .none
  | .int i => some (.num i)
  | .bl b => some (.num (if b = true then 1 else 0))
  | .str x => some (.text x)
  | _ => none
def lfDs : List D → Option (List Leaf)
  | [] => some []
  | x :: xs => match lfD x, lfDs xs with | some k, some ks => some (k :: ks) | _, _ => none
/-- len(set(e)) -/
def eLenSet (m : EM) : EM := fun Γ st => (m Γ st).bind fun d s => match deref s d with
  | .lst xs => match lfDs xs with
    | some ks => if xs.length + 1 < 4096 then .ok (.int (ddp ks).length) s else .no
    | none => .no
  | .tup xs => match lfDs xs with
    | some ks => if xs.length + 1 < 4096 then .ok (.int (ddp ks).length) s else .no
    | none => .no
  | _ => .no
end
end DL
namespace DL
open PySem L2 ClX
/-! ### static methods, reached by the class -/
structure SMet (K : PySem.W.Frag) (C : Addr) (m : Str) (p g : Addr) : Prop where
  rd : ∃ mc, CRead K C mc ∧ PySem.W.findCls K (.ref C) mc m = some (.get (.builtin "staticmethod.__get__") (.ref p) .none (.ref C))
  rc : ∃ rest, PySem.W.recIn K p "staticmethod" = some (.ref g :: rest)
  kp : PySem.W.keepIn K (.ref g) = true
section
variable {X : Cx} {pins : List (Addr × Obj)} {σ : L2.St} {H : Hp} {s : Shared} {C p g : Addr} {m : Str} {A : Around} {E : Value → Shared → Prop}
theorem getmethsm_ok {pl : Sem Bool} {Q : Value × List Value → Shared → Prop} (I : Inv X pins σ H s) (k : SMet X.K C m p g) (h : ∀ s', Inv X pins σ H s' → Q (.ref g, []) s') : wpAny (model X.prog X.w) A (getMethod (.ref C) m pl) Q E s := by
  obtain ⟨mc, r, at_⟩ := k.rd
  obtain ⟨rest, hp⟩ := k.rc
  refine PySem.W.method_cls I.kIn r.ga ?_
  refine PySem.W.cls_bind I.kIn r.rd at_ ?_
  refine wpAny_call (PySem.W.sm_get (s := { s with toks := s.toks + 1 }) I.kIn hp (PySem.W.handed_on rfl ?_))
  exact h _ (I.tok _)
end
structure StatOK (P : Program) (wd : World) (K : PySem.W.Frag) (mg : Str → Option Value) (base : Heap) (k : Nat) (C : String) (m : Str) (F : DF) : Prop where
  ex : ∃ (g p : Addr) (fd : FuncData) (ps : List Str), FnG P wd K mg base k g fd ps (spD K F) ∧ SMet K (cA K C) m p g ∧ Binds K fd ps []
section
variable {P : Program} {wd : World} {K : PySem.W.Frag} {mg : Str → Option Value} {base : Heap} {k : Nat} {N : List Str} {sc : SC} {W : WX}
/-- C.m(..) -/
theorem pr_stat {j : Nat} {C : String} {m : Str} {F : DF} {e : Expr} {es : List Expr} {ms : EM} {pl : PySem.Env → Sem Bool} {npos apos pos : Pos} (at_ : mg (Str.ofString C) = some (.ref (cA K C))) (T : StatOK P wd K mg base j C m F) (ha : PAr P wd K mg base k N sc W (e :: es) ms) (hk : j ≤ k := by omega)
    (hg : sc.s.names.lookup (Str.ofString C) = some .globalImplicit := by rfl) (hd : (Str.ofString C == ("__debug__" : Str)) = false := by decide)
    (hst : ∀ env, starEach (e :: es) env = (false, eval e env) :: starEach es env := by intro _; rfl) (hpl : ∀ env, (backTo pos (starEach es env)).any (·.1) = false := by intro _; rfl)
    (ht : ∀ env, eval (.Call (.Attribute (.Name (Str.ofString C) npos) m apos) (e :: es) [] pos) env = (do
      let ov ← eval (.Name (Str.ofString C) npos) env
      standAt apos.atName
      let (f, first) ← holding [ov] (getMethod ov m (pl env))
      callWith pos f first (backTo pos (starEach (e :: es) env)) (backToKw pos (keywordEach [] env))) := by intro _; rfl) :
    PR P wd K mg base k N sc W (.Call (.Attribute (.Name (Str.ofString C) npos) m apos) (e :: es) [] pos) (eCall F ms) := by
  obtain ⟨t, pt, r⟩ := ha
  refine ⟨tCallS (spD K F) (WE W) t, fun X g => ⟨fun pins s σ H Q I h => ?_⟩, rt_call r⟩
  have aX := pt X g
  have gl : Gl X (Str.ofString C) := by unfold Gl PySem.Env.kindOf; rw [g.scp]; exact hg
  have cX : PE X (.Name (Str.ofString C) npos) (tC (.ref (cA K C))) := pe_glob gl (by rw [g.mg]; exact at_) rfl hd
  obtain ⟨rfl, rfl, rfl, rfl, rfl, rfl, hsc, hc, hr, hgd, tk, _, _⟩ := g
  obtain ⟨gf, pf, fd, ps, F1, hm, hb⟩ := T.ex
  refine PySem.W.methodCall_KW (pl := pl X.env) (thn (cX.run pins s σ H (fun x H1 => x = .ref (cA X.K C) ∧ tCallS (spD X.K F) (WE W) t σ H1 Q) I ⟨rfl, h⟩) fun u s1 ⟨x, H1, I1, rx, ex, q⟩ => ?_) (ht X.env)
  subst ex
  obtain rfl : u = Value.ref (cA X.K C) := rx
  refine getmethsm_ok I1 hm fun s1' I1' => ?_
  refine PySem.W.callWith_K (first := []) (h₀ := X.base) I1'.ok.mod.kin hm.kp (thn (aX.run pos pins s1' σ H1 _ I1' q) fun us s2 ⟨vs, H2, I2, r, q2⟩ => ⟨I2.kIn, ?_⟩) (hst X.env) (hpl X.env)
  exact run_g (us := us) (vs := vs) F1 ⟨hr.mono hk, hgd⟩ hb tk I2 r q2
end
end DL
/-! calls with keywords -/
namespace DL
open PySem PySem.Spec PyProof.Rows L2
/-- the items at these places -/
def pk {α : Type} (ix : List Nat) (l : List α) : List α := ix.filterMap fun i => l[i]?
theorem pk_cons_some {α : Type} {i : Nat} {ix : List Nat} {l : List α} {x : α} (h : l[i]? = some x) : pk (i :: ix) l = x :: pk ix l := by unfold pk; rw [List.filterMap_cons, h]
theorem pk_cons_none {α : Type} {i : Nat} {ix : List Nat} {l : List α} (h : l[i]? = none) : pk (i :: ix) l = pk ix l := by unfold pk; rw [List.filterMap_cons, h]
section
variable {K : PySem.W.Frag} {w : Wd}
end
def eKw (n m : Nat) (ix : List Nat) (dl : List D) (ms mk : EM) : EM := fun Γ st => (ms Γ st).bind fun d s => match d with
  | .tup ds => (mk Γ s).bind fun e s2 => match e with
    | .tup es => if ds.length = n ∧ es.length = m then .ok (.tup (pk ix (ds ++ es ++ dl))) s2 else .no
    | _ => .no
  | _ => .no
section
variable {P : Program} {wd : World} {K : PySem.W.Frag} {mg : Str → Option Value} {base : Heap} {k : Nat} {N : List Str} {sc : SC} {W : WX}
end
section
variable {X : Cx} {k : Nat} {f C : Addr} {fd : FuncData} {ps : List Str} {sp : Sp} {pins : List (Addr × Obj)} {σ : L2.St} {H : Hp} {s : Shared} {Q : VK} {us ws : List Value} {vs zs : List V} {W : WX} {n : Nat} {ks : List Str} {ix : List Nat} {dv : List V} {dvs : List Value}
end
section
variable {P : Program} {wd : World} {K : PySem.W.Frag} {mg : Str → Option Value} {base : Heap} {k : Nat} {N : List Str} {sc : SC} {W : WX}
variable {n j : Nat} {ks : List Str} {dl : List D} {ix : List Nat} {ms mk : EM} {e : Expr} {es : List Expr} {kws : List Keyword} {p pos apos : Pos}
end
end DL
/-! {**d, k: v} -/
namespace DL
open PySem L2 PySem.Spec PyProof.Rows
section
variable {prog : Program} {w : World} {K : Type} [DecidableEq K] {knd : PySem.KeyKind prog w K} {A : Around} {E : Value → Shared → Prop} {s : Shared}
theorem put_pairs {d : Addr} {kvs : List (K × Value)} {k : K} {key v : Value} {Q : Unit → Shared → Prop} (hkey : knd.is k key = true) (hm : s.heap.DictOf knd d kvs)
    (hQ : ∀ h', h'.DictOf knd d (stored kvs k v) → Heap.SameBut d s.heap h' → Q () { s with heap := h' }) (hsz : kvs.length ≤ sizeLine) : wpAny (model prog w) A (dictPut d (knd.hash k) key v) Q E s := by
  obtain ⟨o, es, ep, ho, hc, hd, hk, hp, hn⟩ := hm
  have z : es.size ≤ sizeLine := by rw [← Array.length_toList, hp.length]; exact hsz
  unfold dictPut
  refine wpAny_bind (wpAny_dictFind_of hkey ho hd hk ?_)
  have fi : (es.findIdx? fun e => knd.is k e.key) = kvs.findIdx? fun kv => decide (kv.1 = k) := by
    rw [← hp.findIdx k]; obtain ⟨l⟩ := es; simp
  cases hi : es.findIdx? fun e => knd.is k e.key with
  | some i =>
    have st : stored kvs k v = kvs.map fun kv => if kv.1 = k then (kv.1, v) else kv := by rw [stored, if_pos (any_of_findIdx_some (fi ▸ hi))]
    refine wpAny_updateDict ho hd (hQ _ ⟨_, _, ep, Heap.get?_update_self _ ho (Obj.isFreed_of_dict (Obj.data_mapDict hd _)), hc.mapDict _, Obj.data_mapDict hd _, hk.modify _ _, ?_, ?_⟩ (Heap.SameBut.update ..))
    · have hl : (es.toList.findIdx? fun e => knd.is k e.key) = some i := by rw [← hi]; obtain ⟨l⟩ := es; simp
      have q := hp.modify hn hl v
      rw [stored, if_pos (any_of_findIdx_some (fi ▸ hi))]
      obtain ⟨l⟩ := es
      simpa using q
    · rw [stored, if_pos (any_of_findIdx_some (fi ▸ hi)), keys_map_store]; exact hn
  | none =>
    have ni : k ∉ kvs.map (·.1) := not_mem_of_findIdx_none (fi ▸ hi)
    have na : ¬ (kvs.any fun kv => decide (kv.1 = k)) = true := fun q => by
      obtain ⟨kv, h1, h2⟩ := List.any_eq_true.mp q
      exact ni (List.mem_map.mpr ⟨kv, h1, of_decide_eq_true h2⟩)
    refine wpAny_updateDictKeys (hz := z) ho hd (hQ _ ⟨_, _, ep + 1, Heap.get?_update_self _ ho (Obj.isFreed_of_dict (Obj.data_mapDictKeys hd _)), hc.mapDictKeys _, Obj.data_mapDictKeys hd _, hk.push hkey _, ?_, ?_⟩ (Heap.SameBut.update ..))
    · rw [stored, if_neg na]
      have q := hp.append hkey (knd.hash k) v
      obtain ⟨l⟩ := es
      simpa using q
    · rw [stored, if_neg na, List.map_append, List.nodup_append]
      exact ⟨hn, by simp, fun a ha b hb q => ni (by simp at hb; rw [← hb, ← q]; exact ha)⟩
/-- the loop -/
theorem merge_loop {d a : Addr} {acc more : List (K × Value)} {Q : Unit → Shared → Prop} (hne : d ≠ a) (hd : s.heap.DictOf knd d acc) (ha : s.heap.DictOf knd a more)
    (hQ : ∀ h', h'.DictOf knd d (merged acc more) → Heap.SameBut d s.heap h' → Q () { s with heap := h' }) (hsz : acc.length + more.length ≤ sizeLine) : wpAny (model prog w) A (do
        let l ← dictEntries a
        let epoch ← dictEpoch a
        let _ ← forIn (List.range l.size) PUnit.unit fun i (_ : PUnit) => (do
            let l' ← dictEntries a
            match l'[i]? with
            | some e => do
              holding [e.key, e.val] (if false = true then do
                let r ← dictFind d e.key e.hash
                if r.isSome = true then do
                  rule "dict.merge.duplicate-key"
                  let x ← newExc (Value.type "KeyError") [e.key]
                  raiseNew x
                  dictPut d e.hash e.key e.val
                else dictPut d e.hash e.key e.val
              else dictPut d e.hash e.key e.val)
              let ep' ← dictEpoch a
              if (ep' != epoch) = true then do
                (unsupported "dict.changed-during-merge" : Sem PUnit)
                pure (ForInStep.yield PUnit.unit)
              else pure (ForInStep.yield PUnit.unit)
            | x => do
              (unsupported "dict.changed-during-merge" : Sem PUnit)
              pure (ForInStep.yield PUnit.unit) : Sem (ForInStep PUnit))
        pure ()) Q E s := by
  obtain ⟨oa, es, ep, ho, hc, hda, hk, hp, hn⟩ := id ha
  have hlen : es.size = more.length := by rw [← Array.length_toList, hp.length]
  refine wpAny_bind (wpAny_dictEntries ho hda ?_)
  refine wpAny_bind (wpAny_dictEpoch ho hda ?_)
  refine wpAny_bind ?_
  refine wpAny_forIn_list _ (fun rest _ s' => ∃ h' i, s' = { s with heap := h' } ∧ rest = (List.range es.size).drop i ∧ i ≤ es.size ∧ h'.DictOf knd d (merged acc (more.take i)) ∧ Heap.SameBut d s.heap h')
    _ ?_ ?_ _ _ ⟨s.heap, 0, rfl, rfl, Nat.zero_le _, by simpa [merged] using hd, Heap.SameBut.refl _ _⟩
  · rintro x rest b s' ⟨h', i, rfl, hr, hi, hd', hs'⟩
    have lt : i < es.size := by
      rcases Nat.lt_or_ge i es.size with h | h
      · exact h
      · rw [List.drop_eq_nil_of_le (by simpa using h)] at hr; cases hr
    rw [List.drop_eq_getElem_cons (by simpa using lt)] at hr
    injection hr with h1 h2
    have e1 : x = i := by simpa using h1
    subst e1
    have hoo : h'.get? a = some oa := (hs'.2 a (Ne.symm hne)).trans ho
    refine wpAny_bind (wpAny_dictEntries hoo hda ?_)
    rw [Array.getElem?_eq_getElem lt]
    obtain ⟨kv, hkv⟩ : ∃ kv, more[x]? = some kv := ⟨more[x]'(by rw [← hlen]; exact lt), List.getElem?_eq_getElem _⟩
    obtain ⟨k, v⟩ := kv
    obtain ⟨hkey, hval⟩ := hp.get? (e := es[x]) (by simp [lt]) hkv
    obtain ⟨k', hkey', hhash⟩ := hk es[x] (Array.getElem_mem lt)
    obtain rfl : k' = k := knd.inj _ _ _ hkey' hkey
    dsimp only
    rw [if_neg Bool.false_ne_true, hhash, hval]
    have z : (merged acc (more.take x)).length ≤ sizeLine := by
      have a1 := merged_length_le acc (more.take x)
      have a2 : (more.take x).length ≤ more.length := by rw [List.length_take]; omega
      omega
    refine wpAny_bind (wpAny_holding (put_pairs hkey hd' (fun h'' hd'' hs'' => ?_) z))
    have hoo2 : h''.get? a = some oa := (hs''.2 a (Ne.symm hne)).trans hoo
    refine wpAny_bind (wpAny_dictEpoch hoo2 hda ?_)
    rw [if_neg (by simp)]
    exact wpAny_pure ⟨h'', x + 1, rfl, h2, lt, by rw [merged_take_succ acc more x (k', v) hkv]; exact hd'', hs'.trans hs''⟩
  · rintro b s' ⟨h', i, rfl, hr, hi, hd', hs'⟩
    have e : i = es.size := by
      have := congrArg List.length hr
      simp at this
      omega
    rw [e, hlen, List.take_length] at hd'
    exact wpAny_pure (hQ h' hd' hs')
theorem merge_pairs {d a : Addr} {acc more : List (K × Value)} {Q : Unit → Shared → Prop} (hne : d ≠ a) (hS : (a == sysModules) = false) (hd : s.heap.DictOf knd d acc) (ha : s.heap.DictOf knd a more) (nr : ∀ k v, knd.is k v = true → ∀ b, v ≠ .ref b)
    (hQ : ∀ h', h'.DictOf knd d (merged acc more) → Heap.SameBut d s.heap h' → Q () { s with heap := h' }) (hsz : acc.length + more.length ≤ sizeLine) : wpAny (model prog w) A (mergeMapping d (.ref a) false) Q E s := by
  obtain ⟨od, esd, epd, hod, hcd, hdd, hkd, hpd, hnd⟩ := id hd
  obtain ⟨oa, es, ep, ho, hc, hda, hk, hp, hn⟩ := id ha
  unfold mergeMapping
  refine wpAny_bind (wpAny_isInstance ha.typeIs isSubtype_dict_dict ?_)
  try dsimp only
  rw [if_pos rfl]
  refine wpAny_bind (wpAny_specialOf ha.typeIs F.slot_dict_iter.lookup ?_)
  refine wpAny_bind (wpAny_pure ?_)
  rw [show (some (Value.builtin "dict.__iter__") == some (Value.builtin "dict.__iter__")) = true from beq_self_eq_true _]
  dsimp only
  rw [hS, if_neg Bool.false_ne_true]
  refine wpAny_bind (wpAny_dictEntries hod hdd ?_)
  have fin := merge_loop (A := A) (E := E) (Q := Q) hne hd ha hQ hsz
  split
  · refine wpAny_bind (wpAny_dictEntries ho hda ?_)
    refine wpAny_bind ?_
    rw [← Array.forIn_toList]
    refine wpAny_forIn_list _ (fun rest _ s' => s' = s ∧ ∀ e ∈ rest, e ∈ es.toList) _ ?_ ?_ _ _ ⟨rfl, fun _ h => h⟩
    · rintro x rest b s' ⟨rfl, hr⟩
      obtain ⟨k, h1, _⟩ := hk x (by simpa using hr x List.mem_cons_self)
      have h2 := nr k _ h1
      split
      · rename_i b' hb
        exact absurd hb (h2 b')
      · exact wpAny_pure ⟨rfl, fun e he => hr e (List.mem_cons_of_mem _ he)⟩
    · rintro b s' ⟨rfl, _⟩
      exact fin
  · exact fin
end
theorem kV_noref {P : Program} {w : World} (k : Key) (v : Value) (h : (mixKind P w).is k v = true) (b : Addr) : v ≠ .ref b := by
  rintro rfl
  cases k with
  | inl i => cases h
  | inr x => obtain ⟨t, q⟩ := Value.isStrOf_shape (show Value.isStrOf x (.ref b) = true from h); cases q
section
variable {X : Cx}
def tDupd (td tk tv : TE) : TE := fun σ H Q => ∀ p, H p = none → td σ (upd H p (.dK [])) fun x H1 => ∃ a kvs, x = .ref a ∧ Rd H1 a (.dK kvs) ∧ H1 p = some (.dK []) ∧ a ≠ p ∧ ∀ p2, upd H1 p (.dK (mergeK [] kvs)) p2 = none →
  tk σ (upd (upd H1 p (.dK (mergeK [] kvs))) p2 (.dK [])) fun y H2 => tv σ H2 fun z H3 => ∃ k : Key, y = kV k ∧ H3 p = some (.dK (mergeK [] kvs)) ∧ H3 p2 = some (.dK []) ∧ p ≠ p2 ∧ (mergeK [] kvs).length + 1 ≤ sizeLine ∧ Q (.ref p) (upd (upd H3 p2 (.dK [(k, z)])) p (.dK (putK (mergeK [] kvs) k z)))
theorem pe_dupd {d k v : Expr} {pos : Pos} {td tk tv : TE} (hd : PE X d td) (hk : PE X k tk) (hv : PE X v tv) : PE X (.Dict [none, some k] [d, v] pos) (tDupd td tk tv) := by
  refine ⟨fun pins s σ H Q I q => ?_⟩
  rw [arm_eval_Dict]
  refine wpAny_bind (wpAny_standAt ?_)
  show wpAny _ _ (dictDisplay [(none, (do let x ← eval d X.env; standAt pos; pure x)), (some (eval k X.env), (do let x ← eval v X.env; standAt pos; pure x))]) _ _ s
  unfold dictDisplay
  simp only [List.forIn_cons, List.forIn_nil]
  have hn := I.hok.fresh (Nat.le_refl s.heap.objs.size)
  have I1 := I.laid (a := s.heap.objs.size) (o := .dK []) (h' := s.heap.push { cls := .type "dict", data := .dict #[] }) (t' := s.toks) (fun _ _ q => Heap.get?_push_of_some _ q) (Nat.le_refl _) (dk_empty s.heap I.big)
  refine wpAny_bind (wpAny_bind ?_)
  refine wpAny_bind ?_
  rw [if_pos (show ([] : List (Sem Value × Sem Value)).isEmpty = true from rfl)]
  refine wpAny_pure ?_
  dsimp only
  refine wpAny_bind (wpAny_alloc ?_)
  refine wpAny_bind (wpAny_holding (wpAny_bind (thn (hd.run pins _ σ _ _ I1 (q _ hn)) fun u s2 ⟨x, H1, I2, rx, a, kvs, ex, ha, hp, hap, q2⟩ => wpAny_bind (wpAny_standAt (wpAny_pure ?_)))))
  subst ex
  obtain rfl : u = Value.ref a := rx
  obtain ⟨z1, hd1, vs0, r0, d0⟩ := dk_of I2.hok hp
  cases r0
  obtain ⟨z2, hd2, vs1, r1, d1⟩ := dk_rd I2.hok ha
  have l1 : vs1.length = kvs.length := r1.length.symm
  have hmm : ∀ {Q' : Unit → Shared → Prop} {E' : Value → Shared → Prop}, (∀ h', h'.DictOf (mixKind X.prog X.w) s.heap.objs.size (merged [] vs1) → Heap.SameBut s.heap.objs.size s2.heap h' → Q' () { s2 with heap := h' }) → wpAny (model X.prog X.w) X.A (mergeMapping s.heap.objs.size (.ref a) false) Q' E' s2 :=
    fun hq => merge_pairs (knd := mixKind X.prog X.w) (Ne.symm hap) hd2 d0 d1 (fun k v h => kV_noref k v h) hq (by rw [l1]; simpa using z2)
  refine wpAny_bind (wpAny_onRaise (wpAny_tryCatch (wpAny_onRaise (wpAny_holding (hmm fun h' dd' hs => ?_)))))
  have lm : (mergeK [] kvs).length ≤ sizeLine := by have := length_mergeK kvs []; simp at this; omega
  have he : ∃ q, h'.get? s.heap.objs.size = some q := let ⟨q, _, _, hq, _⟩ := dd'; ⟨q, hq⟩
  have I3 := d_write (t' := s2.toks) I2 (by rw [hp]; exact True.intro) hs he (dk_new (kvs := mergeK [] kvs) lm hd1 (r1.merge .nil) dd')
  refine wpAny_pure (wpAny_pure ?_)
  dsimp only
  rw [if_neg (by simp)]
  refine wpAny_bind (wpAny_bind ?_)
  have hn2 := I3.hok.fresh (Nat.le_refl h'.objs.size)
  have I4 := I3.laid (a := h'.objs.size) (o := .dK []) (h' := h'.push { cls := .type "dict", data := .dict #[] }) (t' := s2.toks) (fun _ _ q => Heap.get?_push_of_some _ q) (Nat.le_refl _) (dk_empty h' I3.big)
  refine (wpAny_holding (wpAny_subDict (knd := mixKind X.prog X.w) (by simp) ?_))
  refine wpAny_mono ((pps_cons hk hv (pps_nil (pos := pos)) : PPs X pos [some k] [v] [(tk, tv)]).run pins _ σ _ (fun ps H4 => match ps with | [(y, z)] => (∃ k : Key, y = kV k ∧ H4 s.heap.objs.size = some (.dK (mergeK [] kvs)) ∧ H4 h'.objs.size = some (.dK []) ∧ s.heap.objs.size ≠ h'.objs.size ∧ (mergeK [] kvs).length + 1 ≤ sizeLine ∧ Q (.ref s.heap.objs.size) (upd (upd H4 h'.objs.size (.dK [(k, z)])) s.heap.objs.size (.dK (putK (mergeK [] kvs) k z)))) | _ => False) I4 ?_) (fun ws s5 hw => ?_) fun _ _ z => z
  · exact q2 _ hn2
  · obtain ⟨ps, H4, I5, rel, hq⟩ := hw
    obtain ⟨y, z, rfl⟩ : ∃ y z, ps = [(y, z)] := by
      cases ps with
      | nil => exact hq.elim
      | cons p r => cases r with
        | nil => exact ⟨p.1, p.2, rfl⟩
        | cons _ _ => exact hq.elim
    obtain ⟨k', rfl, e1, e2, ne, zz, qq⟩ := hq
    obtain ⟨rs, c, rk⟩ := carries_of (P := X.prog) (w := X.w) (kvs := [(k', z)]) rel
    obtain ⟨_, hdS, _, r0', dS⟩ := dk_of I5.hok e2
    cases r0'
    refine ⟨rs, c, dS, fun h6 d6 s6 => ?_⟩
    have he6 : ∃ q, h6.get? h'.objs.size = some q := let ⟨q, _, _, hq, _⟩ := d6; ⟨q, hq⟩
    have ek : mergeK [] [(k', z)] = [(k', z)] := rfl
    have I6 := d_write (t' := s5.toks + ws.length) I5 (by rw [e2]; exact True.intro) s6 he6 (dk_new (kvs := [(k', z)]) (by simp [sizeLine_eq]) hdS (ek ▸ rk.merge .nil) d6)
    have e1' : upd H4 h'.objs.size (.dK [(k', z)]) s.heap.objs.size = some (.dK (mergeK [] kvs)) := by rw [upd_ne ne]; exact e1
    obtain ⟨_, hdM, vsM, rM, dM⟩ := dk_of I6.hok e1'
    obtain ⟨_, _, vsS, rS, dS2⟩ := dk_of I6.hok (show upd H4 h'.objs.size (.dK [(k', z)]) h'.objs.size = some (.dK [(k', z)]) from upd_same)
    refine wpAny_bind (wpAny_onRaise (wpAny_holding (merge_pairs (knd := mixKind X.prog X.w) ne hdS dM dS2 (fun k v h => kV_noref k v h) (fun h7 d7 s7 => ?_) (by rw [← rM.length, ← rS.length]; simpa using zz))))
    have he7 : ∃ q, h7.get? s.heap.objs.size = some q := let ⟨q, _, _, hq, _⟩ := d7; ⟨q, hq⟩
    have lp : (putK (mergeK [] kvs) k' z).length ≤ sizeLine := by have := length_putK (mergeK [] kvs) k' z; omega
    have I7 := d_write (t' := s5.toks + ws.length) I6 (by rw [e1']; exact True.intro) s7 he7 (dk_new (kvs := putK (mergeK [] kvs) k' z) lp hdM (rS.merge rM) d7)
    refine wpAny_pure ?_
    dsimp only
    exact wpAny_pure ⟨.ref s.heap.objs.size, _, I7, rfl, qq⟩
end
end DL
/-! dict displays -/
namespace DL
open PySem L2
/-- a thing of one's own at p: not frozen, not in the store -/
structure Pv (w : Wd) (p : Addr) (o : HO) : Prop where
  h : w.H p = some o
  m : w.M p = none
  r : ∀ l, l < w.st.length → w.ρ l ≠ p
section
variable {K : PySem.W.Frag} {w w2 w0 : Wd} {H0 : Hp} {Γ : DEnv} {σ : L2.St} {p : Addr} {o o' : HO}
theorem Pv.evo (v : Pv w p o) (e : Evo w w2) : Pv w2 p o where
  h := e.keep p o v.h v.m v.r
  m := by
    cases q : w2.M p with
    | none => rfl
    | some u => have z := e.newM p u q v.m; rw [v.h] at z; cases z
  r := fun l hl q => by
    by_cases z : l < w.st.length
    · exact v.r l z ((e.rho l z).symm.trans q)
    · have y := e.newR l (Nat.le_of_not_lt z) hl
      rw [q, v.h] at y; cases y
theorem Pv.new (k : Ok K w) (hp : w.H p = none) : Pv (w.al p o) p o := ⟨upd_same, k.none hp, k.noR hp⟩
theorem Pv.al (v : Pv w p o) : Pv (w.al p o') p o' := ⟨upd_same, v.m, v.r⟩
theorem evo_al2 (e : Evo w0 w) (h0 : w0.H p = none) : Evo w0 (w.al p o) where
  mono := e.mono
  rho := e.rho
  le := e.le
  newM := e.newM
  newR := e.newR
  keep := fun b u h a c => by show upd w.H p o b = _; rw [upd_ne (fun z => by rw [z, h0] at h; cases h)]; exact e.keep b u h a c
theorem ext_al : Ext w (w.al p o) := ext_same rfl rfl rfl
theorem fr_al (f : Fr K H0 w Γ σ) (hp : ∀ (i : Nat) (d : D), Γ[i]? = some (Sl.ow d) → σ[i]? ≠ some (some (V.ref p))) : Fr K H0 (w.al p o) Γ σ where
  len := f.len
  sh := fun i d h => let ⟨v, a, b⟩ := f.sh i d h; ⟨v, a, b.ext ext_al⟩
  ow := fun i d h => by
    obtain ⟨a, u, h1, h2, h3, h4, h5, h6⟩ := f.ow i d h
    have ne : a ≠ p := fun z => hp i d h (by rw [← z]; exact h1)
    exact ⟨a, u, h1, by show upd w.H p o a = _; rw [upd_ne ne]; exact h2, h3, h4, h5, h6.ext ext_al⟩
  dj := f.dj
theorem fr_ne (f : Fr K H0 w Γ σ) (hp : w.H p = none) : ∀ (i : Nat) (d : D), Γ[i]? = some (Sl.ow d) → σ[i]? ≠ some (some (V.ref p)) := fun i d h q => by
  obtain ⟨a, u, h1, h2, _⟩ := f.ow i d h
  rw [q] at h1
  have e : p = a := by simpa using h1
  subst e
  rw [hp] at h2; cases h2
theorem rep_nep {v : V} {d : D} {a : Addr} (v0 : Pv w p o) (k : Ok K w) (r : Rep K w v d) (hv : v = .ref a) {kvs : List (Key × D)} (hd : deref w.st d = .dct kvs) : a ≠ p := by
  rintro rfl
  subst hv
  cases r with
  | dct h => rw [v0.m] at h; cases h
  | @ref l h => exact v0.r l h rfl
  | lst h => cases hd
  | tup h => cases hd
  | ins h => cases hd
  | scr h => cases hd
  | cls => cases hd
  | opq => cases hd
  | fn h => cases hd
  | exc0 h => cases hd
  | exc1 h => cases hd
end
section
variable {P : Program} {wd : World} {K : PySem.W.Frag} {mg : Str → Option Value} {base : Heap} {k : Nat} {N : List Str} {sc : SC} {W : WX}
/-- {**d, k: v} -/
def eDupd (md mk mv : EM) : EM := fun Γ st => (md Γ st).bind fun x s1 => match deref s1 x with
  | .dct kvs => (mk Γ s1).bind fun y s2 => (mv Γ s2).bind fun z s3 => match keyD y with
    | some q => if (mergeD [] kvs).length + 1 ≤ 16777216 then .ok (.dct (putD (mergeD [] kvs) q z)) s3 else .no
    | none => .no
  | _ => .no
theorem mergeD_len {w : Wd} {vs : List (Key × V)} {xs : List (Key × D)} (r : RepP K w vs xs) : vs.length = xs.length := by simpa using congrArg List.length r.1
theorem rtn_dupd {td tk tv : TE} {md mk mv : EM} (rd : RT K W td md) (rk : RT K W tk mk) (rv : RT K W tv mv) : RTN K W (tDupd td tk tv) (eDupd md mk mv) := by
  intro H0 w Γ σ ok f Q q p hp
  have v1 : Pv (w.al p (.dK [])) p (.dK []) := Pv.new ok hp
  have k1 := ok_al ok (.dK []) (ok.none hp) (ok.noR hp)
  have e1 := evo_al ok (.dK []) hp
  have nep := fr_ne f hp
  have f1 : Fr K H0 (w.al p (.dK [])) Γ σ := fr_al f nep
  have q' := PostN.shift e1 k1 q
  refine RT.use (P := fun w' r => PostN K w r Q (at_ W σ)) rd k1 f1 (fun _ _ _ _ z => z) (fun x st z => (fun c dd w' ev k' s r => z c dd w' (e1.trans k1 ev) k' s r)) (fun z => z) (show PostN K w ((md Γ w.st).bind _) Q (at_ W σ) from q) fun d v w2 e2 k2 f2 r2 p2 => ?_
  have v2 := v1.evo e2
  have vw := r2.vw k2
  cases hd : deref w2.st d with
  | dct kvs =>
    rw [hd] at vw
    obtain ⟨a, vs, rfl, hH, rl⟩ := vw
    have p2' : PostN K w ((mk Γ w2.st).bind fun y s2 => (mv Γ s2).bind fun z s3 => match keyD y with | some q => if (mergeD [] kvs).length + 1 ≤ 16777216 then .ok (.dct (putD (mergeD [] kvs) q z)) s3 else .no | none => .no) Q (at_ W σ) := by
      have p2 := p2
      rw [hd] at p2
      exact p2
    refine ⟨a, vs, rfl, hH, v2.h, rep_nep v2 k2 r2 rfl hd, fun b hb => ?_⟩
    have E2 : Evo w w2 := e1.trans k1 e2
    have v3 : Pv (w2.al p (.dK (mergeK [] vs))) p (.dK (mergeK [] vs)) := v2.al
    have k3 := ok_al k2 (.dK (mergeK [] vs)) v2.m v2.r
    have E3 : Evo w (w2.al p (.dK (mergeK [] vs))) := evo_al2 E2 hp
    have f3 : Fr K H0 (w2.al p (.dK (mergeK [] vs))) Γ σ := fr_al f2 nep
    have hb3 : (w2.al p (.dK (mergeK [] vs))).H b = none := hb
    have v4 : Pv ((w2.al p (.dK (mergeK [] vs))).al b (.dK [])) b (.dK []) := Pv.new k3 hb3
    have e4 := evo_al k3 (.dK []) hb3
    have k4 := ok_al k3 (.dK []) (k3.none hb3) (k3.noR hb3)
    have f4 := fr_al (o := .dK []) f3 (fr_ne f3 hb3)
    have v3' := v3.evo e4
    have E4 := E3.trans k3 e4
    have rl4 : RepP K ((w2.al p (.dK (mergeK [] vs))).al b (.dK [])) vs kvs := (rl.ext ext_al).ext ext_al
    refine RT.use (P := fun w' r => PostN K w r Q (at_ W σ)) rk k4 f4 (fun _ _ _ _ z => z) (fun x st z => (fun c dd w' ev k' s r => z c dd w' (E4.trans k4 ev) k' s r)) (fun z => z) p2' fun y vy w5 e5 k5 f5 r5 p5 => ?_
    refine RT.use (P := fun w' r => PostN K w r Q (at_ W σ)) rv k5 f5 (fun _ _ _ _ z => z) (fun x st z => (fun c dd w' ev k' s r => z c dd w' ((E4.trans k4 e5).trans k5 ev) k' s r)) (fun z => z) p5 fun z vz w6 e6 k6 f6 r6 p6 => ?_
    cases hk : keyD y with
    | none => rw [hk] at p6; exact p6.elim
    | some q =>
      rw [hk] at p6
      dsimp only at p6
      split at p6
      · rename_i hl
        have v5 := v4.evo e5
        have v6 := v5.evo e6
        have vp := (v3'.evo e5).evo e6
        have rl6 := (rl4.evo e5).evo e6
        have rm : RepP K w6 (mergeK [] vs) (mergeD [] kvs) := repP_merge rl6 .nil
        have ne : p ≠ b := by
          intro z
          have h3 := v3.h
          have h4 := hb3
          rw [← z] at h4
          rw [h4] at h3; cases h3
        refine ⟨q, keyD_rep r5 hk, vp.h, v6.h, ne, by rw [mergeD_len rm, sizeLine_eq]; exact hl, ?_⟩
        have E6 := (E4.trans k4 e5).trans k5 e6
        have hb0 : w.H b = none := E3.dom0 k3 hb3
        have E7 : Evo w (w6.al b (.dK [(q, vz)])) := evo_al2 E6 hb0
        have k7 := ok_al k6 (.dK [(q, vz)]) v6.m v6.r
        have E8 : Evo w ((w6.al b (.dK [(q, vz)])).al p (.dK (putK (mergeK [] vs) q vz))) := evo_al2 E7 hp
        have vp7 : (w6.al b (.dK [(q, vz)])).M p = none ∧ ∀ l, l < (w6.al b (.dK [(q, vz)])).st.length → (w6.al b (.dK [(q, vz)])).ρ l ≠ p := ⟨vp.m, vp.r⟩
        have k8 := ok_al k7 (.dK (putK (mergeK [] vs) q vz)) vp7.1 vp7.2
        exact p6 p _ _ E8 k8 rfl hp upd_same vp.m vp.r ⟨_, rfl, ((repP_put rm q r6).ext ext_al).ext ext_al⟩
      · exact p6.elim
  | _ => rw [hd] at p2; exact p2.elim
theorem pn_dupd {d kx v : Expr} {pos : Pos} {md mk mv : EM} (hd : PR P wd K mg base k N sc W d md) (hk : PR P wd K mg base k N sc W kx mk) (hv : PR P wd K mg base k N sc W v mv) : PN P wd K mg base k N sc W (.Dict [none, some kx] [d, v] pos) (eDupd md mk mv) :=
  let ⟨_, a, ra⟩ := hd; let ⟨_, b, rb⟩ := hk; let ⟨_, c, rc⟩ := hv
  ⟨_, fun X g => pe_dupd (a X g) (b X g) (c X g), rtn_dupd ra rb rc⟩
/-- {k: v, ..} -/
def keysD : List (D × D) → Option (List (Key × D))
  | [] => some []
  | (x, y) :: r => match keyD x, keysD r with | some k, some ks => some ((k, y) :: ks) | _, _ => none
def eePairs : List (EM × EM) → DEnv → Store → List (D × D) → (List (D × D) → Store → ER) → ER
  | [], _, st, acc, g => g acc.reverse st
  | (mk, mv) :: r, Γ, st, acc, g => (mk Γ st).bind fun x s1 => (mv Γ s1).bind fun y s2 => eePairs r Γ s2 ((x, y) :: acc) g
def eDisp (ms : List (EM × EM)) : EM := fun Γ st => eePairs ms Γ st [] fun ps s => match keysD ps with
  | some kvs => if kvs.length ≤ 15 then .ok (.dct (mergeD [] kvs)) s else .no
  | none => .no
inductive PPl (P : Program) (wd : World) (K : PySem.W.Frag) (mg : Str → Option Value) (base : Heap) (k : Nat) (N : List Str) (sc : SC) (W : WX) : List (Option Expr) → List Expr → List (EM × EM) → Prop
  | nil : PPl P wd K mg base k N sc W [] [] []
  | cons {kx vx : Expr} {ks : List (Option Expr)} {vs : List Expr} {mk mv : EM} {ms : List (EM × EM)} : PR P wd K mg base k N sc W kx mk → PR P wd K mg base k N sc W vx mv → PPl P wd K mg base k N sc W ks vs ms → PPl P wd K mg base k N sc W (some kx :: ks) (vx :: vs) ((mk, mv) :: ms)
def RTPs (K : PySem.W.Frag) (W : WX) (trs : List (TE × TE)) (ms : List (EM × EM)) : Prop := ∀ (H0 : Hp) (w0 w : Wd) (Γ : DEnv) (σ : L2.St) (p : Addr) (acc : List (D × D)) (acv : List (V × V)) (g : List (D × D) → Store → ER) (Q : List (V × V) → Hp → Prop) (Q0 : VK), Evo w0 w → w0.H p = none → Ok K w → Fr K H0 w Γ σ → Pv w p (.dK []) →
  RepL K w (acv.map (·.1)) (acc.map (·.1)) → RepL K w (acv.map (·.2)) (acc.map (·.2)) → PostN K w0 (eePairs ms Γ w.st acc g) Q0 (at_ W σ) →
  (∀ (w' : Wd) (ps : List (V × V)) (ds : List (D × D)), Evo w0 w' → Ok K w' → Pv w' p (.dK []) → RepL K w' ((acv.reverse ++ ps).map (·.1)) (ds.map (·.1)) → RepL K w' ((acv.reverse ++ ps).map (·.2)) (ds.map (·.2)) → PostN K w0 (g ds w'.st) Q0 (at_ W σ) → Q ps w'.H) → tPairs trs σ w.H Q
theorem pr_dupd {d kx v : Expr} {pos : Pos} {md mk mv : EM} (hd : PR P wd K mg base k N sc W d md) (hk : PR P wd K mg base k N sc W kx mk) (hv : PR P wd K mg base k N sc W v mv) : PR P wd K mg base k N sc W (.Dict [none, some kx] [d, v] pos) (eDupd md mk mv) :=
  (pn_dupd hd hk hv).fz fun Γ st dd s q => by
    unfold eDupd at q
    cases e : md Γ st with
    | no => rw [e] at q; cases q
    | err x t => rw [e] at q; cases q
    | ok x s1 =>
      rw [e, ok_bind] at q
      split at q
      · cases e2 : mk Γ s1 with
        | no => rw [e2] at q; cases q
        | err x t => rw [e2] at q; cases q
        | ok y s2 =>
          rw [e2, ok_bind] at q
          cases e3 : mv Γ s2 with
          | no => rw [e3] at q; cases q
          | err x t => rw [e3] at q; cases q
          | ok z s3 =>
            rw [e3, ok_bind] at q
            split at q
            · split at q
              · cases q; trivial
              · cases q
            · cases q
      · cases q
end
end DL
/-! static methods by name -/
namespace DL
open PySem L2
/-- the def behind a static method -/
def cS (K : PySem.W.Frag) (C : String) (m : Str) : Addr := match PySem.W.recIn K (cM K C m) "staticmethod" with
  | some (.ref g :: _) => g
  | _ => 0
theorem cS_of {K : PySem.W.Frag} {C : String} {m : Str} {c p g : Addr} {rest : List Value} (hc : cA K C = c) (h : PySem.W.findIn K (.ref c) m = some (some (.ref p))) (hr : PySem.W.recIn K p "staticmethod" = some (.ref g :: rest)) : cS K C m = g := by unfold cS; rw [cM_of hc h, hr]
section
variable {P : Program} {wd : World} {K : PySem.W.Frag} {mg : Str → Option Value} {base : Heap} {k : Nat}
theorem statOK {C : String} {m : Str} {p f : Addr} {F : DF} {i : Nat} (h : SMet K (cA K C) m p f) (a : FnA P wd K mg base i f F) (hi : i ≤ k := by omega) : StatOK P wd K mg base k C m F :=
  let ⟨fd, ps, a, b⟩ := a.ex; ⟨f, p, fd, ps, a.mono hi, h, b⟩
end
end DL
namespace DL
open PySem L2
/-! ### items of own things, of the store's dicts -/
def rSetX : V → V → V → Hp → (Hp → Prop) → Prop := fun o i v H Q => rSetL o i v H Q ∨ rSetD o i v H Q
theorem set_x {X : Cx} (hu : X.A.units + 1 < cLine) : PSet X rSetX := by
  intro pins s σ H o i v ov iv u Q I ro ri rv h
  rcases h with h | h
  · exact set_list pins s σ H o i v ov iv u Q I ro ri rv h
  · exact set_dict hu pins s σ H o i v ov iv u Q I ro ri rv h
def setX (d : D) (i x : D) : Option D := match d with
  | .lst xs => match i with
    | .int j => match ixN xs.length j with | some n => some (.lst (xs.set n x)) | none => none
    | _ => none
  | .dct kvs => match keyD i with
    | some k => if kvs.length < 16777216 then some (.dct (putD kvs k x)) else none
    | none => none
  | _ => none
theorem setX_ok {K : PySem.W.Frag} {w : Wd} {a : Addr} {o : HO} {d d' i x : D} {iv v : V} (ho : w.H a = some o) (r : RO K w o d) (ri : Rep K w iv i) (rv : Rep K w v x) (h : setX d i x = some d') : ∃ o', RO K w o' d' ∧ ∀ Q : Hp → Prop, Q (upd w.H a o') → rSetX (.ref a) iv v w.H Q := by
  cases d with
  | lst xs =>
    obtain ⟨vs, rfl, rl⟩ := r
    cases i with
    | int j =>
      cases ri
      unfold setX at h
      simp only at h
      cases hj : ixN xs.length j with
      | none => rw [hj] at h; cases h
      | some n =>
        rw [hj] at h; cases h
        exact ⟨.lst (vs.set n v), ⟨_, rfl, rl.set rv n⟩, fun Q q => .inl ⟨a, vs, j, n, rfl, rfl, ho, by rw [rl.1]; exact hj, q⟩⟩
    | _ => cases h
  | dct kvs =>
    obtain ⟨vs, rfl, rp⟩ := r
    unfold setX at h
    simp only at h
    cases hk : keyD i with
    | none => rw [hk] at h; cases h
    | some k =>
      rw [hk] at h
      simp only at h
      by_cases hl : kvs.length < 16777216
      · rw [if_pos hl] at h; cases h
        have e := keyD_rep ri hk
        subst e
        refine ⟨.dK (putK vs k v), ⟨_, rfl, repP_put rp k rv⟩, fun Q q => .inr ⟨a, _, rfl, DPut.k ho ?_, q⟩⟩
        rw [rp.len, sizeLine_eq]; exact hl
      · rw [if_neg hl] at h; cases h
  | _ => cases h
section
variable {P : Program} {wd : World} {K : PySem.W.Frag} {mg : Str → Option Value} {base : Heap} {k : Nat} {N : List Str} {sc : SC} {W : WX}
/-- x[i] = e, x its own thing -/
def sSubO (n : Nat) (mi me : EM) : SM := fun Γ st => (me Γ st).bs Γ fun x s1 => match Γ[n]? with
  | some (.ow d) => (mi Γ s1).bs Γ fun i s2 => match setX d i x with
    | some d' => .nx (Γ.set n (.ow d')) s2
    | none => .no
  | _ => .no
theorem ps_subO (n : Nat) {y : Str} {i e : Expr} {mi me : EM} {pos pos' npos : Pos} (he : PR P wd K mg base k N sc W e me) (hi : PR P wd K mg base k N sc W i mi)
    (hN : N[n]? = some y := by rfl) (hv : Vis sc.s y := by first | exact Or.inl rfl | exact Or.inr (Or.inl rfl) | exact Or.inr (Or.inr rfl)) (hd : (y == ("__debug__" : Str)) = false := by decide) (hcd : (y == ("__classdict__" : Str)) = false := by decide)
    (ha : ∀ env v, assign (.Subscript (.Name y npos) i pos') env v = (do let ov ← holding [v] (eval (.Name y npos) env); let iv ← holding [v, ov] (eval i env); standAt pos'; holding [v, ov, iv] (setItem ov iv v); release [v, ov, iv] []) := by intro _ _; rfl)
    (hs : ∀ env, swapsWithSole [.Subscript (.Name y npos) i pos'] e pos.line env = pure false := by intro _; rfl) (hw : ∀ env, swappedStores [.Subscript (.Name y npos) i pos'] e env = pure none := by intro _; rfl) :
    PSt P wd K mg base k N sc W (.Assign [.Subscript (.Name y npos) i pos'] e pos) (sSubO n mi me) := by
  obtain ⟨te, pe, re⟩ := he
  obtain ⟨ti, pi, ri⟩ := hi
  refine ⟨tAsg te (gSub (tVar n) ti rSetX), fun X g => ps_asg (pe X g) (pg_sub (pe_var (pos := npos) (by rw [g.nn]; exact hN) (by rw [g.scp]; exact hv) hd hcd) (pi X g) (set_x (by have := g.room.un; omega)) (fun v => ha X.env v)) (hs X.env) (hw X.env), ?_⟩
  intro w0 w Γ σ e0 ok f Dn q
  refine re.useS e0 ok f q fun x v w1 e1 k1 f1 r1 x1 p1 => ?_
  split at p1
  · rename_i d hn
    obtain ⟨a, o, h1, h2, h3, h4, h5, h6⟩ := f1.ow n d hn
    refine ⟨_, h1, ?_⟩
    refine ri.useS e1 k1 f1 p1 fun i iv w2 e2 k2 f2 r2 x2 p2 => ?_
    obtain ⟨a', o', g1, g2, _, _, _, g6⟩ := f2.ow n d hn
    rw [h1] at g1; cases g1
    cases hs' : setX d i x with
    | none => rw [hs'] at p2; exact p2.elim
    | some d' =>
      rw [hs'] at p2
      obtain ⟨o2, ro, hq⟩ := setX_ok g2 g6 r2 (r1.ext x2) hs'
      obtain ⟨c1, c2, c3, c4⟩ := ow_put e2 k2 f2 hn h1 ro
      exact hq _ (p2 _ σ c1 c2 c3 rfl c4)
  · exact p1.elim
/-- o[i] = e, o of the store -/
def sSubX (mo mi me : EM) : SM := fun Γ st => (me Γ st).bs Γ fun x s1 => (mo Γ s1).bs Γ fun o s2 => (mi Γ s2).bs Γ fun i s3 => match o with
  | .ref l => match s3[l]? with
    | some d => match setX d i x with
      | some d' => .nx Γ (s3.set l d')
      | none => .no
    | none => .no
  | _ => .no
theorem ps_subX {o i e : Expr} {mo mi me : EM} {pos pos' : Pos} (he : PR P wd K mg base k N sc W e me) (ho : PR P wd K mg base k N sc W o mo) (hi : PR P wd K mg base k N sc W i mi)
    (ha : ∀ env v, assign (.Subscript o i pos') env v = (do let ov ← holding [v] (eval o env); let iv ← holding [v, ov] (eval i env); standAt pos'; holding [v, ov, iv] (setItem ov iv v); release [v, ov, iv] []) := by intro _ _; rfl)
    (hs : ∀ env, swapsWithSole [.Subscript o i pos'] e pos.line env = pure false := by intro _; rfl) (hw : ∀ env, swappedStores [.Subscript o i pos'] e env = pure none := by intro _; rfl) :
    PSt P wd K mg base k N sc W (.Assign [.Subscript o i pos'] e pos) (sSubX mo mi me) := by
  obtain ⟨te, pe, re⟩ := he
  obtain ⟨to, po, ro⟩ := ho
  obtain ⟨ti, pi, ri⟩ := hi
  refine ⟨tAsg te (gSub to ti rSetX), fun X g => ps_asg (pe X g) (pg_sub (po X g) (pi X g) (set_x (by have := g.room.un; omega)) (fun v => ha X.env v)) (hs X.env) (hw X.env), ?_⟩
  intro w0 w Γ σ e0 ok f Dn q
  refine re.useS e0 ok f q fun x v w1 e1 k1 f1 r1 x1 p1 => ?_
  refine ro.useS e1 k1 f1 p1 fun o u w2 e2 k2 f2 r2 x2 p2 => ?_
  refine ri.useS e2 k2 f2 p2 fun i y w3 e3 k3 f3 r3 x3 p3 => ?_
  have r1' := (r1.ext x2).ext x3
  cases r2 with
  | @ref l hl =>
    have hl3 : l < w3.st.length := Nat.lt_of_lt_of_le hl x3.le
    dsimp only at p3
    split at p3
    · rename_i d hd
      split at p3
      · rename_i d' hs'
        have nt : d ≠ .tomb := fun z => by rw [z] at hs'; cases hs'
        obtain ⟨ob, h1, h2, h3⟩ := k3.live hd nt (fun n z => by rw [z] at hs'; cases hs')
        obtain ⟨o2, ro2, hq⟩ := setX_ok h1 h3 r3 r1' hs'
        obtain ⟨ev, kv⟩ := put_ok (d := d') k3 hl3 h2 ro2
        rw [← x3.rho l hl]
        exact hq _ (p3 (w3.put l _ _) σ (e3.trans k3 ev) ev.ext kv rfl (f3.evo ev))
      · exact p3.elim
    · exact p3.elim
  | _ => exact p3.elim
/-! ### an own thing becomes shared: lists, dicts, objects -/
def frzX (i : Nat) (Γ : DEnv) : DEnv := match Γ[i]? with
  | some (.ow d) => Γ.set i (.sh d)
  | _ => Γ
theorem fr_as {w0 w : Wd} {Γ : DEnv} {σ : L2.St} (e0 : Evo w0 w) (k : Ok K w) (f : Fr K w0.H w Γ σ) {i : Nat} {d : D} (hi : Γ[i]? = some (.ow d)) {a : Addr} (ha : σ[i]? = some (some (.ref a))) (o' : HO)
    (rep : ∀ w' : Wd, Ext w w' → w'.M a = some o' → Rep K w' (.ref a) d) : ∃ w' : Wd, w'.H = upd w.H a o' ∧ w'.st = w.st ∧ Evo w0 w' ∧ Ext w w' ∧ Ok K w' ∧ Fr K w0.H w' (Γ.set i (.sh d)) σ := by
  obtain ⟨a', o, h1, h2, h3, h4, h5, h6⟩ := f.ow i _ hi
  rw [ha] at h1; cases h1
  have hl := getElem?_lt hi
  have x : Ext w { w with M := upd w.M a o', H := upd w.H a o' } := ⟨fun b u q => by show upd w.M a _ b = _; rw [upd_ne (ne_of_none q h3)]; exact q, fun _ _ => rfl, Nat.le_refl _⟩
  refine ⟨{ w with M := upd w.M a o', H := upd w.H a o' }, rfl, rfl, ⟨(e0.ext.trans x).mono, e0.rho, e0.le, fun b u q n => ?_, e0.newR, fun b u hb hm hr => ?_⟩, x, ⟨fun b u q => ?_, fun l d q => ?_, k.inj⟩, ⟨?_, fun j d h => ?_, fun j d h => ?_, fun y z d e b ne g1 g2 g3 => ?_⟩⟩
  · have q' : upd w.M a o' b = some u := q
    by_cases z : b = a
    · rw [z]; exact h4
    · rw [upd_ne z] at q'; exact e0.newM b u q' n
  · show upd w.H a o' b = _
    rw [upd_ne (ne_of_none hb h4)]; exact e0.keep b u hb hm hr
  · have q' : upd w.M a o' b = some u := q
    show upd w.H a o' b = _
    by_cases z : b = a
    · rw [z, upd_same] at q' ⊢; exact q'
    · rw [upd_ne z] at q' ⊢; exact k.ex b u q'
  · obtain ⟨u, g1, g2⟩ := k.sto l d q
    have ne := h5 l (getElem?_lt q)
    refine ⟨u, ?_, g2.imp id fun ⟨g2, g3⟩ => ⟨?_, g3.ext x⟩⟩
    · show upd w.H a o' (w.ρ l) = _
      rw [upd_ne ne]; exact g1
    · show upd w.M a o' (w.ρ l) = _
      rw [upd_ne ne]; exact g2
  · simp [f.len]
  · by_cases z : i = j
    · subst z
      rw [List.getElem?_set_self hl] at h; cases h
      exact ⟨_, ha, rep _ x upd_same⟩
    · rw [List.getElem?_set_ne z] at h
      obtain ⟨v, g1, g2⟩ := f.sh j d h
      exact ⟨v, g1, g2.ext x⟩
  · by_cases z : i = j
    · subst z
      rw [List.getElem?_set_self hl] at h; cases h
    · rw [List.getElem?_set_ne z] at h
      obtain ⟨b, u, g1, g2, g3, g4, g5, g6⟩ := f.ow j d h
      have nb : b ≠ a := fun q => f.dj i j _ d a z hi h ha (by rw [g1, q])
      refine ⟨b, u, g1, ?_, ?_, g4, g5, g6.ext x⟩
      · show upd w.H a o' b = _
        rw [upd_ne nb]; exact g2
      · show upd w.M a o' b = _
        rw [upd_ne nb]; exact g3
  · have ny : i ≠ y := fun q => by subst q; rw [List.getElem?_set_self hl] at g1; cases g1
    have nz : i ≠ z := fun q => by subst q; rw [List.getElem?_set_self hl] at g2; cases g2
    rw [List.getElem?_set_ne ny] at g1
    rw [List.getElem?_set_ne nz] at g2
    exact f.dj y z d e b ne g1 g2 g3
def lkS (t : TS) : TS := fun D σ H => t D σ H ∨ ∃ a kvs, H a = some (.dK kvs) ∧ ∀ od, t D σ (upd H a (.frz od (.dK kvs)))
theorem pss_lk {X : Cx} {ss : List Stmt} {t : TS} (h : PSs X ss t) : PSs X ss (lkS t) := ⟨fun pins s σ H D I q => by
  rcases q with q | ⟨a, kvs, hd, q⟩
  · exact h.run pins s σ H D I q
  · obtain ⟨od, I2⟩ := I.lock hd True.intro
    exact h.run pins s σ _ D I2 (q od)⟩
def sFrzX (i : Nat) (m : SM) : SM := fun Γ st => m (frzX i Γ) st
/-- ahead of these statements x's thing is shared -/
theorem ps_frzX (i : Nat) {ss : List Stmt} {m : SM} (h : PSl P wd K mg base k N sc W ss m) : PSl P wd K mg base k N sc W ss (sFrzX i m) := by
  obtain ⟨t, p, r⟩ := h
  refine ⟨lkS t, fun X g => pss_lk (p X g), ?_⟩
  intro w0 w Γ σ e0 ok f Dn q
  have same : frzX i Γ = Γ → lkS t Dn σ w.H := fun e => .inl (r w0 w Γ σ e0 ok f Dn (by
    have q' : PostS K w0 w (m (frzX i Γ) w.st) Dn W := q
    rw [e] at q'; exact q'))
  cases hi : Γ[i]? with
  | none => exact same (by unfold frzX; rw [hi])
  | some sl =>
    cases sl with
    | no => exact same (by unfold frzX; rw [hi])
    | sh d => exact same (by unfold frzX; rw [hi])
    | ow d =>
      have e : frzX i Γ = Γ.set i (.sh d) := by unfold frzX; rw [hi]
      have q' : PostS K w0 w (m (frzX i Γ) w.st) Dn W := q
      rw [e] at q'
      obtain ⟨a, o, h1, h2, h3, h4, h5, h6⟩ := f.ow i _ hi
      have go : ∀ o' : HO, (∀ w' : Wd, Ext w w' → w'.M a = some o' → Rep K w' (.ref a) d) → t Dn σ (upd w.H a o') := fun o' rep => by
        obtain ⟨w', g1, g2, g3, g4, g5, g6⟩ := fr_as e0 ok f hi h1 o' rep
        rw [← g1]
        exact r w0 w' _ σ g3 g5 g6 Dn (by rw [g2]; exact q'.shift g4)
      cases d with
      | lst xs =>
        obtain ⟨vs, rfl, rl⟩ := h6
        refine .inl ?_
        have := go (.lst vs) fun w' x hm => let r' := rl.ext x; .lst hm r'.1 r'.2
        rwa [upd_id h2] at this
      | ins C fs =>
        obtain ⟨dx, vs, rfl, rl⟩ := h6
        refine .inl ?_
        have := go (.ins (cA K C) dx vs) fun w' x hm => let r' := rl.ext x; .ins hm r'.1 r'.2
        rwa [upd_id h2] at this
      | dct xs =>
        obtain ⟨vs, rfl, rl⟩ := h6
        exact .inr ⟨a, vs, h2, fun od => go (.frz od (.dK vs)) fun w' x hm => let r' := rl.ext x; .dct hm r'.1 r'.2⟩
      | _ => exact h6.elim
end
end DL
/-! more statements on own things: d.pop(k) -/
namespace DL
open PySem L2
def dropD (kvs : List (Key × D)) (k : Key) : List (Key × D) := kvs.filter fun kv => decide (kv.1 ≠ k)
theorem repP_drop {K : PySem.W.Frag} {w : Wd} : ∀ {vs : List (Key × V)} {xs : List (Key × D)} (k : Key), RepP K w vs xs → RepP K w (dropK vs k) (dropD xs k)
  | vs, [], k, r => by obtain rfl := r.inv0; exact ⟨rfl, fun i v x h => by simp [dropK] at h⟩
  | vs, (k0, x) :: xs, k, r => by
    obtain ⟨v, vs', rfl, h, t⟩ := r.inv
    have ih := repP_drop k t
    unfold dropK dropD at *
    by_cases e : k0 = k
    · rw [List.filter_cons_of_neg (by simpa using e), List.filter_cons_of_neg (by simpa using e)]; exact ih
    · rw [List.filter_cons_of_pos (by simpa using e), List.filter_cons_of_pos (by simpa using e)]
      refine ⟨by rw [List.map_cons, List.map_cons, ih.1], fun i a b p q => ?_⟩
      cases i with
      | zero => simp at p q; subst p; subst q; exact h
      | succ i => exact ih.2 i a b (by simpa using p) (by simpa using q)
section
variable {P : Program} {wd : World} {K : PySem.W.Frag} {mg : Str → Option Value} {base : Heap} {k : Nat} {N : List Str} {sc : SC} {W : WX}
def sDPop (i : Nat) (mk : EM) : SM := fun Γ st => match Γ[i]? with
  | some (.ow (.dct _)) => (mk Γ st).bs Γ fun d s => match Γ[i]?, keyD d with
    | some (.ow (.dct kvs)), some q => if hasK kvs q = true then .nx (Γ.set i (.ow (.dct (dropD kvs q)))) s else .no
    | _, _ => .no
  | _ => .no
@[simp] theorem sDPop_ap {i : Nat} {mk : EM} {Γ : DEnv} {st : Store} : sDPop i mk Γ st = (match Γ[i]? with
  | some (.ow (.dct _)) => (mk Γ st).bs Γ fun d s => match Γ[i]?, keyD d with
    | some (.ow (.dct kvs)), some q => if hasK kvs q = true then .nx (Γ.set i (.ow (.dct (dropD kvs q)))) s else .no
    | _, _ => .no
  | _ => .no) := rfl
/-- d.pop(k), d a dict of the store -/
def sDPopR (mo mk : EM) : SM := fun Γ st => (mo Γ st).bs Γ fun o s1 => match o with
  | .ref l => match s1[l]? with
    | some (.dct _) => (mk Γ s1).bs Γ fun d s2 => match s2[l]?, keyD d with
      | some (.dct kvs), some q => if hasK kvs q = true then .nx Γ (s2.set l (.dct (dropD kvs q))) else .no
      | _, _ => .no
    | _ => .no
  | _ => .no
theorem ps_dpopR {o e : Expr} {mo m : EM} {pos apos cpos : Pos} (ho : PR P wd K mg base k N sc W o mo) (h : PR P wd K mg base k N sc W e m) (hm : ∀ X : Cx, M1 X o "pop" apos e cpos := by intro X; exact ⟨rfl, rfl, rfl, rfl⟩)
    (hsw : ∀ env, swapsWith (.Call (.Attribute o "pop" apos) [e] [] cpos) none pos.line env = pure false := by intro _; rfl) :
    PSt P wd K mg base k N sc W (.Expr (.Call (.Attribute o "pop" apos) [e] [] cpos) pos) (sDPopR mo m) := by
  obtain ⟨to, po, ro⟩ := ho
  obtain ⟨t, p, r⟩ := h
  refine ⟨tDrop (tDPop1 to t), fun X g => ps_expr (pe_dpop1 (po X g) (p X g) (hm X)) (hsw X.env), ?_⟩
  intro w0 w Γ σ e0 ok f Dn q
  refine ro.useS e0 ok f q fun o u w1 e1 k1 f1 r1 x1 p1 => ?_
  cases r1 with
  | @ref l hl =>
    dsimp only at p1
    split at p1
    · rename_i kvs0 hy
      obtain ⟨ob, g1, g2, g3⟩ := k1.live hy (by simp)
      obtain ⟨vs, rfl, rl⟩ := g3
      refine ⟨_, rfl, .inl ⟨vs, .inl g1⟩, ?_⟩
      refine r.useS e1 k1 f1 p1 fun d v w2 e2 k2 f2 r2 x2 p2 => ?_
      split at p2
      · rename_i kvs ky hx hk
        obtain ⟨ob, h1, h2, h3⟩ := k2.live hx (by simp)
        obtain ⟨us, rfl, ru⟩ := h3
        by_cases hh : hasK kvs ky = true
        · rw [if_pos hh] at p2
          have hs := valV_has ru ky
          rw [hh] at hs
          obtain ⟨uv, hu⟩ := Option.isSome_iff_exists.mp hs
          obtain ⟨ev, kv⟩ := put_ok (o := .dK (dropK us ky)) (d := .dct (dropD kvs ky)) k2 (getElem?_lt hx) h2 ⟨_, rfl, repP_drop ky ru⟩
          rw [← x2.rho l hl]
          exact ⟨us, ky, uv, h1, keyD_rep r2 hk, hu, p2 (w2.put l _ _) σ (e2.trans k2 ev) ev.ext kv rfl (f2.evo ev)⟩
        · rw [if_neg hh] at p2; exact p2.elim
      · exact p2.elim
    · exact p1.elim
  | _ => exact p1.elim
@[simp] theorem sDPopR_ap {mo mk : EM} {Γ : DEnv} {st : Store} : sDPopR mo mk Γ st = (mo Γ st).bs Γ fun o s1 => match o with
  | .ref l => match s1[l]? with
    | some (.dct _) => (mk Γ s1).bs Γ fun d s2 => match s2[l]?, keyD d with
      | some (.dct kvs), some q => if hasK kvs q = true then .nx Γ (s2.set l (.dct (dropD kvs q))) else .no
      | _, _ => .no
    | _ => .no
  | _ => .no := rfl
/-- something new, put into the store at once -/
def eSt (m : EM) : EM := fun Γ st => (m Γ st).bind fun d s => .ok (.ref s.length) (s ++ [d])
theorem pr_st {e : Expr} {m : EM} (h : PN P wd K mg base k N sc W e m) : PR P wd K mg base k N sc W e (eSt m) := by
  obtain ⟨t, p, r⟩ := h
  refine ⟨t, fun X g => p X g, ?_⟩
  intro H0 w Γ σ ok f Q q
  refine r H0 w Γ σ ok f _ ?_
  have p' : PostE K w ((m Γ w.st).bind _) Q (at_ W σ) := q
  cases e : m Γ w.st with
  | no => rw [e] at p'; exact p'
  | err x st => rw [e] at p'; exact fun c dd w' ev k' s r => p' c dd w' ev k' s r
  | ok d st =>
    rw [e] at p'
    intro a o w' ev k' s ha ho hm hr r
    subst s
    obtain ⟨e1, x1, k1⟩ := push_ok ev k' ha ho hm hr r
    have hq : (w'.push a d).ρ w'.st.length = a := by show (if w'.st.length = w'.st.length then a else _) = _; rw [if_pos rfl]
    have rr : Rep K (w'.push a d) (.ref ((w'.push a d).ρ w'.st.length)) (.ref w'.st.length) := .ref (by show _ < (w'.st ++ [d]).length; simp)
    rw [hq] at rr
    exact p' _ (w'.push a d) e1 k1 rfl rr
@[simp] theorem eSt_ap {m : EM} {Γ : DEnv} {st : Store} : eSt m Γ st = (m Γ st).bind fun d s => .ok (.ref s.length) (s ++ [d]) := rfl
end
end DL
/-! defs with *args -/
namespace DL
open PySem L2 PySem.Spec PyProof.Rows StX
/-- the first n arguments, then a tuple of the others -/
def starD (n : Nat) (F : DF) : DF := fun ds st => if n ≤ ds.length ∧ (ds.drop n).length ≤ 16777216 then F (ds.take n ++ [.tup (ds.drop n)]) st else .no
structure FnS (P : Program) (wd : World) (K : PySem.W.Frag) (mg : Str → Option Value) (base : Heap) (k : Nat) (x : Str) (F : DF) : Prop where
  ex : ∃ f : Addr, mg x = some (.ref f) ∧ PySem.W.keepIn K (.ref f) = true ∧ ∀ {A : Around} {outer : List PySem.Env} {s : Shared} {H : Hp} {us : List Value} {vs : List V} {Q : VK} {E : XK}, Room k A ∧ Tp A base → Env0 P wd K mg base A outer s H → Vals vs us → spD K F vs H Q E →
    codeAny (model P wd) A (.call (.ref f) ⟨us, []⟩) (CR (L2.CX P wd) outer P wd H s Q E) s
section
variable {P : Program} {wd : World} {K : PySem.W.Frag} {mg : Str → Option Value} {base : Heap} {k : Nat} {N : List Str} {sc : SC} {W : WX}
end
end DL
/-! list comprehensions with two fors -/
namespace DL
open PySem L2
section
variable {P : Program} {wd : World} {K : PySem.W.Frag} {mg : Str → Option Value} {base : Heap} {k : Nat} {N : List Str} {sc : SC} {W : WX}
end
end DL
/-! len({e for x in xs if ..}), e plain data -/
namespace DL
open PySem L2 PySem.Spec PyProof.Rows
section
variable {P : Program} {w : World} {A : Around} {E : Value → Shared → Prop} {s : Shared} {a : Addr}
end
section
variable {X : Cx}
end
section
variable {P : Program} {wd : World} {K : PySem.W.Frag} {mg : Str → Option Value} {base : Heap} {k : Nat} {N : List Str} {sc : SC} {W : WX}
end
end DL
/-! y = {k: v for ..} on one line -/
namespace DL
open PySem L2
section
variable {P : Program} {wd : World} {K : PySem.W.Frag} {mg : Str → Option Value} {base : Heap} {k : Nat} {N : List Str} {sc : SC} {W : WX}
end
end DL
/-! a, b = e, e a value -/
namespace DL
open PySem L2
section
variable {P : Program} {wd : World} {K : PySem.W.Frag} {mg : Str → Option Value} {base : Heap} {k : Nat} {N : List Str} {sc : SC} {W : WX}
end
section
variable {Γ Γ' : DEnv} {st s : Store} {w : Ws} {m : EM} {g : GM}
end
end DL
/-! list(d.items()), sorted(d.items()), list(d.values()) -/
namespace DL
open PySem L2 PySem.Spec PyProof.Rows LiI
section
variable {X : Cx} {e : Expr} {te : TE} {p apos cpos pos : Pos}
/-- the items of a dict, as tuples in its order -/
def rItemsR : V → Hp → VK → Prop := fun x H Q => ∃ (d : Addr) (kvs : List (Key × V)), x = .ref d ∧ Rd H d (.dK kvs) ∧
  ∀ (H' : Hp) (p : Addr) (ts : List Addr), (∀ b o, H b = some o → H' b = some o) → H p = none → (∀ t ∈ ts, H t = none) → p ∉ ts → H' p = some (.lst (ts.map V.ref)) → Paired (fun (t : Addr) (q : Key × V) => H' t = some (.tup [kV q.1, q.2])) ts kvs → Q (.ref p) H'
def tListItemsR (te : TE) : TE := fun σ H Q => te σ H fun x H1 => rItemsR x H1 Q
theorem pe_listItemsR (hc : X.calm = true) (he : PE X e te) (hg : Gl X "list") (hm : X.mg "list" = none) (hv : bootBuiltins "list" = some (.type "list") := by decide +kernel) (hbase : attributeBase e "items" X.env (eval e X.env) = eval e X.env := by rfl) (hline : (apos.endLine == cpos.line) = true := by rfl)
    (hs : starEach [.Call (.Attribute e "items" apos) [] [] cpos] X.env = (false, eval (.Call (.Attribute e "items" apos) [] [] cpos) X.env) :: starEach [] X.env := by rfl) :
    PE X (.Call (.Name "list" p) [.Call (.Attribute e "items" apos) [] [] cpos] [] pos) (tListItemsR te) := by
  refine ⟨fun pins s σ H Q I hq => ?_⟩
  refine wpAny_Call_Name_kw (ld_blt I hg hm hv ?_)
  refine PyProof.Rows.callWith_type1 ?_ hs rfl
  rw [hs]
  show wpAny _ _ (spliced ((false, eval (.Call (.Attribute e "items" apos) [] [] cpos) X.env) :: backTo pos (starEach [] X.env))) _ _ s
  refine Calls.spliced_cons ?_
  refine wpAny_Call_method (T := "dict") (id := "dict.items") hbase rfl hline F.plainAttrs_dict F.slot_dict_items F.type_dict_items (thn (he.run pins s σ H _ I hq) fun u s1 ⟨x, H1, I1, rx, d, kvs, ex, hd, q⟩ => ?_)
  subst ex
  obtain rfl : u = Value.ref d := rx
  obtain ⟨hz, hs0, vs, kv, hdo⟩ := dk_rd I1.hok hd
  obtain ⟨ep, hat⟩ := hdo.dictAt
  have lk : kvs.length = vs.length := Paired.length kv
  have I2 : Inv X pins σ H1 { s1 with heap := s1.heap.push { cls := .type "dict_items", data := .fields #[.ref d] } } := I1.kept (t' := s1.toks) fun b ob q => Heap.get?_push_of_some _ q
  refine ⟨hdo.typeIs, hdo.mapOf.noDict, ?_⟩
  show wpAny _ _ (callWith cpos (.builtin "dict.items") [.ref d] [] []) _ X.xe s1
  refine method_meetsIn F.slot_dict_items F.entry_dict_items rfl (PySem.evalArgs_none ⟨rfl, hdo.typeIs, F.args_dict_items_1 _, _, meets_dict_items (mixKind X.prog X.w) d hs0, ⟨vs, hdo⟩, ?_⟩)
  refine Calls.spliced_nil ?_
  refine PySem.W.kdx_call (knd := mixKind X.prog X.w) (kvs := vs) (ep := ep) (I1.ok.hd hc) ⟨_, Heap.get?_push_size _ rfl, rfl, rfl⟩ (hat.push _) (by omega) fun h' tk acc c as hk hS hl hG hacc => ?_
  obtain ⟨H', k1, k2, k3, k4, k5, k6, J⟩ := items_laid (tk := tk) I2 hz kv hk hS hl hG hacc
  exact ⟨.ref _, H', J, rfl, q H' _ as k1 k2 k3 k4 k5 k6⟩
/-! ### sorted(d.items()): texts to texts -/
def encP (b : Str × Str) : PyData := .tuple [.str b.1, .str b.2]
/-- in the order of the first -/
def srtP (bs : List (Str × Str)) : List (Str × Str) := bs.mergeSort (PySem.W.dataLe false encP)
end
section
variable {X : Cx} {e : Expr} {te : TE} {p apos cpos pos : Pos}
def kvP (b : Str × Str) : Key × V := (.inr b.1, .str b.2)
def rSortItems : V → Hp → VK → Prop := fun x H Q => ∃ (d : Addr) (bs : List (Str × Str)), x = .ref d ∧ Rd H d (.dK (bs.map kvP)) ∧
  ∀ (H' : Hp) (p : Addr) (ts : List Addr), (∀ b o, H b = some o → H' b = some o) → H p = none → (∀ t ∈ ts, H t = none) → p ∉ ts → H' p = some (.lst (ts.map V.ref)) → Paired (fun (t : Addr) (q : Str × Str) => H' t = some (.tup [.str q.1, .str q.2])) ts (srtP bs) → Q (.ref p) H'
def tSortItems (te : TE) : TE := fun σ H Q => te σ H fun x H1 => rSortItems x H1 Q
/-- a tuple's object at v reads as the pair b -/
def IsP (h : Heap) (Hh : Hp) (as : List Addr) (v : Value) (b : Str × Str) : Prop := ∃ t tk tj, v = .ref t ∧ t ∈ as ∧ Hh t = some (.tup [.str b.1, .str b.2]) ∧ h.get? t = some { cls := .type "tuple", data := .seq #[.str b.1 tk, .str b.2 tj] }
end
end DL
namespace DL
open PySem L2
section
variable {P : Program} {wd : World} {K : PySem.W.Frag} {mg : Str → Option Value} {base : Heap} {k : Nat} {N : List Str} {sc : SC} {W : WX}
/-! ### a, b = x, y -/
def sPar (i j : Nat) (ms : EM) : SM := fun Γ st => (ms Γ st).bs Γ fun d s => match d with
  | .tup [x, y] => .nx ((Γ.set i (.sh x)).set j (.sh y)) s
  | _ => .no
theorem rtas_useS {t : TA} {m : EM} (h : RTA K W t m) {w0 w : Wd} {Γ : DEnv} {σ : L2.St} (e0 : Evo w0 w) (k : Ok K w) (f : Fr K w0.H w Γ σ) {Q : List V → Hp → Prop} {Dn : Ends} {g : D → Store → SR}
    (gn : ∀ d st, (∀ ds, d ≠ .tup ds) → g d st = .no) (p : PostS K w0 w ((m Γ w.st).bs Γ g) Dn W) (q : ∀ ds vs w', Evo w0 w' → Ok K w' → Fr K w0.H w' Γ σ → RepL K w' vs ds → Ext w w' → PostS K w0 w' (g (.tup ds) w'.st) Dn W → Q vs w'.H) : t σ w.H Q := by
  refine h w0.H w Γ σ k f Q ?_
  cases e : m Γ w.st with
  | ok d st =>
    rw [e] at p
    cases d with
    | tup ds => exact fun vs w' ev k' s r => q ds vs w' (e0.trans k ev) k' (f.evo ev) r ev.ext (by subst s; exact p.shift ev.ext)
    | _ => rw [ok_bs, gn _ _ (fun b z => by cases z)] at p; exact p
  | err x st => rw [e] at p; exact fun c dd w' ev k' s r => p c dd w' σ (e0.trans k ev) ev.ext k' s (f.evo ev) r
  | no => rw [e] at p; exact p
theorem ps_par' (i j : Nat) {x y : Str} {a b : Expr} {ms : EM} {px py pt pt2 pos : Pos} {kt k2 : Nat} (nd : N.Nodup) (h : PAr P wd K mg base k N sc W [a, b] ms) (hi : N[i]? = some x := by rfl) (hj : N[j]? = some y := by rfl) (hij : i ≠ j := by decide) (hx : sc.s.names.lookup x = some .local := by rfl) (hy : sc.s.names.lookup y = some .local := by rfl)
    (hw : ∀ env, env.scope = sc.s → swappedStores [.Tuple [.Name x px, .Name y py] kt pt] (.Tuple [a, b] k2 pt2) env = pure (some [x, y])) :
    PSt P wd K mg base k N sc W (.Assign [.Tuple [.Name x px, .Name y py] kt pt] (.Tuple [a, b] k2 pt2) pos) (sPar i j ms) := by
  obtain ⟨t, p, r⟩ := h
  refine ⟨tPar i j t, fun X g => ps_par g.calm (by rw [g.nn]; exact nd) (by rw [g.nn]; exact hi) (by rw [g.nn]; exact hj) hij (by rw [g.scp]; exact hx) (by rw [g.scp]; exact hy) (p X g) (hw X.env g.scp), ?_⟩
  intro w0 w Γ σ e0 ok f Dn q
  refine rtas_useS r e0 ok f (fun d st hd => by cases d <;> first | rfl | exact absurd rfl (hd _)) q fun ds vs w1 e1 k1 f1 r1 x1 p1 => ?_
  match ds, r1, p1 with
  | [dx, dy], r1, p1 =>
    obtain ⟨v, us, rfl, rv, ru⟩ := r1.inv
    obtain ⟨v2, us2, rfl, rv2, ru2⟩ := ru.inv
    rw [ru2.inv0]
    exact ⟨v, v2, rfl, p1 w1 _ e1 (Ext.refl w1) k1 rfl (fr_set (fr_set f1 rv i) rv2 j)⟩
def sPar3 (i j l : Nat) (ms : EM) : SM := fun Γ st => (ms Γ st).bs Γ fun d s => match d with
  | .tup [x, y, z] => .nx (((Γ.set i (.sh x)).set j (.sh y)).set l (.sh z)) s
  | _ => .no
end
end DL
namespace DL
open PySem L2
/-! ### raise -/
section
variable {P : Program} {wd : World} {K : PySem.W.Frag} {mg : Str → Option Value} {base : Heap} {k : Nat} {N : List Str} {sc : SC} {W : WX}
end
end DL
/-! == and != by an own __eq__ -/
namespace DL
open PySem L2 PySem.W
section
variable {prog : Program} {w : World} {A : Around} {E : Value → Shared → Prop} {s : Shared} {K : Frag} {x C L f : Addr} {h₀ : Heap} {m : Str → Option Value} {ox : Obj} {od : Option Obj} {b tb : Value}
theorem neBound {args : List Value} {Q : Option Value → Shared → Prop} (X : K.In s.heap) (I : InstAt s.heap x ox C od) (hs : findIn K (.ref C) "__ne__" = some (some (.builtin "object.__ne__")))
    (h : wpAny (model prog w) A (call (.builtin "object.__ne__") (.ref x :: args)) (fun v => Q (some v)) E s) : wpAny (model prog w) A (callSpecialIfBound? (.ref x) "__ne__" args) Q E s := by
  simp only [callSpecialIfBound?, bindSpecialIfBound?]
  refine wpAny_holding (wpAny_bind (wpAny_bind (wpAny_bind (I.type.here ((looks_findIn X hs).here ?_)))))
  simp only [F.cmp_object.ne.bind]
  refine wpAny_bind (wpAny_askSetting (wpAny_ite ?_))
  have fin : wpAny (model prog w) A (call (.builtin "object.__ne__") ([.ref x] ++ args) >>= fun v => pure (some v)) Q E s := wpAny_bind (wpAny_mono h (fun v s' h' => wpAny_pure h') fun _ _ h' => h')
  split
  · exact wpAny_bind (wpAny_pure (wpAny_pure (by exact fin)))
  · exact wpAny_tryCatch (wpAny_bind (wpAny_pure (wpAny_pure (by exact fin))))
theorem neCheck {Q : Unit → Shared → Prop} (X : K.In s.heap) (I : InstAt s.heap x ox C od) (hm : subIn K (.ref C) (.type "object") = some true) (hq : Q () s) :
    wpAny (model prog w) A (checkBuiltinCall "object.__ne__" ⟨[.ref x, b], []⟩) Q E s := by
  have ha := F.cmpArgs_ne (.ref x) b
  simp only [checkBuiltinCall, F.cmpKind_ne, F.cmpSplit_ne]
  unfold isInstance
  refine wpAny_bind (wpAny_bind (I.type.here ((looks_subIn X hm).here ?_)))
  simp only [Bool.not_true, Bool.false_eq_true, if_false]
  cases hsig : Manifest.signature? "object.__ne__" with
  | none => exact wpAny_pure hq
  | some sig =>
    simp only [argsOk, hsig] at ha
    have h2 : Bind.checkArgs "object.__ne__" sig ⟨[.ref x, b], []⟩ = pure () := ha
    show wpAny _ A (Bind.checkArgs "object.__ne__" sig ⟨[.ref x, b], []⟩) Q E _
    rw [h2]; exact wpAny_pure hq
def NeBack (Q : Value → Shared → Prop) (v : Value) (s' : Shared) : Prop := ∃ r, v = .bool r ∧ Q (.bool !r) s'
theorem ne_own {Q : Value → Shared → Prop} (hu : A.units + 1 < cLine) (X : K.In s.heap) (I : InstAt s.heap x ox C od) (hb : Looks (model prog w) s.heap (typeOf b) tb) (hn : notFirst K C tb = true)
    (hs : findIn K (.ref C) "__eq__" = some (some (.ref f))) (hf : isFn K (.ref f) = true) (hne : findIn K (.ref C) "__ne__" = some (some (.builtin "object.__ne__"))) (hm : subIn K (.ref C) (.type "object") = some true)
    (h : wpAny (model prog w) A.in1 (call (.ref f) [.ref x, b]) (NeBack Q) E s) : wpAny (model prog w) A (richCompare .NotEq (.ref x) b) Q E s := by
  have hu0 : A.units < cLine := by omega
  have body : ∀ (Post : Fin → Shared → Prop), (∀ r s', Q (.bool !r) s' → Post (.done (.ret (.bool !r))) s') → wpAny (model prog w) A.in1 (Builtin.«object.__ne__» ⟨[.ref x, b], []⟩) Post E s := by
    intro Post hp
    unfold Builtin.«object.__ne__»
    repeat (first | with_reducible refine wpAny_cRoomFor hu ?_ | (with_reducible refine wpAny_bind (ifBound_K X I hs hf (wpAny_mono h (fun v s' hv => ?_) fun _ _ e => e))) | wp_step)
    obtain ⟨r, rfl, q⟩ := hv
    dsimp only
    exact wpAny_bind (wpAny_truthy_bool (wpAny_pure (hp r s' q)))
  have one : wpAny (model prog w) A (tryCompare (.ref x) "__ne__" b) (fun r s' => ∃ v, r = some v ∧ Q v s') E s := by
    unfold tryCompare
    refine wpAny_bind (neBound X I hne ?_)
    refine wpAny_call (codeAny_call_builtin F.cmp_object.ne.plain F.cmpEntry_ne (neCheck X I hm ?_))
    refine body _ fun r s' q => ?_
    dsimp only
    exact wpAny_pure ⟨_, rfl, q⟩
  unfold richCompare
  simp only [oneThing_ref]
  refine wpAny_holding (wpAny_bind (wpAny_cRoomFor hu0 ?_))
  refine wpAny_bind (I.type.here (wpAny_bind (hb.here ?_)))
  split
  · rename_i q
    have e : subIn K tb (.ref C) = some false := by
      rcases Bool.or_eq_true_iff.mp hn with e | e
      · rw [beq_iff_eq.mp e] at q; simp at q
      · exact beq_iff_eq.mp e
    refine wpAny_bind ((looks_subIn X e).here ?_)
    simp only [Bool.false_eq_true, if_false]
    refine wpAny_bind (wpAny_mono one (fun r s' z => ?_) fun _ _ e => e)
    obtain ⟨v, rfl, hq⟩ := z
    exact wpAny_pure hq
  · refine wpAny_bind (wpAny_pure ?_)
    simp only [Bool.false_eq_true, if_false]
    refine wpAny_bind (wpAny_mono one (fun r s' z => ?_) fun _ _ e => e)
    obtain ⟨v, rfl, hq⟩ := z
    exact wpAny_pure hq
end
/-! ### over data -/
/-- what is known of a class with an own ==: the others in os may stand at the right -/
structure EqOK (P : Program) (wd : World) (K : PySem.W.Frag) (mg : Str → Option Value) (base : Heap) (k : Nat) (C : String) (os : List String) (F : DF) : Prop where
  ex : ∃ (f : Addr) (fd : FuncData) (ps : List Str), FnG P wd K mg base k f fd ps (spD K F) ∧ Binds K fd ps [] ∧ findIn K (.ref (cA K C)) "__eq__" = some (some (.ref f)) ∧ isFn K (.ref f) = true
  ne : findIn K (.ref (cA K C)) "__ne__" = some (some (.builtin "object.__ne__"))
  ob : subIn K (.ref (cA K C)) (.type "object") = some true
  nf : ∀ D ∈ os, notFirst K (cA K C) (.ref (cA K D)) = true
abbrev ETab := List (String × List String × DF)
def rOwn (K : PySem.W.Frag) (ne : Bool) (tab : ETab) : R2 := fun x y H Q => ∃ p ∈ tab, ∃ a b D dx dy fs gs, x = .ref a ∧ y = .ref b ∧ D ∈ p.2.1 ∧ H a = some (.ins (cA K p.1) dx fs) ∧ H b = some (.ins (cA K D) dy gs) ∧
  spD K p.2.2 [x, y] H (fun v H' => ∃ r : Bool, v = .bl r ∧ Q (.bl (if ne = true then !r else r)) H') fun _ _ _ => False
def eEqO (ne : Bool) (tab : ETab) (ma mb : EM) : EM := fun Γ st => (ma Γ st).bind fun x s1 => (mb Γ s1).bind fun y s2 => match deref s2 x, deref s2 y with
  | .ins C _, .ins D _ => (match tab.lookup C with
    | some (os, F) => if D ∈ os then (match F [x, y] s2 with | .ok (.bl r) s3 => .ok (.bl (if ne = true then !r else r)) s3 | _ => .no) else .no
    | none => .no)
  | _, _ => .no
section
variable {P : Program} {wd : World} {K : PySem.W.Frag} {mg : Str → Option Value} {base : Heap} {k : Nat} {N : List Str} {sc : SC} {W : WX}
theorem rt_eqO {ne : Bool} {tab : ETab} {ta tb : TE} {ma mb : EM} (ra : RT K W ta ma) (rb : RT K W tb mb) : RT K W (tOp (rOwn K ne tab) ta tb) (eEqO ne tab ma mb) := by
  intro H0 w Γ σ ok f0 Q p
  refine ra.use ok f0 (P := fun w r => PostE K w r Q (at_ W σ)) (fun _ _ e k p => p.shift e k) (fun _ _ p => p) (fun p => p) p fun dx x w1 e1 k1 f1 rx p1 => ?_
  refine rb.use k1 f1 (P := fun w r => PostE K w r Q (at_ W σ)) (fun _ _ e k p => p.shift e k) (fun _ _ p => p) (fun p => p) p1 fun dy y w2 e2 k2 f2 ry p2 => ?_
  have vx := (rx.evo e2).vw k2
  have vy := ry.vw k2
  cases hx : deref w2.st dx with
  | ins C fs =>
    cases hy : deref w2.st dy with
    | ins D gs =>
      rw [hx] at vx p2
      rw [hy] at vy p2
      dsimp only at p2
      cases hF : tab.lookup C with
      | none => rw [hF] at p2; exact p2.elim
      | some q =>
        obtain ⟨os, F⟩ := q
        rw [hF] at p2
        dsimp only at p2
        by_cases hD : D ∈ os
        · rw [if_pos hD] at p2
          obtain ⟨a, da, us, rfl, ha, _⟩ := vx
          obtain ⟨b, db, vs, rfl, hb, _⟩ := vy
          refine ⟨(C, os, F), lookup_mem hF, a, b, D, da, db, us, vs, rfl, rfl, hD, ha, hb, w2, [dx, dy], rfl, k2, .cons (rx.evo e2) (.cons ry .nil), ?_⟩
          show PostE K w2 (F [dx, dy] w2.st) _ _
          cases hr : F [dx, dy] w2.st with
          | ok d s2 =>
            rw [hr] at p2
            cases d with
            | bl r =>
              intro v w3 e3 k3 s3 rv
              cases rv
              exact ⟨r, rfl, p2 _ w3 e3 k3 s3 .bl⟩
            | _ => exact p2.elim
          | err x s2 => rw [hr] at p2; exact p2.elim
          | no => rw [hr] at p2; exact p2.elim
        · rw [if_neg hD] at p2; exact p2.elim
    | _ => rw [hx, hy] at p2; exact p2.elim
  | _ => rw [hx] at p2; exact p2.elim
theorem op_own {ne : Bool} {op : CmpOp} (hop : op = if ne = true then .NotEq else .Eq) {j : Nat} {tab : ETab} (T : ∀ p ∈ tab, EqOK P wd K mg base j p.1 p.2.1 p.2.2) (hk : j + 1 ≤ k) : ∀ X, G P wd K mg base k N sc W X → OpR X (compareOp op) (rOwn K ne tab) := by
  intro X g pins s σ H x y v u Q I rx ry hq
  obtain ⟨p, hp, a, b, D, da, db, fs, gs, rfl, rfl, hD, ha, hb, hq⟩ := hq
  obtain ⟨⟨f, fd, ps, F, bd, hs, hf⟩, hne, hob, hnf⟩ := T p hp
  obtain ⟨rfl, rfl, rfl, rfl, rfl, rfl, hsc, hc, hr, hgd, tk, _, _⟩ := g
  cases rx
  cases ry
  obtain ⟨mA, J, _⟩ := ins_get I.hok ha
  obtain ⟨mB, J', _⟩ := ins_get I.hok hb
  obtain ⟨od, J, _⟩ := J.look
  obtain ⟨od', J', _⟩ := J'.look
  have r2 : Vals [V.ref a, V.ref b] [Value.ref a, Value.ref b] := .cons rfl (.cons rfl .nil)
  have hl := F.len _ _ _ _ hq
  have bdd := bd s [.ref a, .ref b] I.kIn (by simpa using hl)
  rw [List.append_nil] at bdd
  cases ne with
  | false =>
    subst hop
    show wpAny (model X.prog X.w) X.A (richCompare .Eq _ _) _ _ _
    obtain ⟨m, hF⟩ := I.fr
    refine PySem.W.cmp_K (op := .Eq) (tb := .ref (cA X.K D)) (by have := hr.un; omega) hF I.ok.mod.kin J J'.type (hnf D hD) hs hf ?_
    refine wpAny_call (codeAny_mono (F.go (A := X.A) (outer := X.stack) ⟨hr.mono (by omega), hgd⟩ I.env0 bdd r2 hq) fun r s' hq' => ?_)
    cases r with
    | error er => obtain ⟨_, _, _, _, _, _, _, _, _, _, _, _, _, _, _, _, z⟩ := hq'
    | ok fl =>
      cases fl with
      | ret u =>
        obtain ⟨v, H', I3, rv, r, ev, q3⟩ := I.after hq'
        subst ev
        cases rv
        exact ⟨.bl r, H', I3, rfl, q3⟩
      | next => exact False.elim hq'
      | brk => exact False.elim hq'
      | cont => exact False.elim hq'
  | true =>
    subst hop
    show wpAny (model X.prog X.w) X.A (richCompare .NotEq _ _) _ _ _
    refine ne_own (tb := .ref (cA X.K D)) (by have := hr.un; omega) I.kIn J J'.type (hnf D hD) hs hf hne hob ?_
    refine wpAny_call (codeAny_mono (F.go (A := X.A.in1) (outer := X.stack) ⟨(hr.mono hk).in1, hgd⟩ I.env0.in1 bdd r2 hq) fun r s' hq' => ?_)
    cases r with
    | error er => obtain ⟨_, _, _, _, _, _, _, _, _, _, _, _, _, _, _, _, z⟩ := hq'
    | ok fl =>
      cases fl with
      | ret u =>
        obtain ⟨v, H', I3, rv, r, ev, q3⟩ := I.after hq'
        subst ev
        cases rv
        exact ⟨r, rfl, .bl (!r), H', I3, rfl, q3⟩
      | next => exact False.elim hq'
      | brk => exact False.elim hq'
      | cont => exact False.elim hq'
theorem pt_eqO {op : CmpOp} (ne : Bool) {j : Nat} {tab : ETab} {a b : Expr} {ma mb : EM} {pos : Pos} (T : ∀ p ∈ tab, EqOK P wd K mg base j p.1 p.2.1 p.2.2) (ha : PR P wd K mg base k N sc W a ma) (hb : PR P wd K mg base k N sc W b mb) (hk : j + 1 ≤ k := by omega)
    (hop : op = if ne = true then .NotEq else .Eq := by rfl) (hm : behindInMarks op b = false := by first | exact nomark _ | rfl) : PTt P wd K mg base k N sc W (.Compare a [op] [b] pos) (eEqO ne tab ma mb) := by
  obtain ⟨ta, pa, ra⟩ := ha
  obtain ⟨tb, pb, rb⟩ := hb
  exact ⟨_, fun X g => pt_cmpR (op_own hop T hk X g) (pa X g) (pb X g) hm, rtt_test (rt_eqO ra rb)⟩
theorem eqOK {C : String} {os : List String} {f : Addr} {F : DF} {i : Nat} (h : findIn K (.ref (cA K C)) "__eq__" = some (some (.ref f)) ∧ isFn K (.ref f) = true) (ne : findIn K (.ref (cA K C)) "__ne__" = some (some (.builtin "object.__ne__"))) (ob : subIn K (.ref (cA K C)) (.type "object") = some true)
    (nf : ∀ D ∈ os, notFirst K (cA K C) (.ref (cA K D)) = true) (a : FnA P wd K mg base i f F) (hi : i ≤ k := by omega) : EqOK P wd K mg base k C os F :=
  let ⟨fd, ps, a, b⟩ := a.ex; ⟨⟨f, fd, ps, a.mono hi, b, h.1, h.2⟩, ne, ob, nf⟩
end
end DL
namespace DL
open PySem L2 PySem.W
theorem all_nilE {R : String × List String × DF → Prop} : ∀ p ∈ ([] : ETab), R p := fun _ h => by simp at h
theorem all_consE {R : String × List String × DF → Prop} {p : String × List String × DF} {tab : ETab} (h : R p) (t : ∀ p ∈ tab, R p) : ∀ q ∈ p :: tab, R q := fun q hq => by
  rcases List.mem_cons.mp hq with rfl | hq
  · exact h
  · exact t q hq
@[simp] theorem eEqO_ap {ne : Bool} {tab : ETab} {ma mb : EM} {Γ : DEnv} {st : Store} : eEqO ne tab ma mb Γ st = (ma Γ st).bind fun x s1 => (mb Γ s1).bind fun y s2 => match deref s2 x, deref s2 y with
  | .ins C _, .ins D _ => (match tab.lookup C with
    | some (os, F) => if D ∈ os then (match F [x, y] s2 with | .ok (.bl r) s3 => .ok (.bl (if ne = true then !r else r)) s3 | _ => .no) else .no
    | none => .no)
  | _, _ => .no := rfl
/-! ### isinstance by own classes -/
/-- what TyX asks of an own class -/
structure InsQ (K : PySem.W.Frag) (C : Addr) : Prop where
  cl : Cls K C
  ha : findIn K (.ref C) "__class__" = some (some (.builtin "object.__class__"))
  hn : specialIn K (.builtin "object.__class__") "__get__" = some (some (.builtin "getset_descriptor.__get__"))
  tk : takesIn K (.builtin "object.__class__") = some true
  hm : mroIn K C (.type "object") = some true
/-- a class that is asked for -/
structure AskQ (K : PySem.W.Frag) (C : Addr) : Prop where
  ic : isClsIn K C = true
  ty : typeIn K (.ref C) = some (.type "type")
  ss : subIn K (.ref C) (.ref C) = some true
def builtN : List String := ["NoneType", "bool", "int", "str", "list", "tuple", "dict"]
structure NoBt (K : PySem.W.Frag) (C : Addr) : Prop where
  non : subIn K (.type "NoneType") (.ref C) = some false
  bl : subIn K (.type "bool") (.ref C) = some false
  int : subIn K (.type "int") (.ref C) = some false
  str : subIn K (.type "str") (.ref C) = some false
  lst : subIn K (.type "list") (.ref C) = some false
  tup : subIn K (.type "tuple") (.ref C) = some false
  dct : subIn K (.type "dict") (.ref C) = some false
theorem NoBt.of {K : PySem.W.Frag} {C : Addr} (h : NoBt K C) {d : DL.D} {T : String} (e : tyN d = some T) : subIn K (.type T) (.ref C) = some false := by
  cases d <;> cases e
  · exact h.non
  · exact h.bl
  · exact h.int
  · exact h.str
  · exact h.tup
  · exact h.lst
  · exact h.dct
abbrev ITab := List (String × List (String × Bool))
structure IsOK (K : PySem.W.Frag) (C : String) (own : List (String × Bool)) : Prop where
  ask : AskQ K (cA K C)
  bt : NoBt K (cA K C)
  own : ∀ p ∈ own, InsQ K (cA K p.1) ∧ subIn K (.ref (cA K p.1)) (.ref (cA K C)) = some p.2
def bIsiO (tab : ITab) : List DL.D → Store → ER
  | [x, .cls C], st => match tab.lookup C with
    | some own => (match x with
      | .ins D _ => (match own.lookup D with | some b => .ok (.bl b) st | none => .no)
      | x => (match tyN x with | some _ => .ok (.bl false) st | none => .no))
    | none => .no
  | _, _ => .no
theorem kit_own {K : PySem.W.Frag} {t : Value} {C : Addr} {b : Bool} (a : AskQ K C) (h : subIn K t (.ref C) = some b) : kitOne K t (.ref C) = some b := by
  unfold kitOne
  by_cases e : (t == .ref C) = true
  · rw [if_pos e]
    have := eq_of_beq e
    subst this
    rw [a.ss] at h; exact h
  · rw [if_neg e]
    unfold kitCls
    have h1 : (clsIn K C).isSome = true := a.ic
    have : ((clsIn K C).isSome && typeIn K (.ref C) == some (.type "type")) = true := by rw [h1, a.ty]; rfl
    dsimp only
    rw [if_pos this]; exact h
section
variable {P : Program} {wd : World} {K : PySem.W.Frag} {mg : Str → Option Value} {base : Heap} {k : Nat} {N : List Str} {sc : SC} {W : WX}
theorem cd_isiO {tab : ITab} (T : ∀ p ∈ tab, IsOK K p.1 p.2) : CallD K (rIsi K) (bIsiO tab) := fun w vs ds Q E k v p => by
  unfold bIsiO at p
  split at p
  · rename_i x C
    obtain ⟨a, c, rfl, va, vc⟩ := v.two
    obtain rfl := vc
    cases hT : tab.lookup C with
    | none => rw [hT] at p; exact p.elim
    | some own =>
      rw [hT] at p
      dsimp only at p
      have ok := T _ (lookup_mem hT)
      cases x with
      | ins D fs =>
        dsimp only at p
        cases hb : own.lookup D with
        | none => rw [hb] at p; exact p.elim
        | some b =>
          rw [hb] at p
          obtain ⟨q, hs⟩ := ok.own _ (lookup_mem hb)
          obtain ⟨r, dx, us, rfl, m, _⟩ := va
          exact ⟨.ref r, _, .ref (cA K D), _, b, rfl, .own _, .base (.ins m q.cl q.ha q.hn q.tk q.hm), kit_own ok.ask hs, p.now k .bl⟩
      | _ =>
        dsimp only at p
        split at p
        · rename_i T' hT'
          exact ⟨a, _, _, _, false, rfl, .own _, ty_vw va hT', kit_own ok.ask (ok.bt.of hT'), p.now k .bl⟩
        · exact p.elim
  · exact p.elim
theorem pr_isiO {tab : ITab} {e1 e2 : Expr} {ms : EM} {p pos : Pos} (T : ∀ p ∈ tab, IsOK K p.1 p.2) (hm : mg "isinstance" = none) (ha : PAb P wd K mg base k N sc W [e1, e2] ms) (hg : sc.s.names.lookup ("isinstance" : Str) = some .globalImplicit := by rfl) (he : ∀ env, starEach [e1, e2] env = (false, eval e1 env) :: starEach [e2] env := by intro _; rfl)
    (hpl : ∀ env, (backTo pos (starEach [e2] env)).any (·.1) = false := by intro _; rfl) :
    PR P wd K mg base k N sc W (.Call (.Name "isinstance" p) [e1, e2] [] pos) (eB (bIsiO tab) ms) :=
  pr_B (id := "isinstance") (fun X g => by have := call_isi (X := X); rw [g.kk] at this; exact this) (cd_isiO T) hm (by decide +kernel) ha hg (by decide) (by decide) he hpl
end
theorem all_nilI {R : String × List (String × Bool) → Prop} : ∀ p ∈ ([] : ITab), R p := fun _ h => by simp at h
theorem all_consI {R : String × List (String × Bool) → Prop} {p : String × List (String × Bool)} {tab : ITab} (h : R p) (t : ∀ p ∈ tab, R p) : ∀ q ∈ p :: tab, R q := fun q hq => by
  rcases List.mem_cons.mp hq with rfl | hq
  · exact h
  · exact t q hq
theorem all_nilB {R : String × Bool → Prop} : ∀ p ∈ ([] : List (String × Bool)), R p := fun _ h => by simp at h
theorem all_consB {R : String × Bool → Prop} {p : String × Bool} {tab : List (String × Bool)} (h : R p) (t : ∀ p ∈ tab, R p) : ∀ q ∈ p :: tab, R q := fun q hq => by
  rcases List.mem_cons.mp hq with rfl | hq
  · exact h
  · exact t q hq
end DL
/-! == and != of dicts, both answers -/
namespace DL
open PySem L2
section
variable {X : Cx} {pins : List (Addr × Obj)} {σ : L2.St} {H : Hp} {s : Shared} {K : PySem.W.Frag} {w : Wd}
theorem dct_of (I : Inv X pins σ H s) {a : Addr} {vs : List (Key × V)} (h : Rd H a (.dK vs)) : ∃ us, KV vs us ∧ s.heap.DictOf (mixKind X.prog X.w) a us ∧ (a == sysModules) = false := by
  obtain ⟨_, hne, us, kv, d⟩ := dk_rd I.hok h
  exact ⟨us, kv, d, hne⟩
/-- the pairs of a, one by one, in b -/
def dctEq (kb : List (Key × D)) : List (Key × D) → Option Bool
  | [] => some true
  | (k, v) :: r => match valD kb k with
    | none => some false
    | some u => match pyEq v u, dctEq kb r with
      | some e, some b => some (e && b)
      | _, _ => none
def dEqX (x y : D) : Option Bool := match x, y with
  | .dct a, .dct b => if a.length = b.length then dctEq b a else some false
  | x, y => dEq x y
def oEqX : D → D → Store → ER := fun x y st => match dEqX x y with
  | some b => .ok (.bl b) st
  | none => .no
def oNeX : D → D → Store → ER := fun x y st => match dEqX x y with
  | some b => .ok (.bl !b) st
  | none => .no
theorem pyEq_at (I : Inv X pins σ w.H s) (k : Ok X.K w) {A : Around} (hu : A.units + 64 < cLine) {d e : D} {v u : V} {x y : Value} {b : Bool} (rv : Rep X.K w v d) (ru : Rep X.K w u e) (h : pyEq d e = some b) (rx : RelV v x) (ry : RelV u y) : SeqAt.EqAt A s x y b := by
  obtain ⟨p, q, hp, hq, sp, sq, rfl⟩ := pyEq_inv h
  obtain ⟨as, r1⟩ := Dp.reads I p v x (rep_dp k d v p rv hp) rx
  obtain ⟨bs, r2⟩ := Dp.reads I q u y (rep_dp k e u q ru hq) ry
  unfold SeqAt.shaped at sp sq
  simp only [Bool.and_eq_true, decide_eq_true_eq] at sp sq
  exact PySem.SeqAt.eqAt_plain p q A s x y as bs r1 r2 (PySem.PyData.plain_of_canLay0 p sp.1) (PySem.PyData.plain_of_canLay0 q sq.1) (by omega)
theorem hits_of (I : Inv X pins σ w.H s) (k : Ok X.K w) {A : Around} (hu : A.units + 64 < cLine) {ws : List (Key × V)} {ys : List (Key × D)} {zs : List (Key × Value)} (rb : RepP X.K w ws ys) (kb : KV ws zs) :
    ∀ (xs : List (Key × D)) (vs : List (Key × V)) (us : List (Key × Value)) (r : Bool), RepP X.K w vs xs → KV vs us → dctEq ys xs = some r → PySem.W.KeqHits A s zs us r
  | [], vs, us, r, ra, ka, h => by
    obtain rfl := ra.inv0
    cases ka
    cases h
    exact .nil
  | (ky, d) :: xs, vs, us, r, ra, ka, h => by
    obtain ⟨v, vs', rfl, rv, ra'⟩ := ra.inv
    cases ka with
    | @cons p q ps qs h1 h2 =>
      obtain ⟨hk, hr⟩ := h1
      obtain ⟨ky', x⟩ := q
      obtain rfl : ky = ky' := hk
      unfold dctEq at h
      cases hv : valD ys ky with
      | none =>
        rw [hv] at h
        cases h
        refine .miss ?_
        have rr : RelO (valV ws ky) (valueAt zs ky) := kb.val ky
        have hn : valV ws ky = none := by
          have := valV_has rb ky
          cases e : valV ws ky with
          | none => rfl
          | some z =>
            rw [e] at this
            have hh : hasK ys ky = true := this.symm
            unfold hasK at hh
            unfold valD at hv
            rw [Option.map_eq_none_iff, List.find?_eq_none] at hv
            rw [List.any_eq_true] at hh
            obtain ⟨q, hq, hq2⟩ := hh
            exact absurd hq2 (hv q hq)
        rw [hn] at rr
        cases e : valueAt zs ky with
        | none => rfl
        | some z => rw [e] at rr; exact rr.elim
      | some u =>
        rw [hv] at h
        dsimp only at h
        cases he : pyEq d u with
        | none => rw [he] at h; cases h
        | some e =>
          cases hb : dctEq ys xs with
          | none => rw [he, hb] at h; cases h
          | some b =>
            rw [he, hb] at h
            cases h
            obtain ⟨vu, hvu, ru⟩ := repP_val rb ky hv
            have rr : RelO (some vu) (valueAt zs ky) := by rw [← hvu]; exact kb.val ky
            obtain ⟨y, hy, ry⟩ := rr.some_of
            exact .hit hy (pyEq_at I k hu rv ru he hr ry) (hits_of I k hu rb kb xs vs' qs b ra' h2 hb)
end
section
variable {X : Cx} {K : PySem.W.Frag}
def rDctE (K : PySem.W.Frag) (ne : Bool) : R2 := fun x y H Q => ∃ (w : Wd) (a b : Addr) (vs ws : List (Key × V)) (xs ys : List (Key × D)) (r : Bool), w.H = H ∧ Ok K w ∧ x = .ref a ∧ y = .ref b ∧ Rd H a (.dK vs) ∧ Rd H b (.dK ws) ∧ RepP K w vs xs ∧ RepP K w ws ys ∧
  (if xs.length = ys.length then dctEq ys xs else some false) = some r ∧ Q (.bl (if ne = true then !r else r)) H
theorem op_dctE {ne : Bool} {op : CmpOp} (hop : op = if ne = true then .NotEq else .Eq) (hu : X.A.units + 66 < cLine) : OpR X (compareOp op) (rDctE X.K ne) := by
  intro pins s σ H x y v u Q I rx ry h
  obtain ⟨w, a, b, vs, ws, xs, ys, r, rfl, k, rfl, rfl, ha, hb, ra, rb, hr, q⟩ := h
  cases rx
  cases ry
  obtain ⟨us, ka, da, na⟩ := dct_of I ha
  obtain ⟨zs, kb, db, nb⟩ := dct_of I hb
  have l1 : us.length = xs.length := by rw [← ka.length]; simpa using congrArg List.length ra.1
  have l2 : zs.length = ys.length := by rw [← kb.length]; simpa using congrArg List.length rb.1
  have hits : ∃ r', (us.length = zs.length → PySem.W.KeqHits X.A.in1 s zs us r') ∧ (us.length == zs.length && r') = r := by
    by_cases e : xs.length = ys.length
    · rw [if_pos e] at hr
      refine ⟨r, fun _ => hits_of I k (by show X.A.units + 1 + 64 < cLine; omega) rb kb xs vs us r ra ka hr, ?_⟩
      rw [show us.length = zs.length by omega]; simp
    · rw [if_neg e] at hr
      cases hr
      refine ⟨false, fun e' => absurd (by omega) e, ?_⟩
      simp
  obtain ⟨r', h1, h2⟩ := hits
  cases ne with
  | false => subst hop; exact PySem.W.keq_eq na nb da db (by omega) h1 (by rw [h2]; exact ⟨.bl r, _, I, rfl, q⟩)
  | true => subst hop; exact PySem.W.keq_ne na nb da db (by omega) h1 (by rw [h2]; exact ⟨.bl !r, _, I, rfl, q⟩)
end
section
variable {P : Program} {wd : World} {K : PySem.W.Frag} {mg : Str → Option Value} {base : Heap} {k : Nat} {N : List Str} {sc : SC} {W : WX} {a b : Expr} {ma mb : EM} {pos : Pos}
theorem dEqX_cases (x y : D) : (∃ p q, x = .dct p ∧ y = .dct q) ∨ dEqX x y = dEq x y := by
  cases x <;> try exact .inr rfl
  cases y <;> first | exact .inr rfl | exact .inl ⟨_, _, rfl, rfl⟩
theorem vw_dct {w : Wd} {v : V} {p : List (Key × D)} (h : Vw K w v (.dct p)) : ∃ a vs, v = .ref a ∧ Rd w.H a (.dK vs) ∧ RepP K w vs p := by
  obtain ⟨a, vs, rfl, m, z⟩ := h
  exact ⟨a, vs, rfl, m, z⟩
theorem od_eqX : OpD K (rOr (rOr rEq (rEqD K)) (rDctE K false)) oEqX := fun w x y dx dy Q E k vx vy p => by
  rcases dEqX_cases dx dy with ⟨p', q', rfl, rfl⟩ | e
  · unfold oEqX dEqX at p
    dsimp only at p
    cases hr : (if p'.length = q'.length then dctEq q' p' else some false) with
    | none => rw [hr] at p; exact p.elim
    | some r =>
      rw [hr] at p
      obtain ⟨a, vs, rfl, h1, z1⟩ := vw_dct vx
      obtain ⟨b, ws, rfl, h2, z2⟩ := vw_dct vy
      exact .inr ⟨w, a, b, vs, ws, p', q', r, rfl, k, rfl, rfl, h1, h2, z1, z2, hr, p.now k .bl⟩
  · unfold oEqX at p
    rw [e] at p
    exact .inl (od_eq w x y dx dy Q E k vx vy p)
theorem od_neX : OpD K (rOr (rOr rNe (rNeD K)) (rDctE K true)) oNeX := fun w x y dx dy Q E k vx vy p => by
  rcases dEqX_cases dx dy with ⟨p', q', rfl, rfl⟩ | e
  · unfold oNeX dEqX at p
    dsimp only at p
    cases hr : (if p'.length = q'.length then dctEq q' p' else some false) with
    | none => rw [hr] at p; exact p.elim
    | some r =>
      rw [hr] at p
      obtain ⟨a, vs, rfl, h1, z1⟩ := vw_dct vx
      obtain ⟨b, ws, rfl, h2, z2⟩ := vw_dct vy
      exact .inr ⟨w, a, b, vs, ws, p', q', r, rfl, k, rfl, rfl, h1, h2, z1, z2, hr, p.now k .bl⟩
  · unfold oNeX at p
    rw [e] at p
    exact .inl (od_ne w x y dx dy Q E k vx vy p)
theorem G.u66 {X : Cx} (g : G P wd K mg base k N sc W X) : X.A.units + 66 < cLine := by have := g.room.un; omega
theorem pr_eqX (ha : PB P wd K mg base k N sc W a ma) (hb : PB P wd K mg base k N sc W b mb) : PR P wd K mg base k N sc W (.Compare a [.Eq] [b] pos) (eOp oEqX ma mb) := pr_cmp (fun X g => OpR.or' (OpR.or' op_eq (by rw [← g.kk]; exact op_eqD g.room.units)) (by rw [← g.kk]; exact op_dctE (ne := false) rfl g.u66)) od_eqX ha hb
theorem pt_eqX (ha : PB P wd K mg base k N sc W a ma) (hb : PB P wd K mg base k N sc W b mb) : PTt P wd K mg base k N sc W (.Compare a [.Eq] [b] pos) (eOp oEqX ma mb) := pt_cmp' (fun X g => OpR.or' (OpR.or' op_eq (by rw [← g.kk]; exact op_eqD g.room.units)) (by rw [← g.kk]; exact op_dctE (ne := false) rfl g.u66)) od_eqX ha hb
theorem pt_neX (ha : PB P wd K mg base k N sc W a ma) (hb : PB P wd K mg base k N sc W b mb) : PTt P wd K mg base k N sc W (.Compare a [.NotEq] [b] pos) (eOp oNeX ma mb) := pt_cmp' (fun X g => OpR.or' (OpR.or' op_ne (by rw [← g.kk]; exact op_neD g.room.units)) (by rw [← g.kk]; exact op_dctE (ne := true) rfl g.u66)) od_neX ha hb
end
section
variable {st : Store} {x y : D}
@[simp] theorem oEqX_ap : oEqX x y st = (match dEqX x y with | some b => .ok (.bl b) st | none => .no) := rfl
@[simp] theorem oNeX_ap : oNeX x y st = (match dEqX x y with | some b => .ok (.bl !b) st | none => .no) := rfl
@[simp] theorem dEqX_i {i : Int} : dEqX (.int i) y = dEq (.int i) y := by cases y <;> rfl
@[simp] theorem dEqX_s {i : Str} : dEqX (.str i) y = dEq (.str i) y := by cases y <;> rfl
@[simp] theorem dEqX_b {i : Bool} : dEqX (.bl i) y = dEq (.bl i) y := by cases y <;> rfl
@[simp] theorem dEqX_n : dEqX .non y = dEq .non y := by cases y <;> rfl
@[simp] theorem dEqX_l {i : List D} : dEqX (.lst i) y = dEq (.lst i) y := by cases y <;> rfl
@[simp] theorem dEqX_t {i : List D} : dEqX (.tup i) y = dEq (.tup i) y := by cases y <;> rfl
theorem dEqX_d {a b : List (Key × D)} : dEqX (.dct a) (.dct b) = if a.length = b.length then dctEq b a else some false := rfl
end
end DL
/-! list(d.items()), sorted(d.items()), list(d.values()) over data -/
namespace DL
open PySem L2
section
variable {K : PySem.W.Frag} {w : Wd}
/-- new things at the addresses S, frozen at once -/
def Wd.frzS (w : Wd) (S : List Addr) (H' : Hp) : Wd := { w with M := fun b => if b ∈ S then H' b else w.M b, H := H' }
theorem evo_frzS (k : Ok K w) {S : List Addr} {H' : Hp} (hk : ∀ b o, w.H b = some o → H' b = some o) (hS : ∀ b ∈ S, w.H b = none) : Evo w (w.frzS S H') where
  mono := fun a u h => by
    show (if a ∈ S then H' a else w.M a) = _
    by_cases q : a ∈ S
    · have := k.ex a u h; rw [hS a q] at this; cases this
    · rw [if_neg q]; exact h
  rho := fun _ _ => rfl
  le := Nat.le_refl _
  newM := fun a u h n => by
    have h' : (if a ∈ S then H' a else w.M a) = some u := h
    by_cases q : a ∈ S
    · exact hS a q
    · rw [if_neg q, n] at h'; cases h'
  newR := fun l h1 h2 => absurd (Nat.lt_of_lt_of_le h2 h1) (Nat.lt_irrefl _)
  keep := fun a u h _ _ => hk a u h
theorem ok_frzS (k : Ok K w) {S : List Addr} {H' : Hp} (hk : ∀ b o, w.H b = some o → H' b = some o) (hS : ∀ b ∈ S, w.H b = none) : Ok K (w.frzS S H') where
  ex := fun a u h => by
    have h' : (if a ∈ S then H' a else w.M a) = some u := h
    show H' a = some u
    by_cases q : a ∈ S
    · rw [if_pos q] at h'; exact h'
    · rw [if_neg q] at h'; exact hk a u (k.ex a u h')
  sto := fun l d h => by
    obtain ⟨u, h1, h2⟩ := k.sto l d h
    refine ⟨u, hk _ _ h1, h2.imp id fun ⟨h2, h3⟩ => ⟨?_, h3.evo (evo_frzS k hk hS)⟩⟩
    show (if w.ρ l ∈ S then H' (w.ρ l) else w.M (w.ρ l)) = none
    rw [if_neg fun z => by rw [hS _ z] at h1; cases h1]; exact h2
  inj := k.inj
theorem rep_kD (w : Wd) (k : Key) : Rep K w (kV k) (kD k) := by cases k <;> first | exact .int | exact .str
/-- a new list of new pairs -/
theorem rep_pairs {κ : Type} {f : κ → V} {g : κ → D} (hf : ∀ w k, Rep K w (f k) (g k)) {p : Addr} {ts : List Addr} : ∀ {vs : List (κ × V)} {xs : List (κ × D)}, RepP K w vs xs → Paired (fun (t : Addr) (q : κ × V) => w.M t = some (.tup [f q.1, q.2])) ts vs → w.M p = some (.lst (ts.map V.ref)) → Rep K w (.ref p) (.lst (xs.map fun q => .tup [g q.1, q.2])) := by
  have key : ∀ {ts : List Addr} {vs : List (κ × V)} {xs : List (κ × D)}, RepP K w vs xs → Paired (fun (t : Addr) (q : κ × V) => w.M t = some (.tup [f q.1, q.2])) ts vs → RepL K w (ts.map V.ref) (xs.map fun q => .tup [g q.1, q.2]) := by
    intro ts
    induction ts with
    | nil =>
      intro vs xs r q
      cases q
      have : xs = [] := by have := r.1; cases xs with | nil => rfl | cons => simp at this
      subst this; exact .nil
    | cons t ts ih =>
      intro vs xs r q
      cases q with
      | @cons _ b _ vs' h q =>
        cases xs with
        | nil => have := r.1; simp at this
        | cons x xs =>
          have r1 : b.1 = x.1 ∧ vs'.map (·.1) = xs.map (·.1) := by have := r.1; simpa using this
          refine .cons ?_ (ih ⟨r1.2, fun i v x a b => r.2 (i + 1) v x (by simpa using a) (by simpa using b)⟩ q)
          have rr : RepL K w [f b.1, b.2] [g x.1, x.2] := .cons (by rw [r1.1]; exact hf w x.1) (.cons (r.2 0 b x rfl rfl) .nil)
          exact .tup (.inl (.inl h)) rr.1 rr.2
  intro vs xs r q hp
  have z := key r q
  exact .lst hp z.1 z.2
end
section
variable {P : Program} {wd : World} {K : PySem.W.Frag} {mg : Str → Option Value} {base : Heap} {k : Nat} {N : List Str} {sc : SC} {W : WX}
def pairD (p : Key × D) : D := .tup [kD p.1, p.2]
def eItems (m : EM) : EM := fun Γ st => (m Γ st).bind fun d s => match deref s d with
  | .dct kvs => .ok (.lst (kvs.map pairD)) s
  | _ => .no
theorem frz_lst {w : Wd} {H' : Hp} {p : Addr} {ts : List Addr} {κ : Type} {f : κ → V} {vs : List (κ × V)} (h : Paired (fun (t : Addr) (q : κ × V) => H' t = some (.tup [f q.1, q.2])) ts vs) :
    Paired (fun (t : Addr) (q : κ × V) => (w.frzS (p :: ts) H').M t = some (.tup [f q.1, q.2])) ts vs := by
  have : ∀ {us : List Addr} {vs : List (κ × V)}, (∀ t ∈ us, t ∈ p :: ts) → Paired (fun (t : Addr) (q : κ × V) => H' t = some (.tup [f q.1, q.2])) us vs → Paired (fun (t : Addr) (q : κ × V) => (w.frzS (p :: ts) H').M t = some (.tup [f q.1, q.2])) us vs := by
    intro us
    induction us with
    | nil => intro vs _ q; cases q; exact .nil
    | cons t us ih =>
      intro vs hm q
      cases q with
      | cons q1 q2 => exact .cons (by show (if t ∈ p :: ts then H' t else w.M t) = _; rw [if_pos (hm t List.mem_cons_self)]; exact q1) (ih (fun x hx => hm x (List.mem_cons_of_mem _ hx)) q2)
  exact this (fun t ht => List.mem_cons_of_mem _ ht) h
theorem pr_listItems {e : Expr} {m : EM} {p apos cpos pos : Pos} (hm : mg "list" = none) (h : PB P wd K mg base k N sc W e m) (hg : sc.s.names.lookup ("list" : Str) = some .globalImplicit := by rfl) (hbase : ∀ env, attributeBase e "items" env (eval e env) = eval e env := by intro _; rfl) (hline : (apos.endLine == cpos.line) = true := by rfl)
    (hs : ∀ env, starEach [.Call (.Attribute e "items" apos) [] [] cpos] env = (false, eval (.Call (.Attribute e "items" apos) [] [] cpos) env) :: starEach [] env := by intro _; rfl) :
    PR P wd K mg base k N sc W (.Call (.Name "list" p) [.Call (.Attribute e "items" apos) [] [] cpos] [] pos) (eItems m) := by
  obtain ⟨t, pt, r⟩ := h
  refine ⟨tListItemsR t, fun X g => pe_listItemsR g.calm (pt X g) (by unfold Gl PySem.Env.kindOf; rw [g.scp]; exact hg) (by rw [g.mg]; exact hm) (by decide +kernel) (hbase X.env) hline (hs X.env), ?_⟩
  intro H0 w Γ σ ok f Q q
  refine RB.use (P := fun w r => PostE K w r Q (at_ W σ)) r ok f (fun _ _ e k p => p.shift e k) (fun _ _ p => p) (fun p => p) q fun d v w1 e1 k1 f1 r1 p1 => ?_
  have vw := r1.vw k1 f1
  cases hd : deref w1.st d with
  | dct kvs =>
    rw [hd] at vw p1
    obtain ⟨a, vs, rfl, hr, rp⟩ := vw
    refine ⟨a, vs, rfl, hr, fun H' pa ts k1' k2 k3 k4 k5 k6 => ?_⟩
    have hS : ∀ b ∈ pa :: ts, w1.H b = none := fun b hb => (List.mem_cons.mp hb).elim (fun e => e ▸ k2) (k3 b)
    have ev := evo_frzS k1 k1' hS
    have rr : Rep K (w1.frzS (pa :: ts) H') (.ref pa) (.lst (kvs.map pairD)) := rep_pairs (f := kV) (g := kD) (fun w k => rep_kD w k) (rp.evo ev) (frz_lst k6) (by show (if pa ∈ pa :: ts then H' pa else w1.M pa) = _; rw [if_pos List.mem_cons_self]; exact k5)
    exact p1 _ (w1.frzS (pa :: ts) H') ev (ok_frzS k1 k1' hS) rfl rr
  | _ => rw [hd] at p1; exact p1.elim
@[simp] theorem eItems_ap {m : EM} {Γ : DEnv} {st : Store} : eItems m Γ st = (m Γ st).bind fun d s => match deref s d with
  | .dct kvs => .ok (.lst (kvs.map pairD)) s
  | _ => .no := rfl
/-- texts to texts -/
def txtP : List (Key × D) → Option (List (Str × Str))
  | [] => some []
  | (.inr k, .str x) :: r => (txtP r).map ((k, x) :: ·)
  | _ => none
def eSortItems (m : EM) : EM := fun Γ st => (m Γ st).bind fun d s => match deref s d with
  | .dct kvs => (match txtP kvs with | some bs => .ok (.lst ((srtP bs).map fun b => .tup [.str b.1, .str b.2])) s | none => .no)
  | _ => .no
@[simp] theorem eSortItems_ap {m : EM} {Γ : DEnv} {st : Store} : eSortItems m Γ st = (m Γ st).bind fun d s => match deref s d with
  | .dct kvs => (match txtP kvs with | some bs => .ok (.lst ((srtP bs).map fun b => .tup [.str b.1, .str b.2])) s | none => .no)
  | _ => .no := rfl
end
end DL
/-! list(d.values()); l.count(x) of plain values -/
namespace DL
open PySem L2 PySem.Spec PyProof.Rows LiI
section
variable {X : Cx} {e : Expr} {te : TE} {p apos cpos pos : Pos}
def rValsR : V → Hp → VK → Prop := fun x H Q => ∃ (d : Addr) (kvs : List (Key × V)), x = .ref d ∧ Rd H d (.dK kvs) ∧ ∀ p, H p = none → Q (.ref p) (upd H p (.lst (kvs.map (·.2))))
def tListValsR (te : TE) : TE := fun σ H Q => te σ H fun x H1 => rValsR x H1 Q
theorem vals_kv : ∀ {kvs : List (Key × V)} {vs : List (Key × Value)}, KV kvs vs → Vals (kvs.map (·.2)) (vs.map (·.2))
  | _, _, .nil => .nil
  | _, _, .cons h t => .cons h.2 (vals_kv t)
theorem pe_listValsR (hc : X.calm = true) (he : PE X e te) (hg : Gl X "list") (hm : X.mg "list" = none) (hv : bootBuiltins "list" = some (.type "list") := by decide +kernel) (hbase : attributeBase e "values" X.env (eval e X.env) = eval e X.env := by rfl) (hline : (apos.endLine == cpos.line) = true := by rfl)
    (hs : starEach [.Call (.Attribute e "values" apos) [] [] cpos] X.env = (false, eval (.Call (.Attribute e "values" apos) [] [] cpos) X.env) :: starEach [] X.env := by rfl) :
    PE X (.Call (.Name "list" p) [.Call (.Attribute e "values" apos) [] [] cpos] [] pos) (tListValsR te) := by
  refine ⟨fun pins s σ H Q I hq => ?_⟩
  refine wpAny_Call_Name_kw (ld_blt I hg hm hv ?_)
  refine PyProof.Rows.callWith_type1 ?_ hs rfl
  rw [hs]
  show wpAny _ _ (spliced ((false, eval (.Call (.Attribute e "values" apos) [] [] cpos) X.env) :: backTo pos (starEach [] X.env))) _ _ s
  refine Calls.spliced_cons ?_
  refine wpAny_Call_method (T := "dict") (id := "dict.values") hbase rfl hline F.plainAttrs_dict F.slot_dict_values F.type_dict_values (thn (he.run pins s σ H _ I hq) fun u s1 ⟨x, H1, I1, rx, d, kvs, ex, hd, q⟩ => ?_)
  subst ex
  obtain rfl : u = Value.ref d := rx
  obtain ⟨hz, hs0, vs, kv, hdo⟩ := dk_rd I1.hok hd
  obtain ⟨ep, hat⟩ := hdo.dictAt
  have lk : kvs.length = vs.length := Paired.length kv
  have I2 : Inv X pins σ H1 { s1 with heap := s1.heap.push { cls := .type "dict_values", data := .fields #[.ref d] } } := I1.kept (t' := s1.toks) fun b ob q => Heap.get?_push_of_some _ q
  refine ⟨hdo.typeIs, hdo.mapOf.noDict, ?_⟩
  show wpAny _ _ (callWith cpos (.builtin "dict.values") [.ref d] [] []) _ X.xe s1
  refine method_meetsIn F.slot_dict_values F.entry_dict_values rfl (PySem.evalArgs_none ⟨rfl, hdo.typeIs, F.args_dict_values_1 _, _, meets_dict_values (mixKind X.prog X.w) d hs0, ⟨vs, hdo⟩, ?_⟩)
  refine Calls.spliced_nil ?_
  refine PySem.W.kdl_call (PySem.W.kdl_values (knd := mixKind X.prog X.w) (kvs := vs) (ep := ep)) (I1.ok.hd hc) ⟨⟨_, Heap.get?_push_size _ rfl, rfl, rfl⟩, hat.push _⟩ (by omega) fun h' tk acc c hk hS hacc => ?_
  have hal : acc.toList.length = vs.length := by rw [Array.length_toList, hacc.1]
  have eacc : acc.toList = vs.map (·.2) := by
    refine List.ext_getElem? fun i => ?_
    cases ha : acc.toList[i]? with
    | none =>
      rw [List.getElem?_eq_none]
      rw [List.length_map, ← hal]; exact List.getElem?_eq_none_iff.mp ha
    | some v =>
      obtain ⟨k, hk'⟩ := hacc.2 i v (by rw [← Array.getElem?_toList]; exact ha)
      rw [List.getElem?_map, hk']; rfl
  have hp : H1 ({ s1 with heap := s1.heap.push { cls := .type "dict_values", data := .fields #[.ref d] } } : Shared).heap.objs.size = none := I2.hok.fresh (Nat.le_refl _)
  refine ⟨.ref _, _, I2.laid (t' := tk) hk (Nat.le_refl _) (show ObjOk X.prog X.w _ _ _ (.lst (kvs.map (·.2))) from ⟨by rw [List.length_map]; exact hz, acc.toList, c, ?_, ?_⟩), rfl, q _ hp⟩
  · rw [eacc]; exact vals_kv kv
  · rw [Array.toArray_toList]; exact hS
/-- l.count(x): plain values -/
def rCountF (K : PySem.W.Frag) : V → List V → Hp → VK → Prop := fun x xs H Q => ∃ (a : Addr) (ys : List V) (y : V), x = V.ref a ∧ xs = [y] ∧ SqL K H a ys ∧ flatV y = true ∧ ys.all flatV = true ∧ Q (.int (ys.countP (fun z => eqV z y) : Nat)) H
end
end DL
/-! list(d.values()), l.count(x), l.index(x), clear(), y = l.pop()[i] over data -/
namespace DL
open PySem L2
section
variable {P : Program} {wd : World} {K : PySem.W.Frag} {mg : Str → Option Value} {base : Heap} {k : Nat} {N : List Str} {sc : SC} {W : WX}
def eVals (m : EM) : EM := fun Γ st => (m Γ st).bind fun d s => match deref s d with
  | .dct kvs => .ok (.lst (kvs.map (·.2))) s
  | _ => .no
theorem repP_snd {w : Wd} {κ : Type} {vs : List (κ × V)} {xs : List (κ × D)} (r : RepP K w vs xs) : RepL K w (vs.map (·.2)) (xs.map (·.2)) := ⟨by have := congrArg List.length r.1; simpa using this, fun i v x a b => by
  rw [List.getElem?_map] at a b
  cases h1 : vs[i]? with
  | none => rw [h1] at a; cases a
  | some p =>
    cases h2 : xs[i]? with
    | none => rw [h2] at b; cases b
    | some q => rw [h1] at a; rw [h2] at b; cases a; cases b; exact r.2 i p q h1 h2⟩
theorem pr_listVals {e : Expr} {m : EM} {p apos cpos pos : Pos} (hm : mg "list" = none) (h : PB P wd K mg base k N sc W e m) (hg : sc.s.names.lookup ("list" : Str) = some .globalImplicit := by rfl) (hbase : ∀ env, attributeBase e "values" env (eval e env) = eval e env := by intro _; rfl) (hline : (apos.endLine == cpos.line) = true := by rfl)
    (hs : ∀ env, starEach [.Call (.Attribute e "values" apos) [] [] cpos] env = (false, eval (.Call (.Attribute e "values" apos) [] [] cpos) env) :: starEach [] env := by intro _; rfl) :
    PR P wd K mg base k N sc W (.Call (.Name "list" p) [.Call (.Attribute e "values" apos) [] [] cpos] [] pos) (eVals m) := by
  obtain ⟨t, pt, r⟩ := h
  refine ⟨tListValsR t, fun X g => pe_listValsR g.calm (pt X g) (by unfold Gl PySem.Env.kindOf; rw [g.scp]; exact hg) (by rw [g.mg]; exact hm) (by decide +kernel) (hbase X.env) hline (hs X.env), ?_⟩
  intro H0 w Γ σ ok f Q q
  refine RB.use (P := fun w r => PostE K w r Q (at_ W σ)) r ok f (fun _ _ e k p => p.shift e k) (fun _ _ p => p) (fun p => p) q fun d v w1 e1 k1 f1 r1 p1 => ?_
  have vw := r1.vw k1 f1
  cases hd : deref w1.st d with
  | dct kvs =>
    rw [hd] at vw p1
    obtain ⟨a, vs, rfl, hr, rp⟩ := vw
    exact ⟨a, vs, rfl, hr, fun pa hp => p1.lst rfl k1 (repP_snd rp) pa hp⟩
  | _ => rw [hd] at p1; exact p1.elim
@[simp] theorem eVals_ap {m : EM} {Γ : DEnv} {st : Store} : eVals m Γ st = (m Γ st).bind fun d s => match deref s d with
  | .dct kvs => .ok (.lst (kvs.map (·.2))) s
  | _ => .no := rfl
/-- a list's method of one argument -/
def eLM (f : D → D → Store → ER) (mo me : EM) : EM := fun Γ st => (mo Γ st).bind fun o s1 => match deref s1 o with
  | .lst _ => (me Γ s1).bind fun x s2 => f (deref s2 o) (deref s2 x) s2
  | _ => .no
@[simp] theorem eLM_ap {f : D → D → Store → ER} {mo me : EM} {Γ : DEnv} {st : Store} : eLM f mo me Γ st = (mo Γ st).bind fun o s1 => match deref s1 o with
  | .lst _ => (me Γ s1).bind fun x s2 => f (deref s2 o) (deref s2 x) s2
  | _ => .no := rfl
def oCount : D → D → Store → ER := fun o x st => match o with
  | .lst xs => (match flDs xs, flD x with | some vs, some v => .ok (.int (vs.countP (fun z => eqV z v) : Nat)) st | _, _ => .no)
  | _ => .no
/-- where it stands first -/
def idxV (v : V) : List V → Nat → Option Nat
  | [], _ => none
  | z :: zs, i => if eqV z v = true then some i else idxV v zs (i + 1)
def oIndex : D → D → Store → ER := fun o x st => match o with
  | .lst xs => (match flDs xs, flD x with | some vs, some v => (match idxV v vs 0 with | some j => .ok (.int (j : Nat)) st | none => .no) | _, _ => .no)
  | _ => .no
/-- x.clear(), x its own list or dict -/
def clrD : D → Option D
  | .lst _ => some (.lst [])
  | .dct _ => some (.dct [])
  | _ => none
def sClr (i : Nat) : SM := fun Γ st => match Γ[i]? with
  | some (.ow d) => (match clrD d with | some d' => .nx (Γ.set i (.ow d')) st | none => .no)
  | _ => .no
@[simp] theorem sClr_ap {i : Nat} {Γ : DEnv} {st : Store} : sClr i Γ st = (match Γ[i]? with
  | some (.ow d) => (match clrD d with | some d' => .nx (Γ.set i (.ow d')) st | none => .no)
  | _ => .no) := rfl
/-- e.clear(), e a thing of the store -/
def sClrR (mo : EM) : SM := fun Γ st => (mo Γ st).bs Γ fun o s => match o with
  | .ref l => (match s[l]? with
    | some d => (match clrD d with | some d' => .nx Γ (s.set l d') | none => .no)
    | none => .no)
  | _ => .no
@[simp] theorem sClrR_ap {mo : EM} {Γ : DEnv} {st : Store} : sClrR mo Γ st = (mo Γ st).bs Γ fun o s => match o with
  | .ref l => (match s[l]? with
    | some d => (match clrD d with | some d' => .nx Γ (s.set l d') | none => .no)
    | none => .no)
  | _ => .no := rfl
/-- y = l.pop()[e], l its own list -/
def sPopIx (y i : Nat) (mi : EM) : SM := fun Γ st => match Γ[y]? with
  | some (.ow (.lst xs)) => (match xs.getLast? with
    | some d => ((mi (Γ.set y (.ow (.lst xs.dropLast))) st).bind fun j s => oIx (deref s d) (deref s j) s).bs (Γ.set y (.ow (.lst xs.dropLast))) fun r s => .nx ((Γ.set y (.ow (.lst xs.dropLast))).set i (.sh r)) s
    | none => .no)
  | _ => .no
@[simp] theorem sPopIx_ap {y i : Nat} {m : EM} {Γ : DEnv} {st : Store} : sPopIx y i m Γ st = (match Γ[y]? with
  | some (.ow (.lst xs)) => (match xs.getLast? with
    | some d => ((m (Γ.set y (.ow (.lst xs.dropLast))) st).bind fun j s => oIx (deref s d) (deref s j) s).bs (Γ.set y (.ow (.lst xs.dropLast))) fun r s => .nx ((Γ.set y (.ow (.lst xs.dropLast))).set i (.sh r)) s
    | none => .no)
  | _ => .no) := rfl
end
end DL
/-! [*a, *d, ..]: lists, tuples, a dict's keys -/
namespace DL
open PySem L2 PySem.Spec PyProof.Rows
section
variable {X : Cx} {pins : List (Addr × Obj)} {σ : L2.St} {H : Hp} {s : Shared}
end
section
variable {X : Cx} {e : Expr} {es : List Expr} {te : TE} {t : TA} {p : Pos}
end
/-! ### over data -/
section
variable {P : Program} {wd : World} {K : PySem.W.Frag} {mg : Str → Option Value} {base : Heap} {k : Nat} {N : List Str} {sc : SC} {W : WX}
end
end DL
/-! sorted(xs, key=f): f a def of one's own that changes nothing, its answer a text -/
namespace DL
open PySem L2 PySem.Spec PyProof.Rows PySem.W
/-! ### sorted by such a def -/
section
variable {X : Cx} {f : Addr}
end
end DL
/-! sorted(xs, key=f) over data -/
namespace DL
open PySem L2
section
variable {P : Program} {wd : World} {K : PySem.W.Frag} {mg : Str → Option Value} {base : Heap} {k : Nat} {N : List Str} {sc : SC} {W : WX}
/-! ### x is True, x is not False: truth values -/
section
variable {a b : Expr} {ma mb : EM} {pos : Pos}
end
end
end DL
namespace DL
open PySem L2
/-! ### exceptions that are kept -/
section
variable {X : Cx} {pins : List (Addr × Obj)} {σ : L2.St} {H : Hp} {s : Shared} {a : Addr} {o : HO}
end
end DL
namespace DL
open PySem PySem.Spec PyProof.Rows L2
section
variable {X : Cx} {x n y : Str} {c : Value} {i j : Nat} {body : List Stmt} {np yp vp ap pos pos' : Pos} {tb : WX → TS} {Wout : WX}
end
end DL
/-! try: BODY / except C as n: y = n -/
namespace DL
open PySem L2
section
variable {P : Program} {wd : World} {K : PySem.W.Frag} {mg : Str → Option Value} {base : Heap} {k : Nat} {N : List Str} {sc : SC} {W : WX}
end
end DL
/-! isinstance: of kept exceptions, by tuples of classes -/
namespace DL
open PySem L2 PySem.W
section
variable {X : Cx} {pins : List (Addr × Obj)} {σ : St} {H : Hp} {s : Shared}
end
/-! ### over data -/
section
variable {P : Program} {wd : World} {K : PySem.W.Frag} {mg : Str → Option Value} {base : Heap} {k : Nat} {N : List Str} {sc : SC} {W : WX}
end
end DL
/-! facts for except and isinstance -/
namespace DL
open PySem L2 PySem.W
end DL
/-! len(o) by an own __len__ -/
namespace DL
open PySem L2 PySem.W
section
variable {prog : Program} {w : World} {A : Around} {E : Value → Shared → Prop} {s : Shared} {K : Frag} {x C L f : Addr} {h₀ : Heap} {m : Str → Option Value} {ox : Obj} {od : Option Obj} {b tb : Value} {name : Str}
theorem special_K {M : Model} {args : List Value} {Q : Option Value → Shared → Prop} (X : K.In s.heap) (I : InstAt s.heap x ox C od) (hs : findIn K (.ref C) name = some (some (.ref f))) (hf : isFn K (.ref f) = true)
    (h : wpAny M A (call (.ref f) (.ref x :: args)) (fun v => Q (some v)) E s) : wpAny M A (callSpecial? (.ref x) name args) Q E s := by
  unfold callSpecial? specialOf
  refine wpAny_bind (wpAny_bind (I.type.here ((looks_findIn X hs).here ?_)))
  refine wpAny_holding ?_
  refine wpAny_bind ((bind_fn X _ (beq_iff_eq.mp hf)).here ?_)
  exact wpAny_bind (wpAny_mono h (fun v s' h' => wpAny_pure h') fun _ _ h' => h')
theorem len_K {Q : Value → Shared → Prop} (X : K.In s.heap) (I : InstAt s.heap x ox C od) (hs : findIn K (.ref C) "__len__" = some (some (.ref f))) (hf : isFn K (.ref f) = true)
    (h : wpAny (model prog w) A.in1 (call (.ref f) [.ref x]) (fun r s' => ∃ n u, r = .int n u ∧ 0 ≤ n ∧ n < 2 ^ 63 ∧ Q (.int n s'.toks) { s' with toks := s'.toks + 1 }) E s) :
    wpAny (model prog w) A (call (.builtin "len") [.ref x]) Q E s := by
  refine Calls.call_function_entry kind_len plain_len entry_len (args_len1 _) ?_
  unfold Builtin.«len»
  refine wpAny_bind (m := oneArg "len" _) (wpAny_pure ?_)
  refine wpAny_bind (m := callSpecial? (.ref x) (Str.ofString "__len__")) (special_K X I hs hf (wpAny_mono h (fun r s' hr => ?_) fun _ _ y => y))
  obtain ⟨n, u, rfl, h0, h1, hq⟩ := hr
  refine wpAny_bind (wpAny_holding (wpAny_pure ?_))
  refine wpAny_bind (wpAny_letGo ?_)
  show wpAny _ _ (if n < 0 then _ else _) _ _ _
  rw [if_neg (by omega)]
  show wpAny _ _ (if n ≥ 2 ^ 63 then _ else _) _ _ _
  rw [if_neg (by omega)]
  exact wpAny_bind (wpAny_mkInt (wpAny_pure ⟨_, rfl, hq⟩))
end
structure LenOK (P : Program) (wd : World) (K : PySem.W.Frag) (mg : Str → Option Value) (base : Heap) (k : Nat) (C : String) (F : DF) : Prop where
  ex : ∃ (f : Addr) (fd : FuncData) (ps : List Str), FnG P wd K mg base k f fd ps (spD K F) ∧ Binds K fd ps [] ∧ findIn K (.ref (cA K C)) "__len__" = some (some (.ref f)) ∧ isFn K (.ref f) = true
def rLenO (K : PySem.W.Frag) (tab : List (String × DF)) : List V → Hp → VK → Prop := fun xs H Q => ∃ p ∈ tab, ∃ a dx fs, xs = [.ref a] ∧ H a = some (.ins (cA K p.1) dx fs) ∧
  spD K p.2 [.ref a] H (fun v H' => ∃ n : Int, v = .int n ∧ 0 ≤ n ∧ n < 2 ^ 63 ∧ Q (.int n) H') fun _ _ _ => False
def eLenO (tab : List (String × DF)) (ms : EM) : EM := fun Γ st => (ms Γ st).bind fun d s1 => match d with
  | .tup [x] => (match deref s1 x with
    | .ins C _ => (match tab.lookup C with
      | some F => (match F [x] s1 with | .ok (.int n) s2 => if 0 ≤ n ∧ n < 2 ^ 63 then .ok (.int n) s2 else .no | _ => .no)
      | none => .no)
    | _ => .no)
  | _ => .no
section
variable {P : Program} {wd : World} {K : PySem.W.Frag} {mg : Str → Option Value} {base : Heap} {k : Nat} {N : List Str} {sc : SC} {W : WX}
theorem rt_lenO {tab : List (String × DF)} {t : TA} {ms : EM} (ra : RTA K W t ms) : RT K W (tCB (rLenO K tab) t) (eLenO tab ms) := by
  intro H0 w Γ σ ok f0 Q q
  refine RTA.use (P := fun w r => PostE K w r Q (at_ W σ)) ra ok f0 (fun _ _ e k p => p.shift e k) (fun _ _ p => p) (fun p => p) (fun d st hb => by cases d <;> first | rfl | exact absurd rfl (hb _)) q fun ds vs w1 e1 k1 f1 r1 p1 => ?_
  match ds, r1, p1 with
  | [], _, p1 => exact p1.elim
  | _ :: _ :: _, _, p1 => exact p1.elim
  | [dx], r1, p1 =>
    dsimp only at p1
    have hl : vs.length = 1 := r1.1
    match vs, hl, r1 with
    | [x], _, r1 =>
      have rx : Rep K w1 x dx := r1.2 0 x dx rfl rfl
      have vx := rx.vw k1
      cases hx : deref w1.st dx with
      | ins C fs =>
        rw [hx] at vx p1
        dsimp only at p1
        cases hF : tab.lookup C with
        | none => rw [hF] at p1; exact p1.elim
        | some F =>
          rw [hF] at p1
          dsimp only at p1
          obtain ⟨a, da, us, rfl, ha, _⟩ := vx
          refine ⟨(C, F), lookup_mem hF, a, da, us, rfl, ha, w1, [dx], rfl, k1, r1, ?_⟩
          show PostE K w1 (F [dx] w1.st) _ _
          cases hr : F [dx] w1.st with
          | ok d s2 =>
            rw [hr] at p1
            cases d with
            | int n =>
              intro v w3 e3 k3 s3 rv
              cases rv
              dsimp only at p1
              by_cases hn : 0 ≤ n ∧ n < 2 ^ 63
              · rw [if_pos hn] at p1
                exact ⟨n, rfl, hn.1, hn.2, p1 _ w3 e3 k3 s3 .int⟩
              · rw [if_neg hn] at p1; exact p1.elim
            | _ => exact p1.elim
          | err x s2 => rw [hr] at p1; exact p1.elim
          | no => rw [hr] at p1; exact p1.elim
      | _ => rw [hx] at p1; exact p1.elim
theorem call_lenO {j : Nat} {tab : List (String × DF)} (T : ∀ p ∈ tab, LenOK P wd K mg base j p.1 p.2) (hk : j + 1 ≤ k) : ∀ X, G P wd K mg base k N sc W X → CallR X (.builtin "len") (rLenO K tab) := by
  intro X g pins s σ H xs us Q I r hq
  obtain ⟨p, hp, a, da, fs, rfl, ha, hq⟩ := hq
  obtain ⟨f, fd, ps, F, bd, hs, hf⟩ := T p hp
  obtain ⟨rfl, rfl, rfl, rfl, rfl, rfl, hsc, hc, hr, hgd, tk, _, _⟩ := g
  obtain ⟨u, rfl, ru⟩ := vals1 r
  obtain rfl : u = Value.ref a := ru
  obtain ⟨mA, J, _⟩ := ins_get I.hok ha
  obtain ⟨od, J, _⟩ := J.look
  have r2 : Vals [V.ref a] [Value.ref a] := .cons rfl .nil
  have hl := F.len _ _ _ _ hq
  have bdd := bd s [.ref a] I.kIn (by simpa using hl)
  rw [List.append_nil] at bdd
  refine len_K I.kIn J hs hf ?_
  refine wpAny_call (codeAny_mono (F.go (A := X.A.in1) (outer := X.stack) ⟨(hr.mono hk).in1, hgd⟩ I.env0.in1 bdd r2 hq) fun r s' hq' => ?_)
  cases r with
  | error er => obtain ⟨_, _, _, _, _, _, _, _, _, _, _, _, _, _, _, _, z⟩ := hq'
  | ok fl =>
    cases fl with
    | ret u =>
      obtain ⟨v, H', I3, rv, n, ev, h0, h1, q3⟩ := I.after hq'
      subst ev
      obtain ⟨t, rfl⟩ := rv
      exact ⟨n, t, rfl, h0, h1, .int n, H', I3.kept (t' := s'.toks + 1) (fun _ _ q => q), ⟨_, rfl⟩, q3⟩
    | next => exact False.elim hq'
    | brk => exact False.elim hq'
    | cont => exact False.elim hq'
theorem pr_lenO {j : Nat} {tab : List (String × DF)} {e : Expr} {ms : EM} {p pos : Pos} (T : ∀ p ∈ tab, LenOK P wd K mg base j p.1 p.2) (hm : mg "len" = none) (ha : PAr P wd K mg base k N sc W [e] ms) (hk : j + 1 ≤ k := by omega) (hg : sc.s.names.lookup ("len" : Str) = some .globalImplicit := by rfl)
    (he : ∀ env, starEach [e] env = (false, eval e env) :: starEach [] env := by intro _; rfl) : PR P wd K mg base k N sc W (.Call (.Name "len" p) [e] [] pos) (eLenO tab ms) := by
  obtain ⟨t, pt, ra⟩ := ha
  refine ⟨_, fun X g => ?_, rt_lenO ra⟩
  exact pe_callB (call_lenO T hk X g) (by unfold Gl PySem.Env.kindOf; rw [g.scp]; exact hg) (by rw [g.mg]; exact hm) PySem.boot_len (pt X g) (by decide) (by decide) (he X.env) rfl
theorem lenOK {C : String} {f : Addr} {F : DF} {i : Nat} (h : Meth K (cA K C) "__len__" f) (a : FnA P wd K mg base i f F) (hi : i ≤ k := by omega) : LenOK P wd K mg base k C F :=
  let ⟨fd, ps, a, b⟩ := a.ex; ⟨⟨f, fd, ps, a.mono hi, b, h.at_, h.fn⟩⟩
end
end DL
/-! classmethods, reached by the class; the class as an argument -/
namespace DL
open PySem L2 ClX
structure ClsOK (P : Program) (wd : World) (K : PySem.W.Frag) (mg : Str → Option Value) (base : Heap) (k : Nat) (C : String) (m : Str) (F : DF) : Prop where
  ex : ∃ (mc : Value) (g p : Addr) (fd : FuncData) (ps : List Str), FnG P wd K mg base k g fd ps (spD K F) ∧ CRead K (cA K C) mc ∧ CMet K (cA K C) mc m p g ∧ Binds K fd ps []
/-- the def behind a classmethod -/
def cC (K : PySem.W.Frag) (C : String) (m : Str) : Addr := match PySem.W.recIn K (cM K C m) "classmethod" with
  | some (.ref g :: _) => g
  | _ => 0
theorem cC_of {K : PySem.W.Frag} {C : String} {m : Str} {c p g : Addr} {rest : List Value} (hc : cA K C = c) (h : PySem.W.findIn K (.ref c) m = some (some (.ref p))) (hr : PySem.W.recIn K p "classmethod" = some (.ref g :: rest)) : cC K C m = g := by unfold cC; rw [cM_of hc h, hr]
/-- what is known of a classmethod -/
structure CMetQ (K : PySem.W.Frag) (C : Addr) (m : Str) (g : Addr) : Prop where
  ex : ∃ (mc : Value) (p : Addr), CRead K C mc ∧ CMet K C mc m p g
section
variable {P : Program} {wd : World} {K : PySem.W.Frag} {mg : Str → Option Value} {base : Heap} {k : Nat} {N : List Str} {sc : SC} {W : WX}
def tPre (v : V) (t : TA) : TA := fun σ H Q => t σ H fun vs H2 => Q (v :: vs) H2
theorem rta_pre {C : String} {t : TA} {ms : EM} (r : RTA K W t ms) : RTA K W (tPre (.ref (cA K C)) t) (eCons (eC (.cls C)) ms) := by
  intro H0 w Γ σ ok f Q q
  refine RTA.use (P := fun w r => PostA K w r Q (at_ W σ)) r ok f (fun _ _ e k p => p.shift e k) (fun _ _ p => p) (fun p => p) (fun d st hb => by cases d <;> first | rfl | exact absurd rfl (hb _)) q fun ds vs w2 e2 k2 f2 r2 p2 => ?_
  exact p2 (.ref (cA K C) :: vs) w2 (Evo.refl w2) k2 rfl (.cons .cls r2)
/-- a call of the class that slot i holds -/
def eMakeV (C : String) (F : DF) (i : Nat) (ms : EM) : EM := fun Γ st => match Γ[i]? with
  | some (.sh (.cls C')) => if C' = C then eMake C F ms Γ st else .no
  | _ => .no
theorem pr_makeV {j : Nat} (i : Nat) (C : String) {x : Str} {F : DF} {e : Expr} {es : List Expr} {ms : EM} {p pos : Pos} (M : MakeOK P wd K mg base j C F) (ha : PAr P wd K mg base k N sc W (e :: es) ms) (hk : j + 1 ≤ k := by omega) (hN : N[i]? = some x := by rfl)
    (hv : Vis sc.s x := by first | exact Or.inl rfl | exact Or.inr (Or.inl rfl) | exact Or.inr (Or.inr rfl)) (hd : (x == ("__debug__" : Str)) = false := by decide) (hcd : (x == ("__classdict__" : Str)) = false := by decide)
    (he : ∀ env, starEach (e :: es) env = (false, eval e env) :: starEach es env := by intro _; rfl) (hpl : ∀ env, (backTo pos (starEach es env)).any (·.1) = false := by intro _; rfl) :
    PR P wd K mg base k N sc W (.Call (.Name x p) (e :: es) [] pos) (eMakeV C F i ms) := by
  obtain ⟨t, pt, r⟩ := ha
  refine ⟨fun σ H Q => tVar i σ H fun y H1 => y = .ref (cA K C) ∧ tMakeG K C F W t σ H1 Q, fun X g => ⟨fun pins s σ H Q I h => ?_⟩, ?_⟩
  · have aX := pt X g
    have vX : PE X (.Name x p) (tVar i) := pe_var (by rw [g.nn]; exact hN) (by rw [g.scp]; exact hv) hd hcd
    obtain ⟨rfl, rfl, rfl, rfl, rfl, rfl, hsc, hc, hr, hgd, tk, _, _⟩ := g
    obtain ⟨hm, gf, fd, ps, F1, M1, hb⟩ := M
    refine wpAny_Call_Name_kw (thn (vX.run pins s σ H _ I h) fun u s0 ⟨y, H0, I0, ry, ey, q0⟩ => ?_)
    subst ey
    obtain rfl : u = Value.ref (cA X.K C) := ry
    refine PySem.W.callWith_K (h₀ := X.base) I0.ok.mod.kin M1.kp (thn (aX.run pos pins s0 σ H0 _ I0 q0) fun us s1 ⟨vs, H1, I1, r, q⟩ => ⟨I1.kIn, ?_⟩) (he X.env) (hpl X.env)
    exact run_makeG M1 F1 ⟨hr.mono hk, hgd⟩ hb tk I1 r q
  · intro H0 w Γ σ ok f Q q
    unfold eMakeV at q
    split at q
    · rename_i C' h
      split at q
      · rename_i hC
        subst hC
        obtain ⟨v, h1, rv⟩ := f.sh i _ h
        cases rv
        exact ⟨_, h1, rfl, rt_make r H0 w Γ σ ok f Q q⟩
      · exact q.elim
    · exact q.elim
@[simp] theorem eMakeV_ap {C : String} {F : DF} {i : Nat} {ms : EM} {Γ : DEnv} {st : Store} : eMakeV C F i ms Γ st = (match Γ[i]? with
  | some (.sh (.cls C')) => if C' = C then eMake C F ms Γ st else .no
  | _ => .no) := rfl
end
end DL
/-! a new list: a + b -/
namespace DL
open PySem L2
section
variable {P : Program} {wd : World} {K : PySem.W.Frag} {mg : Str → Option Value} {base : Heap} {k : Nat} {N : List Str} {sc : SC} {W : WX}
end
end DL
/-! min of a list of texts; d.pop(k, x) -/
namespace DL
open PySem L2
section
variable {prog : Program} {w : World} {A : Around} {E : Value → Shared → Prop} {s : Shared} {l : Addr} {its : Array Value}
end
section
variable {P : Program} {wd : World} {K : PySem.W.Frag} {mg : Str → Option Value} {base : Heap} {k : Nat} {N : List Str} {sc : SC} {W : WX}
end
end DL
/-! classmethods called by keyword -/
namespace DL
open PySem L2 ClX
section
variable {P : Program} {wd : World} {K : PySem.W.Frag} {mg : Str → Option Value} {base : Heap} {k : Nat} {N : List Str} {sc : SC} {W : WX}
end
end DL
/-! a, b = x, y with y something new: b's own -/
namespace DL
open PySem L2
section
variable {P : Program} {wd : World} {K : PySem.W.Frag} {mg : Str → Option Value} {base : Heap} {k : Nat} {N : List Str} {sc : SC} {W : WX}
end
end DL
/-! == of an instance with an own __eq__ and something of another kind -/
namespace DL
open PySem PySem.SeqAt PySem.Builtin PySem.W PySem.Spec PyProof.Rows L2
open AutoSeq1 (wpAny_loadPart')
open MeetsSeq
section
variable {prog : Program} {w : World} {A : Around} {E : Value → Shared → Prop} {s : Shared} {K : Frag} {C y f : Addr} {oy : Obj} {od : Option Obj}
end
end DL
namespace DL
open PySem L2 PySem.W
section
variable {P : Program} {wd : World} {K : PySem.W.Frag} {mg : Str → Option Value} {base : Heap} {k : Nat} {N : List Str} {sc : SC} {W : WX}
end
end DL
/-! a == b, b of a class below a's: b's own __eq__ is asked -/
namespace DL
open PySem PySem.W L2
section
variable {prog : Program} {w : World} {A : Around} {E : Value → Shared → Prop} {s : Shared} {K : Frag} {C D x y f : Addr} {ox oy : Obj} {od od' : Option Obj}
end
section
variable {P : Program} {wd : World} {K : PySem.W.Frag} {mg : Str → Option Value} {base : Heap} {k : Nat} {N : List Str} {sc : SC} {W : WX}
end
end DL
/-! a run that begins where old generators sleep under a mask also runs where they sleep as they are, and leaves them asleep -/
namespace MaskX
open PySem PyProof.Rows
open Sem (wp)
def bad : Resume → Sem PySem.Fin := fun _ => .unsupported "masked"
abbrev Tab := Nat → Option GenState
def unG (T : Tab) (gens : Array GenState) : Array GenState := gens.mapIdx fun i g => (T i).getD g
def un (T : Tab) (s : Shared) : Shared := { s with gens := unG T s.gens }
/-! ### all that sleeps now is masked -/
def maskG : GenState → GenState
  | .suspended _ l c p fs cl => .suspended bad l c p fs cl
  | x => x
def mask (s : Shared) : Shared := { s with gens := s.gens.map maskG }
end MaskX
/-! a generator's run, segment by segment: at each waking its user says where he stands (b) -/
namespace GB
open PySem GenW L2
open Sem (wp)
abbrev REn (β : Type) := Nat → β → Result → Shared → Prop
abbrev Pro (β : Type) := Nat → β → Value → Shared → (β → Resume → Shared → Prop) → Prop
def SgE {β : Type} (R : REn β) (Y : Pro β) (n : Nat) (go : β → Code → Sem PySem.Fin → List Frame → Shared → Prop) (b : β) (e : End) (s' : Shared) : Prop :=
  match e with
  | .ret r => R n b r s'
  | .susp v g l k c p fs => (End.susp v g l k c p fs).quiet = true ∧ Y (n - 1) b v s' fun b' r s'' => go b' c (k r) fs s''
def Sg {β : Type} (M : Model) (A : Around) (R : REn β) (Y : Pro β) : Nat → β → Code → Sem PySem.Fin → List Frame → Shared → Prop
  | 0 => fun b c t fs s => ∀ Γ p, Γ.code = c → Γ.Woken A → ∃ e s', Runs M Γ p t fs s e s' ∧ SgE R Y 0 (fun _ _ _ _ _ => False) b e s'
  | n + 1 => fun b c t fs s => ∀ Γ p, Γ.code = c → Γ.Woken A → ∃ e s', Runs M Γ p t fs s e s' ∧ SgE R Y (n + 1) (fun b' c' t' fs' s'' => Sg M A R Y n b' c' t' fs' s'') b e s'
def Sg.next {β : Type} (M : Model) (A : Around) (R : REn β) (Y : Pro β) : Nat → β → Code → Sem PySem.Fin → List Frame → Shared → Prop
  | 0 => fun _ _ _ _ _ => False
  | n + 1 => fun b c t fs s'' => Sg M A R Y n b c t fs s''
section
variable {β : Type} {M : Model} {A : Around} {R : REn β} {Y : Pro β} {n : Nat} {b : β} {c : Code} {fs : List Frame} {s : Shared}
theorem sg_iff {t : Sem PySem.Fin} : Sg M A R Y n b c t fs s ↔ ∀ Γ p, Γ.code = c → Γ.Woken A → ∃ e s', Runs M Γ p t fs s e s' ∧ SgE R Y n (Sg.next M A R Y n) b e s' := by cases n <;> rfl
theorem sg_wrap {α : Type} {m : Sem α} {K : α → Sem PySem.Fin} {H : Value → Sem PySem.Fin} {gd lv}
    (h : wpAny M (A.over c fs) m (fun a s' => Sg M A R Y n b c (K a) fs s') (fun x s' => Sg M A R Y n b c (H x) fs s') s) : Sg M A R Y n b c (m.wrap K H gd lv) fs s := by
  rw [sg_iff]
  rintro Γ p rfl hΓ
  exact runs_wrap_of_wp K H gd lv m (h (Γ.over fs) p (hΓ.over fs)) (fun a p' s' h' => sg_iff.mp h' Γ p' rfl hΓ) (fun x p' s' h' => sg_iff.mp h' Γ p' rfl hΓ)
theorem sg_at {p' : Pos} {k : Unit → Sem PySem.Fin} (h : Sg M A R Y n b c (k ()) fs s) : Sg M A R Y n b c (.at p' k) fs s := sg_wrap (m := standAt p') (K := k) (H := .raise) (gd := id) (lv := id) (wpAny_standAt h)
theorem sg_point {l : List Value} {k : Unit → Sem PySem.Fin} (h : Sg M A R Y n b c (k ()) fs s) : Sg M A R Y n b c (.point l k) fs s := sg_wrap (m := point) (K := k) (H := .raise) (gd := id) (lv := fun _ => l) (wpAny_point h)
theorem sg_call {c' : Code} {h g l} {k : Result → Sem PySem.Fin} (hc : ∀ p, Sg M A R Y n b c' (M.den c') (.ret k h g l c p [] :: fs) s) : Sg M A R Y n b c (.call c' h g l k) fs s := by
  rw [sg_iff]
  rintro Γ p rfl hΓ
  obtain ⟨e, s', hr, he⟩ := sg_iff.mp (hc p) (Γ.goto c') p rfl (hΓ.goto c')
  exact ⟨e, s', runs_call_seg hr, he⟩
theorem sg_leaf {k h g l c₁ p₁ kp} (r : Result) (hk : Sg M A R Y n b c₁ (k r) fs s) : Sg M A R Y n b c (leafOf r) (.ret k h g l c₁ p₁ kp :: fs) s := by
  rw [sg_iff]
  rintro Γ p rfl hΓ
  obtain ⟨e, s', hr, he⟩ := sg_iff.mp hk (Γ.goto c₁) p₁ rfl (hΓ.goto c₁)
  exact ⟨e, s', Runs.pop r hr, he⟩
theorem sg_again {c' : Code} (hq : c'.quiet = true) (hc : Sg M A R Y n b c' (M.den c') fs s) : Sg M A R Y n b c (.pure (.again c')) fs s := by
  rw [sg_iff]
  rintro Γ p rfl hΓ
  obtain ⟨e, s', hr, he⟩ := sg_iff.mp hc (Γ.goto c') p rfl (hΓ.goto c')
  exact ⟨e, s', Runs.head (c₁ := c') (fun _ _ x => .again hq x) hr, he⟩
theorem sg_end (r : Result) (h : R n b r s) : Sg M A R Y n b c (leafOf r) [] s := by
  rw [sg_iff]
  rintro Γ p rfl _
  exact ⟨.ret r, s, Runs.leaf r, h⟩
theorem sg_yield {v g l} {k : Resume → Sem PySem.Fin} (hfs : splitAtGen fs = none) (hg : g = false) (hfg : fs.any Frame.guarded = false)
    (h : Y n b v s fun b' r s'' => Sg M A R Y n b' c (k r) fs s'') : Sg M A R Y (n + 1) b c (.yield v g l k) fs s := by
  rintro Γ p rfl _
  exact ⟨_, s, Runs.yield' fs hfs, And.intro (by simp [End.quiet, hg, hfg]) h⟩
/-- a generator's state is that of the rest of its run -/
def Goes (M : Model) (A : Around) (R : REn β) (Y : Pro β) (n : Nat) (b : β) (gs : GenState) (r : Resume) (s : Shared) : Prop :=
  match gs with
  | .fresh c => r = .send .none ∧ Sg M A R Y n b c (M.den c) [] s
  | .suspended k _ c _ fs _ => Sg M A R Y n b c (k r) fs s
  | _ => False
def GoesN (M : Model) (A : Around) (R : REn β) (Y : Pro β) (n : Nat) (b : β) (gs : GenState) (r : Resume) (s : Shared) : Prop :=
  match n with | 0 => False | m + 1 => Goes M A R Y m b gs r s
def isSusp : GenState → Bool
  | .suspended .. => true
  | _ => false
theorem wpAny_resumeB {E : Value → Shared → Prop} {g : Nat} {gs : GenState} {r : Resume} {l : List Value} {α : Type} {k : GenResult → Sem α} {Q : α → Shared → Prop} (hg : s.gens[g]? = some gs)
    (hgo : Goes M A R Y n b gs r (s.setGen g .running))
    (hR : ∀ x s₁, R n b x s₁ → wpAny M A (k (End.ret x).result) Q E (s₁.setGen g .finished))
    (hY : ∀ v s₁ gs', gs'.bare = true → isSusp gs' = true → Y (n - 1) b v s₁ (fun b' r' s'' => GoesN M A R Y n b' gs' r' s'') → wpAny M A (k (.yielded v)) Q E (s₁.setGen g gs')) :
    wpAny M A (.resume g r l k) Q E s := by
  intro Γ p hΓ
  rw [Sem.wp_resume]
  have hB : ∀ c, (Γ.wake c p).Woken A := fun c => hΓ.wake c p
  have fin : ∀ e₁ s₁, SgE R Y n (Sg.next M A R Y n) b e₁ s₁ → wp M Γ (k e₁.result) (fun a _ s' => Q a s') (fun e _ s' => E e s') p (s₁.setGen g e₁.genState) := by
    intro e₁ s₁ he
    cases e₁ with
    | ret x => exact hR x s₁ he Γ p hΓ
    | susp v g₀ l₀ k₀ c₀ p₀ fs₀ =>
      refine hY v s₁ _ (End.bare_of_quiet he.1) rfl ?_ Γ p hΓ
      cases n with
      | zero => exact he.2
      | succ m => exact he.2
  have hqt : ∀ e₁ s₁, SgE R Y n (Sg.next M A R Y n) b e₁ s₁ → e₁.quiet = true := by
    intro e₁ s₁ he
    cases e₁ with
    | ret x => rfl
    | susp v g₀ l₀ k₀ c₀ p₀ fs₀ => exact he.1
  cases gs with
  | fresh c =>
    obtain ⟨rfl, hs⟩ := hgo
    obtain ⟨e₁, s₁, hr, he⟩ := sg_iff.mp hs (Γ.wake c p) p rfl (hB c)
    exact ⟨_, _, by unfold Wakes; rw [hg]; exact ⟨e₁, s₁, hr, hqt e₁ s₁ he, rfl, rfl⟩, fin e₁ s₁ he⟩
  | suspended k₀ l₀ c₀ p₀ fs₀ cl =>
    obtain ⟨e₁, s₁, hr, he⟩ := sg_iff.mp hgo (Γ.wake c₀ p) p₀ rfl (hB c₀)
    exact ⟨_, _, by unfold Wakes; rw [hg]; exact ⟨e₁, s₁, hr, hqt e₁ s₁ he, rfl, rfl⟩, fin e₁ s₁ he⟩
  | running => exact hgo.elim
  | finished => exact hgo.elim
end
section
variable {β : Type} {P : Program} {w : World} {A : Around} {E : Value → Shared → Prop} {s : Shared} {R : REn β} {Y : Pro β} {b : β}
/-- next(g) -/
theorem next_genB {a : Addr} {g n : Nat} {gs : GenState} {Q : Option Value → Shared → Prop} (hh : A.handled = none) (hl : s.heap.NoLimit) (hroom : A.depth < recursionLimit) (hg : s.heap.IsGen a g) (hgs : s.gens[g]? = some gs)
    (hgo : Goes (model P w) A.in1 R Y n b gs (.send .none) (s.setGen g .running))
    (hY : ∀ v s₁ gs', gs'.bare = true → isSusp gs' = true → Y (n - 1) b v s₁ (fun b' r' s'' => GoesN (model P w) A.in1 R Y n b' gs' r' s'') → Q (some v) (s₁.setGen g gs'))
    (hR : ∀ r s₁, R n b r s₁ → (r = .ok (.ret .none) ∨ r = .ok .next) ∧ ∀ h', (∀ b o, s₁.heap.get? b = some o → h'.get? b = some o) → Q none { s₁.setGen g .finished with heap := h' }) :
    wpAny (model P w) A (pyNext (.ref a)) Q E s := by
  unfold pyNext
  refine wpAny_bind (wpAny_attempt (wpAny_callSpecial?_slot (name := Str.ofString "__next__") hg.typeIs slot_gen_next
    (wpAny_call_entry slot_gen_next hg.typeIs entry_gen_next ?_ (args_gen_next _))))
  show wpAny _ A.in1 (Builtin.Generator.genWake (.ref a) (.send .none)) _ _ s
  unfold Builtin.Generator.genWake
  refine wpAny_bind (wpAny_holding (wpAny_genNumber hg (wpAny_bind (wpAny_genState hgs ?_))))
  cases gs with
  | running => exact hgo.elim
  | finished => exact hgo.elim
  | _ =>
    refine wpAny_bind (wpAny_roomToWake hl hroom ?_)
    show wpAny _ A.in1 (.resume g (.send .none) [] _) _ _ s
    refine wpAny_resumeB hgs hgo (fun x s₁ hx => ?_) (fun v s₁ gs' hb hsu hv => ?_)
    · obtain ⟨hr, hp⟩ := hR x s₁ hx
      have hres : End.result (.ret x) = .returned .none := by
        rcases hr with hr | hr <;> rw [hr] <;> rfl
      first | rw [hres] | simp only [hres]
      show wpAny _ A.in1 (newExc (.type "StopIteration") [] >>= _) _ _ _
      refine wpAny_bind ?_
      simp only [newExc, newTuple]
      refine wpAny_bind (wpAny_newObj_type ?_ (by size_fits))
      refine wpAny_bind (m := firstArgMember _ _) (wpAny_of_eq (a := Value.none) (by first | rfl | (simp only [firstArgMember]; rfl)) ?_)
      refine wpAny_newObj_type ?_ (by size_fits)
      simp only [raiseNew]
      refine wpAny_bind (wpAny_bind (wpAny_handled ?_))
      first | rw [show A.in1.handled = none from hh] | rw [hh]
      refine wpAny_throw ?_
      refine wpAny_bind (wpAny_isInstance (T := "StopIteration") (b := true) ⟨_, Heap.get?_push_size _ rfl, rfl⟩ isSubtype_stop ?_)
      exact wpAny_pure (hp _ fun b o hb => Heap.get?_push_of_some _ (Heap.get?_push_of_some _ hb))
    · exact wpAny_pure ⟨v, rfl, wpAny_pure (hY v s₁ gs' hb hsu hv)⟩
end
/-! ### statements -/
section
variable {β : Type} {M : Model} {A : Around} {R : REn β} {Y : Pro β} {n : Nat} {b : β} {c : Code} {fs : List Frame} {s : Shared} {env : Env}
  {K : Flow → Sem PySem.Fin} {H : Value → Sem PySem.Fin} {gd : Bool → Bool} {lv : List Value → List Value}
theorem sg_execs_nil (h : Sg M A R Y n b c (K .next) fs s) : Sg M A R Y n b c ((execs [] env).wrap K H gd lv) fs s := h
theorem sg_execs_cons {st : Stmt} {rest : List Stmt}
    (h : Sg M A R Y n b c ((exec st env).wrap (fun f => match f with | .next => (execs rest env).wrap K H gd lv | f => K f) H gd lv) fs s) : Sg M A R Y n b c ((execs (st :: rest) env).wrap K H gd lv) fs s := by rw [execs_cons_wrap]; exact h
theorem sg_Expr_Yield {e : Expr} {ypos pos : Pos} (hfs : splitAtGen fs = none) (hgd : gd false = false) (hfg : fs.any Frame.guarded = false)
    (h : wpAny M (A.over c fs) (eval e env) (fun v s' => ∀ kap : β → Resume → Shared → Prop,
        (∀ b' x s'', (match x with | .ref _ => False | _ => Sg M A R Y n b' c (K .next) fs s'') → kap b' (.send x) s'') → Y n b v s' kap)
      (fun x s' => Sg M A R Y (n + 1) b c (H x) fs s') s) (hco : env.scope.isCoroutine = false := by rfl) (hi : interactive env = false := by rfl) :
    Sg M A R Y (n + 1) b c ((exec (.Expr (.Yield (some e) ypos) pos) env).wrap K H gd lv) fs s := by
  rw [exec_Expr env _ pos hi rfl]
  show Sg M A R Y (n + 1) b c (.at pos fun _ => ((eval e env >>= fun v => (standAt ypos >>= fun _ => yieldOut env v)) >>= fun x =>
    dropValue (.Yield (some e) ypos) pos x).wrap K H gd lv) fs s
  have hy : ∀ v, yieldOut env v = yieldValue v := fun v => by simp only [yieldOut, hco, Bool.false_eq_true, if_false]
  simp only [hy]
  refine sg_at ?_
  rw [Sem.bind_eq_wrap', Sem.bind_eq_wrap', Sem.wrap_wrap, Sem.wrap_wrap]
  refine sg_wrap (wpAny_mono h (fun v s' h' => ?_) fun _ _ x => x)
  refine sg_at (sg_yield hfs hgd hfg ?_)
  refine h' _ fun b' x s'' hx => ?_
  cases x <;> first | exact hx | exact hx.elim
theorem bind_wrap {α γ δ : Type} (m : Sem α) (f : α → Sem γ) (K : γ → Sem δ) (H : Value → Sem δ) (gd : Bool → Bool) (lv : List Value → List Value) : (m >>= f).wrap K H gd lv = m.wrap (fun a => (f a).wrap K H gd lv) H gd lv := by
  rw [Sem.bind_eq_wrap', Sem.wrap_wrap]; rfl
abbrev NF : Value → Shared → Prop := fun _ _ => False
theorem sg_bindF {α γ : Type} {m : Sem α} {f : α → Sem γ} {K : γ → Sem PySem.Fin} {H : Value → Sem PySem.Fin} (h : wpAny M (A.over c fs) m (fun a s' => Sg M A R Y n b c ((f a).wrap K H gd lv) fs s') NF s) : Sg M A R Y n b c ((m >>= f).wrap K H gd lv) fs s := by
  rw [bind_wrap]
  exact sg_wrap (wpAny_mono h (fun _ _ q => q) fun _ _ q => q.elim)
/-- what a loop's call does with what comes back -/
abbrev kLoop (env : Env) (K : Flow → Sem PySem.Fin) (H : Value → Sem PySem.Fin) (gd : Bool → Bool) (lv : List Value → List Value) : Result → Sem PySem.Fin := fun r =>
  ((match r with | .ok f => (.pure f : Sem Flow) | .error e => .raise e).onRaise (cameBack env)).wrap K H gd lv
theorem sg_For {target iter : Expr} {body : List Stmt} {pos : Pos}
    (h : wpAny M (A.over c fs) (eval iter env) (fun x s1 => wpAny M (A.over c fs) (pyIter x) (fun it s2 => ∀ p, Sg M A R Y n b (.forLoop target it body [] env) (M.den (.forLoop target it body [] env))
      (.ret (kLoop env K H gd lv) none (gd false) (lv []) c p [] :: fs) s2) NF s1) NF s) (hs : ∀ x, foldedSetIterable iter env x = pure x := by intro _; rfl) :
    Sg M A R Y n b c ((exec (.For target iter body [] pos) env).wrap K H gd lv) fs s := by
  rw [exec_For]
  refine sg_bindF (wpAny_standAt (sg_bindF (wpAny_mono h (fun x s1 h1 => ?_) fun _ _ q => q)))
  refine sg_bindF (wpAny_of_eq (hs x) (sg_bindF (wpAny_standAt (sg_bindF (wpAny_holding (wpAny_mono h1 (fun it s2 h2 => ?_) fun _ _ q => q))))))
  exact sg_call h2
end
section
variable {β : Type} {P : Program} {w : World} {A : Around} {R : REn β} {Y : Pro β} {n : Nat} {b : β} {fs : List Frame} {s : Shared} {env : Env}
abbrev jLoop (env : Env) : Value → Sem PySem.Fin := fun e => ((do noteFrame e env; theTreesLotGoes e : Sem Unit).bind fun _ => .raise e)
theorem sg_forTurn {target : Expr} {it : Value} {body : List Stmt}
    (h : wpAny (model P w) (A.over (.forLoop target it body [] env) fs) (pyNext it) (fun r s1 => match r with
      | none => Sg (model P w) A R Y n b (.block [] env) (leafOf (.ok .next)) fs s1
      | some v => wpAny (model P w) (A.over (.forLoop target it body [] env) fs) (letOwnedTupleGo target it v) (fun _ s2 => wpAny (model P w) (A.over (.forLoop target it body [] env) fs) (assign target env v) (fun _ s3 =>
          Sg (model P w) A R Y n b (.forLoop target it body [] env) ((execs body env).wrap (fun f => match f with
            | .next | .cont => .pure (.again (.forLoop target it body [] env))
            | .brk => .pure (.done .next)
            | .ret v => .pure (.done (.ret v))) (jLoop env) id id) fs s3) NF s2) NF s1) NF s) :
    Sg (model P w) A R Y n b (.forLoop target it body [] env) ((model P w).den (.forLoop target it body [] env)) fs s := by
  show Sg _ A R Y n b _ ((forTurn target it body [] env).onRaise (fun x => do noteFrame x env; theTreesLotGoes x)) fs s
  rw [Sem.onRaise_eq_wrap]
  unfold forTurn
  refine sg_bindF (wpAny_standAt (sg_bindF (wpAny_onRaise (wpAny_mono h (fun r s1 h1 => ?_) fun _ _ q => q.elim))))
  cases r with
  | none => exact sg_again rfl h1
  | some v =>
    refine sg_bindF (wpAny_mono h1 (fun _ s2 h2 => ?_) fun _ _ q => q)
    refine sg_bindF (wpAny_mono h2 (fun _ s3 h3 => ?_) fun _ _ q => q)
    rw [bind_wrap]
    rw [Sem.wrap_congr (execs body env) (K' := fun f => match f with
            | .next | .cont => .pure (.again (.forLoop target it body [] env))
            | .brk => .pure (.done .next)
            | .ret v => .pure (.done (.ret v))) (H' := jLoop env) _ _ (fun f => by cases f <;> rfl) (fun e => rfl)]
    exact h3
theorem sg_func {body : List Stmt} {H : Value → Sem PySem.Fin}
    (h : ∀ H, Sg (model P w) A R Y n b (.func body env) ((execs body env).wrap (fun f => .pure (.done (.ret (match f with | .ret v => v | _ => .none)))) H id id) fs s) :
    Sg (model P w) A R Y n b (.func body env) ((model P w).den (.func body env)) fs s := by
  show Sg _ A R Y n b _ (.point [] fun _ => ((execs body env).onRaise (leaving env)) >>= _) fs s
  refine sg_point ?_
  rw [Sem.onRaise_eq_wrap, Sem.bind_eq_wrap', Sem.wrap_wrap]
  rw [Sem.wrap_congr (execs body env) _ _ (K' := fun f => .pure (.done (.ret (match f with | .ret v => v | _ => .none))))
    (H' := fun e => (leaving env e).wrap (fun _ => .raise e) .raise id id) (fun f => by cases f <;> rfl)
    (fun e => by rw [Sem.bind_eq_wrap, Sem.wrap_wrap]; rfl)]
  exact h _
end
end GB
/-! generator defs over data: the body, statement by statement -/
namespace DL
open PySem L2 GB PyProof.Rows
/-! ### the heap below an address -/
def cutH (h : Heap) (L : Nat) : Heap := { h with objs := h.objs.extract 0 L }
theorem cutH_get {h : Heap} {L b : Nat} : (cutH h L).get? b = if b < L then h.get? b else none := by
  unfold Heap.get? cutH
  simp only [Array.getElem?_extract]
  by_cases q : b < L
  · by_cases z : b < h.objs.size
    · rw [if_pos q]
      have : b < min L h.objs.size - 0 := by omega
      simp only [this, if_true, Nat.zero_add]
    · have e : h.objs[b]? = none := Array.getElem?_eq_none (by omega)
      rw [if_pos q, e]
      have : ¬ b < min L h.objs.size - 0 := by omega
      simp only [this, if_false]
  · rw [if_neg q]
    have : ¬ b < min L h.objs.size - 0 := by omega
    simp only [this, if_false]
theorem cutH_size {h : Heap} {L : Nat} (q : L ≤ h.objs.size) : (cutH h L).objs.size = L := by unfold cutH; simp [Array.size_extract]; omega
theorem cutH_lt {h : Heap} {L b : Nat} {o : Obj} (e : (cutH h L).get? b = some o) : b < L ∧ h.get? b = some o := by
  rw [cutH_get] at e
  split at e
  · rename_i q; exact ⟨q, e⟩
  · cases e
structure GE where
  env : PySem.Env
  outer : List PySem.Env
  A : Around
  T : List String
/-- a waking: the state, the world, what the waker wants kept as it is -/
structure Bs where
  s : Shared
  w : Wd
  pn : List (Addr × Obj)
/-- of the store the tables alone, that stand first -/
def tbS (T : List String) (w : Wd) : Wd := ⟨w.M, w.ρ, T.map D.tab, w.H⟩
abbrev noSt (w : Wd) : Wd := tbS [] w
def TbAt (T : List String) (st : Store) : Prop := T.map D.tab <+: st
theorem TbAt.nil {st : Store} : TbAt [] st := List.nil_prefix
theorem TbAt.get {T : List String} {st : Store} (h : TbAt T st) {l : Nat} {d : D} (e : (T.map D.tab)[l]? = some d) : st[l]? = some d ∧ ∃ n, d = .tab n := by
  obtain ⟨r, rfl⟩ := h
  have hl : l < (T.map D.tab).length := (List.getElem?_eq_some_iff.mp e).1
  refine ⟨by rw [List.getElem?_append_left hl]; exact e, ?_⟩
  rw [List.getElem?_map] at e
  cases z : T[l]? with
  | none => rw [z] at e; cases e
  | some n => rw [z] at e; cases e; exact ⟨n, rfl⟩
theorem TbAt.self {T : List String} : TbAt T (T.map D.tab) := List.prefix_rfl
theorem TbAt.le {T : List String} {st : Store} (h : TbAt T st) : (T.map D.tab).length ≤ st.length := h.length_le
theorem RS.tb {K : PySem.W.Frag} {w w' : Wd} (hM : ∀ a o, w.M a = some o → w'.M a = some o) {a : Addr} {o : HO} {n : String} (r : RS K w a o (.tab n)) : RS K w' a o (.tab n) := by
  rcases r with r | ⟨m, e1, e2, ps, e3, e4, e5⟩
  · exact r.elim
  · exact .inr ⟨m, e1, e2, ps, e3, e4, fun p cv q => let ⟨c, a, b⟩ := e5 p cv q; ⟨c, a, hM _ _ b⟩⟩
theorem tb_ok {K : PySem.W.Frag} {T : List String} {w : Wd} (k : Ok K w) (h : TbAt T w.st) : Ok K (tbS T w) := by
  refine ⟨k.ex, fun l d e => ?_, fun l m a b q => k.inj l m (Nat.lt_of_lt_of_le a h.le) (Nat.lt_of_lt_of_le b h.le) q⟩
  obtain ⟨h1, n, rfl⟩ := h.get e
  obtain ⟨o, q1, q2⟩ := k.sto l _ h1
  refine ⟨o, q1, ?_⟩
  rcases q2 with q2 | ⟨q2, q3⟩
  · cases q2
  · exact .inr ⟨q2, RS.tb (fun _ _ x => x) q3⟩
def w0 (E : GE) (b : Bs) : Wd := tbS E.T b.w
mutual
def noRef : D → Bool
  | .tup xs => noRefL xs
  | .lst xs => noRefL xs
  | .dct kvs => noRefK kvs
  | .ins _ fs => noRefF fs
  | .exc _ fs => noRefF fs
  | .ref _ => false
  | _ => true
def noRefL : List D → Bool
  | [] => true
  | x :: xs => noRef x && noRefL xs
def noRefK : List (Key × D) → Bool
  | [] => true
  | (_, x) :: xs => noRef x && noRefK xs
def noRefF : List (Str × D) → Bool
  | [] => true
  | (_, x) :: xs => noRef x && noRefF xs
end
theorem noRefL_mem : ∀ {xs : List D} {x : D}, noRefL xs = true → x ∈ xs → noRef x = true
  | y :: xs, x, h, hm => by
    rw [noRefL, Bool.and_eq_true] at h
    rcases List.mem_cons.mp hm with rfl | hm
    · exact h.1
    · exact noRefL_mem h.2 hm
theorem noRefK_mem : ∀ {xs : List (Key × D)} {x : Key × D}, noRefK xs = true → x ∈ xs → noRef x.2 = true
  | (a, y) :: xs, x, h, hm => by
    rw [noRefK, Bool.and_eq_true] at h
    rcases List.mem_cons.mp hm with rfl | hm
    · exact h.1
    · exact noRefK_mem h.2 hm
theorem noRefF_mem : ∀ {xs : List (Str × D)} {x : Str × D}, noRefF xs = true → x ∈ xs → noRef x.2 = true
  | (a, y) :: xs, x, h, hm => by
    rw [noRefF, Bool.and_eq_true] at h
    rcases List.mem_cons.mp hm with rfl | hm
    · exact h.1
    · exact noRefF_mem h.2 hm
theorem Rep.noSt {K : PySem.W.Frag} {w : Wd} {T : List String} {v : V} {d : D} (r : Rep K w v d) : noRef d = true → Rep K (tbS T w) v d := by
  induction r with
  | non => exact fun _ => .non
  | bl => exact fun _ => .bl
  | int => exact fun _ => .int
  | str => exact fun _ => .str
  | tup h l _ ih => exact fun n => .tup h l fun i v x a b => ih i v x a b (noRefL_mem (by rw [noRef] at n; exact n) (List.mem_of_getElem? b))
  | lst h l _ ih => exact fun n => .lst h l fun i v x a b => ih i v x a b (noRefL_mem (by rw [noRef] at n; exact n) (List.mem_of_getElem? b))
  | dct h l _ ih => exact fun n => .dct h l fun i v x a b => ih i v x a b (noRefK_mem (by rw [noRef] at n; exact n) (List.mem_of_getElem? b))
  | ins h l _ ih => exact fun n => .ins h l fun i v x a b => ih i v x a b (noRefF_mem (by rw [noRef] at n; exact n) (List.mem_of_getElem? b))
  | ref h => intro n; rw [noRef] at n; cases n
  | scr h => exact fun _ => .scr h
  | ty => exact fun _ => .ty
  | cls => exact fun _ => .cls
  | opq => exact fun _ => .opq
  | fn h => exact fun _ => .fn h
  | exc0 h => exact fun _ => .exc0 h
  | exc1 h h' ne l _ ih => exact fun n => .exc1 h h' ne l fun i v x a b => ih i v x a b (noRefF_mem (by rw [noRef] at n; exact n) (List.mem_of_getElem? b))
section
variable {P : Program} {wd : World} {K : PySem.W.Frag} {mg : Str → Option Value} {base : Heap} {k : Nat} {N : List Str} {sc : SC}
def gX (P : Program) (wd : World) (K : PySem.W.Frag) (mg : Str → Option Value) (base : Heap) (N : List Str) (E : GE) (b : Bs) : Cx where
  prog := P
  w := wd
  K := K
  mg := mg
  base := base
  A := E.A
  N := N
  s_0 := { b.s with heap := cutH b.s.heap E.env.locals }
  H_0 := b.w.H
  env := E.env
  outer := E.outer
  stack := E.env :: E.outer
  ex := []
  fn := fun _ => true
  calm := true
  pn := b.pn
  xe := fun _ _ => False
/-- what stays of a generator's frame -/
structure GOK (K : PySem.W.Frag) (mg : Str → Option Value) (base : Heap) (k : Nat) (sc : SC) (E : GE) : Prop where
  mod : Mod K mg base
  room : Room k E.A
  grd : Tp E.A base
  scp : E.env.scope = sc.s
  fn : sc.fn = fun _ => true
  cdn : sc.cd = none
  frame : E.env.frame = some E.env.locals
  kind : E.env.scope.kind = .function
  co : E.env.scope.isCoroutine = false
  glob : E.env.globals = mainGlobals
  blt : E.env.builtins = builtinsNs
  nocell : ∀ x, E.env.kindOf x ≠ some .cell ∧ E.env.kindOf x ≠ some .free
  cells : ∀ x, E.env.cells.lookup x = none
  frames : E.A.frames = some (E.env :: E.outer)
  bsL : base.objs.size ≤ E.env.locals
  frL : ∀ b ∈ frs E.outer, b < E.env.locals
  inter : interactive E.env = false
/-- woken here -/
structure Rdy (P : Program) (wd : World) (K : PySem.W.Frag) (base : Heap) (E : GE) (b : Bs) : Prop where
  tb : TbAt E.T b.w.st
  ok : Ok K b.w
  bs : ∀ a o, base.get? a = some o → b.s.heap.get? a = some o ∧ b.w.H a = none
  funs : b.s.heap.FunFrames base E.outer
  frf : ∀ a ∈ frs E.outer, b.w.H a = none
  hok : HOk P wd b.w.H b.s.heap
  bare : AllBare b.s.gens
  size : E.env.locals ≤ b.s.heap.objs.size
  pn : ∀ p ∈ b.pn, b.s.heap.get? p.1 = some p.2 ∧ b.w.H p.1 = none ∧ p.1 ≠ E.env.locals ∧ p.1 ∉ frs E.outer ∧ ∀ v, p.2.data ≠ .cell v
theorem funs_cut {h : Heap} {L : Nat} : ∀ {l : List PySem.Env}, h.FunFrames base l → (∀ b ∈ frs l, b < L) → (cutH h L).FunFrames base l
  | [], _, _ => trivial
  | env :: r, hl, hf => by
    obtain ⟨hk, ⟨L', o, hf', hn, ho, hd⟩, hr⟩ := hl
    have hm : L' ∈ frs (env :: r) := by unfold frs; rw [List.filterMap_cons, hf']; exact List.mem_cons_self
    refine ⟨hk, ⟨L', o, hf', hn, ?_, hd⟩, funs_cut hr fun b hb => hf b ?_⟩
    · rw [cutH_get, if_pos (hf L' hm)]; exact ho
    · unfold frs at hb ⊢
      rw [List.filterMap_cons, hf']; exact List.mem_cons_of_mem _ hb
theorem gx_ok {E : GE} {b : Bs} (g : GOK K mg base k sc E) (r : Rdy P wd K base E b) : (gX P wd K mg base N E b).Ok where
  mod := g.mod
  kind := g.kind
  glob := g.glob
  blt := g.blt
  above := by show (cutH _ _).objs.size ≤ _; rw [cutH_size r.size]; exact Nat.le_refl _
  inj := fun x y c h => by rw [show (gX P wd K mg base N E b).env.cells.lookup x = none from g.cells x] at h; cases h
  has := fun x h => by
    rcases h with h | h
    · exact absurd h (g.nocell x).1
    · exact absurd h (g.nocell x).2
  cab := fun x c _ h => by rw [show (gX P wd K mg base N E b).env.cells.lookup x = none from g.cells x] at h; cases h
  hd := fun _ => g.room.hd
  frames := g.frames
  stk := .inr ⟨rfl, g.frame⟩
  exf := fun b h => by cases h
  bs := fun a o e => by
    have := r.bs a o e
    refine ⟨?_, this.2⟩
    show (cutH _ _).get? a = _
    rw [cutH_get, if_pos (Nat.lt_of_lt_of_le (Heap.lt_size e) g.bsL)]; exact this.1
  bsz := by show _ ≤ (cutH _ _).objs.size; rw [cutH_size r.size]; exact g.bsL
  noex := fun _ _ _ h => by cases h
  exfs := fun _ h => by cases h
  funs := funs_cut r.funs g.frL
  frf := r.frf
theorem gx_G {E : GE} {b : Bs} (g : GOK K mg base k sc E) : G P wd K mg base k N sc WF (gX P wd K mg base N E b) where
  prog := rfl
  wd := rfl
  kk := rfl
  mg := rfl
  bs := rfl
  nn := rfl
  scp := g.scp
  calm := rfl
  room := g.room
  grd := g.grd
  tk := fun u s' ⟨_, _, _, _, _, _, _, _, _, _, _, _, _, _, _, _, w⟩ => w
  pass := PassesOwn.never
  fnc := g.fn.symm
  code := fun _ _ h => by rw [g.cdn] at h; cases h
  top := fun _ => ⟨rfl, g.frame, rfl⟩
/-- running -/
def GIn (P : Program) (wd : World) (K : PySem.W.Frag) (mg : Str → Option Value) (base : Heap) (N : List Str) (E : GE) (wa : Wd) (b : Bs) (ip : List (Addr × Obj)) (Γ : DEnv) (st : Store) (s : Shared) : Prop :=
  ∃ (w : Wd) (σ : L2.St), Inv (gX P wd K mg base N E b) ip σ w.H s ∧ Ok K w ∧ Evo (w0 E b) w ∧ w.st = st ∧ Fr K b.w.H w Γ σ ∧ E.env.locals ≤ b.s.heap.objs.size ∧ Ext wa w ∧ ∀ p ∈ ip, ∀ q ∈ b.pn, q.1 ≠ p.1
/-- no slot of its own -/
def NoOw (Γ : DEnv) : Prop := ∀ (i : Nat) (d : D), Γ[i]? ≠ some (.ow d)
/-- asleep: the generator's own raw objects stand and are not tracked -/
def GpAt (gp : List (Addr × Obj)) (b : Bs) : Prop := ∀ p ∈ gp, b.s.heap.get? p.1 = some p.2 ∧ b.w.H p.1 = none ∧ ∀ q ∈ b.pn, q.1 ≠ p.1
structure GpOK (E : GE) (gp : List (Addr × Obj)) : Prop where
  above : ∀ p ∈ gp, E.env.locals ≤ p.1
  cell : ∀ p ∈ gp, ∀ v, p.2.data ≠ .cell v
structure Kept (P : Program) (wd : World) (E : GE) (b : Bs) (H : Hp) (s1 : Shared) : Prop where
  os : s1.os = b.s.os
  bare : AllBare s1.gens
  un : Un (frs E.outer) [] b.w.H H (cutH b.s.heap E.env.locals) s1.heap
  hok : HOk P wd H s1.heap
  pn : ∀ p ∈ b.pn, s1.heap.get? p.1 = some p.2 ∧ H p.1 = none
theorem kept_of {E : GE} {b : Bs} {ip : List (Addr × Obj)} {σ : L2.St} {H : Hp} {s : Shared} (I : Inv (gX P wd K mg base N E b) ip σ H s) : Kept P wd E b H s :=
  ⟨I.os, I.bare, I.base, I.hok, fun p hp => let ⟨a, b, _⟩ := I.pin p (List.mem_append_left _ hp); ⟨a, b⟩⟩
/-- woken again: the same frame over another ground -/
theorem gin_woken {E : GE} {b b2 : Bs} {ip : List (Addr × Obj)} {Γ : DEnv} {w : Wd} {σ : L2.St} {s : Shared} {oL : Obj} (g : GOK K mg base k sc E) (I : Inv (gX P wd K mg base N E b) ip σ w.H s) (ok : Ok K w) (hst : w.st = E.T.map D.tab) (f : Fr K b.w.H w Γ σ) (no : NoOw Γ)
    (hL : s.heap.get? E.env.locals = some oL) (r : Rdy P wd K base E b2) (x : Ext w (w0 E b2)) {wa : Wd} (xa : Ext wa w) (hg : GpAt ((E.env.locals, oL) :: ip) b2) : GIn P wd K mg base N E wa b2 ip Γ (E.T.map D.tab) b2.s := by
  have hLn := hg _ List.mem_cons_self
  refine ⟨w0 E b2, σ, ⟨gx_ok g r, rfl, r.bare, ?_, ?_, fun x c h => ?_, hLn.2.1, fun x c h => ?_, fun p hp => ?_, r.hok, I.len⟩, tb_ok r.ok r.tb, Evo.refl _, rfl, ⟨f.len, fun i d h => ?_, fun i d h => absurd h (no i d), fun i j d e a _ h => absurd h (no i d)⟩, r.size, xa.trans x, fun p hp q hq => (hg p (List.mem_cons_of_mem _ hp)).2.2 q hq⟩
  · exact ⟨fun a o e n _ _ => (cutH_lt e).2, fun a o e n hf _ => ⟨o.slots, (cutH_lt e).2⟩, fun a o e n _ => n, fun a o e _ => ⟨o, (cutH_lt e).2⟩, fun _ _ q => q, fun _ _ _ q => q, fun _ ps q => ⟨#[], by rw [show (gX P wd K mg base N E b2).H_0 = b2.w.H from rfl] at q; show b2.w.H _ = _; rw [q]; simp⟩⟩
  · obtain ⟨m, hm, hv⟩ := I.loc
    refine ⟨m, ?_, fun i x v h1 h2 h3 => ?_⟩
    · obtain ⟨o, es, ep, ho, q⟩ := hm
      have e1 : s.heap.get? E.env.locals = some o := ho
      rw [hL] at e1
      cases e1
      exact ⟨oL, es, ep, hLn.1, q⟩
    · obtain ⟨u, r1, lk⟩ := hv i x v h1 h2 h3
      refine ⟨u, r1, ?_⟩
      rcases lk with lk | ⟨lk, _⟩
      · exact .inl lk
      · rcases lk with lk | lk
        · exact absurd lk (g.nocell x).1
        · exact absurd lk (g.nocell x).2
  · rw [show (gX P wd K mg base N E b2).env.cells.lookup x = none from g.cells x] at h; cases h
  · rw [show (gX P wd K mg base N E b2).env.cells.lookup x = none from g.cells x] at h; cases h
  · rcases List.mem_append.mp hp with hp | hp
    · exact r.pn p hp
    · have h1 := hg p (List.mem_cons_of_mem _ hp)
      obtain ⟨_, _, h4, h5, h6⟩ := I.pin p (List.mem_append_right _ hp)
      exact ⟨h1.1, h1.2.1, h4, h5, h6⟩
  · obtain ⟨v, h1, h2⟩ := f.sh i d h
    exact ⟨v, h1, h2.ext x⟩
/-! ### the protocol: the items are known -/
def GYp (P : Program) (wd : World) (K : PySem.W.Frag) (base : Heap) (E : GE) (ds : List D) : Pro Bs := fun n b v s1 kap =>
  ∃ (x : V) (d : D) (w : Wd) (gp : List (Addr × Obj)), 1 ≤ n ∧ n ≤ ds.length ∧ ds[ds.length - n]? = some d ∧ RelV x v ∧ Rep K w x d ∧ Ok K w ∧ Evo (w0 E b) w ∧ w.st = E.T.map D.tab ∧ Kept P wd E b w.H s1 ∧ GpOK E gp ∧ GpAt gp ⟨s1, w, b.pn⟩ ∧
    ∀ b2 : Bs, Rdy P wd K base E b2 → Ext w (w0 E b2) → GpAt gp b2 → kap b2 (.send .none) b2.s
def GRp (P : Program) (wd : World) (K : PySem.W.Frag) (E : GE) (ds : List D) : REn Bs := fun n b r s1 => r = .ok (.ret .none) ∧ n = 1 ∧ ∃ w : Wd, Ok K w ∧ Evo (w0 E b) w ∧ TbAt E.T w.st ∧ Kept P wd E b w.H s1
/-! ### a generator's statements over data: what is out so far goes along -/
inductive GSR where
  | nx (Γ : DEnv) (st : Store) (ys : List D) | bk (Γ : DEnv) (st : Store) (ys : List D) | ct (Γ : DEnv) (st : Store) (ys : List D) | no
abbrev YM := List String → DEnv → Store → List D → GSR
structure Cn where
  nx : DEnv → Store → List D → Prop
  bk : DEnv → Store → List D → Prop := fun _ _ _ => False
  ct : DEnv → Store → List D → Prop := fun _ _ _ => False
def PostG (r : GSR) (C : Cn) : Prop := match r with
  | .nx Γ st ys => C.nx Γ st ys
  | .bk Γ st ys => C.bk Γ st ys
  | .ct Γ st ys => C.ct Γ st ys
  | .no => False
/-- all that is out begins ds -/
structure Cn.Pre (C : Cn) (ds : List D) : Prop where
  nx : ∀ Γ st ys, C.nx Γ st ys → ys <+: ds
  bk : ∀ Γ st ys, C.bk Γ st ys → ys <+: ds
  ct : ∀ Γ st ys, C.ct Γ st ys → ys <+: ds
def GSP (P : Program) (wd : World) (K : PySem.W.Frag) (mg : Str → Option Value) (base : Heap) (N : List Str) (E : GE) (wa : Wd) (b : Bs) (ip : List (Addr × Obj)) (C : Cn) (ys : List D) (f : Flow) (s : Shared) : Prop := match f with
  | .next => ∃ Γ st, GIn P wd K mg base N E wa b ip Γ st s ∧ C.nx Γ st ys
  | .brk => ∃ Γ st, GIn P wd K mg base N E wa b ip Γ st s ∧ C.bk Γ st ys
  | .cont => ∃ Γ st, GIn P wd K mg base N E wa b ip Γ st s ∧ C.ct Γ st ys
  | .ret _ => False
/-- where the generator's code stands -/
structure GAt (E : GE) (ip : List (Addr × Obj)) (A : Around) (c : Code) (fs : List Frame) (gd : Bool → Bool) : Prop where
  over : A.over c fs = E.A
  split : splitAtGen fs = none
  guard : fs.any Frame.guarded = false
  gd : gd false = false
  ip : ∀ p ∈ ip, E.env.locals < p.1
def Rule (P : Program) (wd : World) (K : PySem.W.Frag) (mg : Str → Option Value) (base : Heap) (k : Nat) (N : List Str) (sc : SC) (t : PySem.Env → Sem Flow) (m : YM) : Prop :=
  ∀ (E : GE) (ds : List D) (A : Around) (wa : Wd) (n : Nat) (ys : List D) (b : Bs) (ip : List (Addr × Obj)) (c : Code) (fs : List Frame) (K' : Flow → Sem PySem.Fin) (J : Value → Sem PySem.Fin) (gd : Bool → Bool) (lv : List Value → List Value) (s : Shared) (Γ : DEnv) (st : Store) (C : Cn),
    GOK K mg base k sc E → GAt E ip A c fs gd → n + ys.length = ds.length + 1 → C.Pre ds →
    (∀ n' ys' b' s' f, n' + ys'.length = ds.length + 1 → GSP P wd K mg base N E wa b' ip C ys' f s' → Sg (model P wd) A (GRp P wd K E ds) (GYp P wd K base E ds) n' b' c (K' f) fs s') →
    GIn P wd K mg base N E wa b ip Γ st s → PostG (m E.T Γ st ys) C → Sg (model P wd) A (GRp P wd K E ds) (GYp P wd K base E ds) n b c ((t E.env).wrap K' J gd lv) fs s
def Grow (m : YM) : Prop := ∀ (T : List String) (Γ : DEnv) (st : Store) (ys : List D) (C : Cn) (ds : List D), C.Pre ds → PostG (m T Γ st ys) C → ys <+: ds
def GQt (P : Program) (wd : World) (K : PySem.W.Frag) (mg : Str → Option Value) (base : Heap) (k : Nat) (N : List Str) (sc : SC) (st : Stmt) (m : YM) : Prop := Rule P wd K mg base k N sc (exec st) m ∧ Grow m
def GQl (P : Program) (wd : World) (K : PySem.W.Frag) (mg : Str → Option Value) (base : Heap) (k : Nat) (N : List Str) (sc : SC) (ss : List Stmt) (m : YM) : Prop := Rule P wd K mg base k N sc (execs ss) m ∧ Grow m
def yNil : YM := fun _ Γ st ys => .nx Γ st ys
theorem gq_nil : GQl P wd K mg base k N sc [] yNil := by
  refine ⟨fun E ds A wa n ys b ip c fs K' J gd lv s Γ st C g a hn pre hK hI hp => ?_, fun T Γ st ys C ds pre h => pre.nx _ _ _ h⟩
  exact sg_execs_nil (hK n ys b s .next hn ⟨Γ, st, hI, hp⟩)
def ySeq (m m' : YM) : YM := fun T Γ st ys => match m T Γ st ys with
  | .nx Γ' st' ys' => m' T Γ' st' ys'
  | r => r
theorem gq_cons {st : Stmt} {rest : List Stmt} {m m' : YM} (a : GQt P wd K mg base k N sc st m) (r : GQl P wd K mg base k N sc rest m') : GQl P wd K mg base k N sc (st :: rest) (ySeq m m') := by
  have hpost : ∀ T Γ st ys C, PostG (ySeq m m' T Γ st ys) C → PostG (m T Γ st ys) { C with nx := fun Γ' st' ys' => PostG (m' T Γ' st' ys') C } := fun T Γ st ys C h => by
    unfold ySeq at h
    cases q : m T Γ st ys <;> rw [q] at h <;> exact h
  have hpre : ∀ (T : List String) (C : Cn) ds, C.Pre ds → Cn.Pre { C with nx := fun Γ' st' ys' => PostG (m' T Γ' st' ys') C } ds := fun T C ds pre => ⟨fun Γ st ys h => r.2 T Γ st ys C ds pre h, pre.bk, pre.ct⟩
  refine ⟨fun E ds A wa n ys b ip c fs K' J gd lv s Γ st0 C g at_ hn pre hK hI hp => ?_, fun T Γ st ys C ds pre h => a.2 T Γ st ys _ ds (hpre T C ds pre) (hpost _ _ _ _ _ h)⟩
  refine sg_execs_cons ?_
  refine a.1 E ds A wa n ys b ip c fs _ J gd lv s Γ st0 _ g at_ hn (hpre _ C ds pre) (fun n' ys' b' s' f hn' hs => ?_) hI (hpost _ _ _ _ _ hp)
  cases f with
  | next =>
    obtain ⟨Γ', st', I', q⟩ := hs
    exact r.1 E ds A wa n' ys' b' ip c fs K' J gd lv s' Γ' st' C g at_ hn' pre hK I' q
  | brk => exact hK n' ys' b' s' .brk hn' hs
  | cont => exact hK n' ys' b' s' .cont hn' hs
  | ret u => exact hs.elim
/-- a statement that hands out nothing -/
def yPlain (m : SM) : YM := fun _ Γ st ys => match m Γ st with
  | .nx Γ' st' => .nx Γ' st' ys
  | .bk Γ' st' => .bk Γ' st' ys
  | .ct Γ' st' => .ct Γ' st' ys
  | _ => .no
/-- yield e: with no thing of its own about -/
def isTb : List String → Store → Bool
  | [], [] => true
  | n :: T, .tab m :: st => decide (n = m) && isTb T st
  | _, _ => false
theorem isTb_iff : ∀ {T : List String} {st : Store}, isTb T st = true → st = T.map D.tab
  | [], [], _ => rfl
  | n :: T, .tab m :: st, h => by
    rw [isTb, Bool.and_eq_true, decide_eq_true_eq] at h
    rw [List.map_cons, ← isTb_iff h.2, h.1]
  | [], _ :: _, h => by cases h
  | _ :: _, [], h => by cases h
  | _ :: _, .non :: _, h => by cases h
  | _ :: _, .bl _ :: _, h => by cases h
  | _ :: _, .int _ :: _, h => by cases h
  | _ :: _, .str _ :: _, h => by cases h
  | _ :: _, .tup _ :: _, h => by cases h
  | _ :: _, .lst _ :: _, h => by cases h
  | _ :: _, .dct _ :: _, h => by cases h
  | _ :: _, .ins _ _ :: _, h => by cases h
  | _ :: _, .ref _ :: _, h => by cases h
  | _ :: _, .scr _ :: _, h => by cases h
  | _ :: _, .ty _ :: _, h => by cases h
  | _ :: _, .cls _ :: _, h => by cases h
  | _ :: _, .opq :: _, h => by cases h
  | _ :: _, .tomb :: _, h => by cases h
  | _ :: _, .exc _ _ :: _, h => by cases h
  | _ :: _, .fn _ _ _ :: _, h => by cases h
@[simp] theorem isTb_self : ∀ {T : List String}, isTb T (T.map D.tab) = true
  | [] => rfl
  | n :: T => by rw [List.map_cons, isTb, isTb_self]; simp
def hasTb : List String → Store → Bool
  | [], _ => true
  | n :: T, .tab m :: st => decide (n = m) && hasTb T st
  | _, _ => false
theorem hasTb_at : ∀ {T : List String} {st : Store}, hasTb T st = true → TbAt T st
  | [], _, _ => TbAt.nil
  | n :: T, d :: st, h => by
    cases d with
    | tab m =>
      rw [hasTb, Bool.and_eq_true, decide_eq_true_eq] at h
      obtain ⟨r, e⟩ := hasTb_at h.2
      exact ⟨r, by rw [List.map_cons, List.cons_append, e, h.1]⟩
    | _ => cases h
  | _ :: _, [], h => by cases h
@[simp] theorem hasTb_app : ∀ {T : List String} {r : Store}, hasTb T (T.map D.tab ++ r) = true
  | [], _ => rfl
  | n :: T, r => by rw [List.map_cons, List.cons_append, hasTb, hasTb_app]; simp
def yYield (m : EM) : YM := fun T Γ st ys => match m Γ st with
  | .ok d s => if isTb T s = true ∧ Γ.all (fun x => match x with | .ow _ => false | _ => true) = true then .nx Γ s (ys ++ [d]) else .no
  | _ => .no
theorem noOw_of {Γ : DEnv} (h : Γ.all (fun x => match x with | .ow _ => false | _ => true) = true) : NoOw Γ := fun i d e => by
  have := List.all_eq_true.mp h _ (List.mem_of_getElem? e)
  cases this
theorem gq_yield {e : Expr} {m : EM} {yp pos : Pos} (h : PR P wd K mg base k N sc WF e m) : GQt P wd K mg base k N sc (.Expr (.Yield (some e) yp) pos) (yYield m) := by
  obtain ⟨t, pt, rt⟩ := h
  have key : ∀ T Γ st ys C, PostG (yYield m T Γ st ys) C → ∃ d, m Γ st = .ok d (T.map D.tab) ∧ NoOw Γ ∧ C.nx Γ (T.map D.tab) (ys ++ [d]) := fun T Γ st ys C h => by
    unfold yYield at h
    split at h
    · rename_i d s hd
      split at h
      · rename_i hn
        have := isTb_iff hn.1
        subst this
        exact ⟨d, hd, noOw_of hn.2, h⟩
      · exact h.elim
    · exact h.elim
  refine ⟨fun E ds A wa n ys b ip c fs K' J gd lv s Γ st0 C g at_ hn pre hK hI hp => ?_, fun T Γ st ys C ds pre h => ?_⟩
  · obtain ⟨d, hd, no, hC⟩ := key _ _ _ _ _ hp
    obtain ⟨w, σ, I, ok, ev, hst, f, hz, xa, xp⟩ := hI
    have hpre := pre.nx _ _ _ hC
    have hlen := hpre.length_le
    rw [List.length_append, List.length_singleton] at hlen
    obtain ⟨n, rfl⟩ : ∃ n', n = n' + 1 := ⟨n - 1, by omega⟩
    have hat : ds[ds.length - n]? = some d := by
      have e1 : ds.length - n = ys.length := by omega
      rw [e1]
      obtain ⟨r, rfl⟩ := hpre
      simp
    have ht : t σ w.H fun x H' => ∃ w', H' = w'.H ∧ Ok K w' ∧ Evo (w0 E b) w' ∧ w'.st = E.T.map D.tab ∧ Rep K w' x d ∧ Fr K b.w.H w' Γ σ ∧ Ext w w' := by
      refine rt b.w.H w Γ σ ok f _ ?_
      rw [hst, hd]
      exact fun v w' e k' hs r => ⟨w', rfl, k', ev.trans ok e, hs, r, f.evo e, e.ext⟩
    refine sg_Expr_Yield at_.split at_.gd at_.guard ?_ g.co g.inter
    rw [at_.over]
    refine wpAny_mono ((pt _ (gx_G g)).run ip s σ w.H _ I ht) (fun v s1 hv => ?_) fun _ _ q => (show False from q).elim
    obtain ⟨x, H', I', rv, w', rfl, k', e', hs', r', f', x'⟩ := hv
    intro kap hkap
    obtain ⟨mL, ⟨oL, es, ep, hL, hd', hL2⟩, _⟩ := I'.loc
    refine ⟨x, d, w', (E.env.locals, oL) :: ip, by omega, by omega, hat, rv, r', k', e', hs', kept_of I', ⟨fun p hp => ?_, fun p hp v q => ?_⟩, fun p hp => ?_, fun b2 r2 x2 g2 => hkap b2 .none b2.s ?_⟩
    · rcases List.mem_cons.mp hp with rfl | hp
      · exact Nat.le_refl _
      · exact Nat.le_of_lt (at_.ip p hp)
    · rcases List.mem_cons.mp hp with rfl | hp
      · rw [show oL.data = _ from hd'] at q; cases q
      · exact (I'.pin p (List.mem_append_right _ hp)).2.2.2.2 v q
    · rcases List.mem_cons.mp hp with rfl | hp
      · exact ⟨hL, I'.free, fun q hq => (I'.pin q (List.mem_append_left _ hq)).2.2.1⟩
      · have := I'.pin p (List.mem_append_right _ hp)
        exact ⟨this.1, this.2.1, xp p hp⟩
    · have := gin_woken g I' k' hs' f' no hL r2 x2 (xa.trans x') g2
      exact hK n (ys ++ [d]) b2 b2.s .next (by rw [List.length_append, List.length_singleton]; omega) ⟨Γ, _, this, hC⟩
  · obtain ⟨d, _, _, hC⟩ := key _ _ _ _ _ h
    exact (List.prefix_append _ _).trans (pre.nx _ _ _ hC)
def yIf (mc : EM) (a b : YM) : YM := fun T Γ st ys => match mc Γ st with
  | .ok (.bl true) s => a T Γ s ys
  | .ok (.bl false) s => b T Γ s ys
  | _ => .no
/-! ### for -/
def forY (g : GM) (mb : YM) : List D → YM
  | [], _, Γ, st, ys => .nx Γ st ys
  | d :: r, T, Γ, st, ys => match g d Γ with
    | none => .no
    | some Γ1 => match mb T Γ1 st ys with
      | .nx Γ2 st2 ys2 => forY g mb r T Γ2 st2 ys2
      | .ct Γ2 st2 ys2 => forY g mb r T Γ2 st2 ys2
      | .bk Γ2 st2 ys2 => .nx Γ2 st2 ys2
      | .no => .no
def yFor (mi : EM) (g : GM) (mb : YM) : YM := fun T Γ st ys => match mi Γ st with
  | .ok (.tup xs) s => forY g mb xs T Γ s ys
  | _ => .no
theorem grow_for {g : GM} {mb : YM} (h : Grow mb) : ∀ xs, Grow (forY g mb xs)
  | [], T, Γ, st, ys, C, ds, pre, q => pre.nx _ _ _ q
  | d :: r, T, Γ, st, ys, C, ds, pre, q => by
    unfold forY at q
    split at q
    · exact q.elim
    · rename_i Γ1 _
      have ih := fun Γ2 st2 ys2 => grow_for (g := g) h r T Γ2 st2 ys2 C ds pre
      refine h T Γ1 st ys { nx := fun Γ2 st2 ys2 => PostG (forY g mb r T Γ2 st2 ys2) C, ct := fun Γ2 st2 ys2 => PostG (forY g mb r T Γ2 st2 ys2) C, bk := fun Γ2 st2 ys2 => C.nx Γ2 st2 ys2 } ds ⟨ih, pre.nx, ih⟩ ?_
      split at q <;> rename_i e <;> rw [e] <;> exact q
theorem gq_for {tg iter : Expr} {body : List Stmt} {pos : Pos} {mi : EM} {mg' : GM} {mb : YM} {is : List Nat} (hi : PIt P wd K mg base k N sc WF tg iter mi) (hg : PGt P wd K mg base k N sc WF tg mg' is) (hb : GQl P wd K mg base k N sc body mb)
    (hs : ∀ env x, foldedSetIterable iter env x = pure x := by intro _ _; rfl) : GQt P wd K mg base k N sc (.For tg iter body [] pos) (yFor mi mg' mb) := by
  obtain ⟨wi, pi, ri⟩ := hi
  obtain ⟨gg, pg, rg⟩ := hg
  refine ⟨fun E ds A wa n ys b ip c fs K' J gd lv s Γ st0 C g at_ hn pre hK hI hp => ?_, fun T Γ st ys C ds pre h => ?_⟩
  · obtain ⟨w, σ, I, ok, ev, hst, f, hz, xa, xp⟩ := hI
    refine sg_For ?_ (hs E.env)
    rw [at_.over]
    have hw : wi σ w.H fun J' H' => ∃ w' xs, H' = w'.H ∧ Ok K w' ∧ Evo (w0 E b) w' ∧ Fr K b.w.H w' Γ σ ∧ Ext w w' ∧ Wlk K w' J' xs ∧ PostG (forY mg' mb xs E.T Γ w'.st ys) C := by
      refine ri b.w.H w Γ σ ok f _ ?_
      unfold yFor at hp
      rw [hst]
      cases hr : mi Γ st0 with
      | ok d st' =>
        rw [hr] at hp
        cases d with
        | tup xs => exact fun J' w' e k' hs' wk => ⟨w', xs, rfl, k', ev.trans ok e, f.evo e, e.ext, wk, by rw [hs']; exact hp⟩
        | _ => exact hp.elim
      | err x st' => rw [hr] at hp; exact hp.elim
      | no => rw [hr] at hp; exact hp.elim
    refine wpAny_mono ((pi _ (gx_G g)).run ip s σ w.H _ I hw) (fun v s1 h1 => ?_) fun _ _ z => (show False from z).elim
    refine wpAny_mono h1 (fun itv s2 h2 => ?_) fun _ _ z => (show False from z).elim
    obtain ⟨it, fp, tn, J', H2, rfl, I2, T, st2, f2, w2, xs, rfl, k2, e2, fr2, x2, wk, hp2⟩ := h2
    intro p
    have hsz : (cutH b.s.heap E.env.locals).objs.size = E.env.locals := cutH_size hz
    -- the iterator's objects lie behind the frame and are not pinned
    have stat : ∀ a ∈ fp, E.env.locals < a ∧ a ∉ frs E.outer ∧ (∀ q ∈ b.pn ++ ip, q.1 ≠ a) := fun a ha => by
      obtain ⟨_, n1, n2, n3, _, n5⟩ := f2 a ha
      refine ⟨?_, n2, n5⟩
      rcases n3 with z | z
      · cases z
      · have z' : (cutH b.s.heap E.env.locals).objs.size ≤ a := z
        rw [hsz] at z'
        exact Nat.lt_of_le_of_ne z' (fun q => n1 q.symm)
    have fpok : ∀ {b' : Bs} {H' : Hp}, E.env.locals ≤ b'.s.heap.objs.size → (∀ a ∈ fp, ∀ q ∈ b'.pn, q.1 ≠ a) → (∀ a ∈ fp, H' a = none) → ∀ a ∈ fp, FpOk (gX P wd K mg base N E b') ip H' a := fun hz' hpn hn a ha => by
      obtain ⟨s1, s2, s3⟩ := stat a ha
      refine ⟨hn a ha, Nat.ne_of_gt s1, s2, .inr ?_, fun x c h => ?_, fun q hq => (List.mem_append.mp hq).elim (hpn a ha q) fun z => s3 q (List.mem_append_right _ z)⟩
      · show (cutH _ _).objs.size ≤ a
        rw [cutH_size hz']; exact Nat.le_of_lt s1
      · have h' : E.env.cells.lookup x = some c := h
        rw [g.cells x] at h'; cases h'
    have ovr : A.over (.forLoop tg (.ref it) body [] E.env) (.ret (kLoop E.env K' J gd lv) none (gd false) (lv []) c p [] :: fs) = E.A := (GenW.over_loop rfl rfl).trans at_.over
    have loop : ∀ (rem : List D) (i : Nat) (n : Nat) (ys : List D) (b' : Bs) (s' : Shared) (σ' : L2.St) (w' : Wd) (Γ' : DEnv), xs.drop i = rem → n + ys.length = ds.length + 1 → Inv (gX P wd K mg base N E b') ip σ' w'.H s' → Ok K w' → Evo (w0 E b') w' → Fr K b'.w.H w' Γ' σ' →
        E.env.locals ≤ b'.s.heap.objs.size → Ext w2 w' → tn i s'.heap → (∀ a ∈ fp, w'.H a = none) → (∀ p ∈ ip, ∀ q ∈ b'.pn, q.1 ≠ p.1) → (∀ a ∈ fp, ∀ q ∈ b'.pn, q.1 ≠ a) → PostG (forY mg' mb rem E.T Γ' w'.st ys) C →
        Sg (model P wd) A (GRp P wd K E ds) (GYp P wd K base E ds) n b' (.forLoop tg (.ref it) body [] E.env) ((model P wd).den (.forLoop tg (.ref it) body [] E.env)) (.ret (kLoop E.env K' J gd lv) none (gd false) (lv []) c p [] :: fs) s' := by
      intro rem
      induction rem with
      | nil =>
        intro i n ys b' s' σ' w' Γ' hd hn I' k' e' f' hz' x' t' fr' xp' xq' q
        have hnone : xs[i]? = none := by
          rw [List.getElem?_eq_none_iff]
          have := congrArg List.length hd
          rw [List.length_drop] at this
          simp at this
          omega
        refine sg_forTurn ?_
        rw [ovr]
        refine wpAny_mono (T.done (gX P wd K mg base N E b') rfl rfl rfl rfl i ip s' σ' w'.H NF I' (fpok hz' xq' fr') t' ((wk i w' x' k').2 hnone)) (fun r s4 ⟨hr, I4⟩ => ?_) fun _ _ z => z
        subst hr
        refine sg_leaf (.ok .next) ?_
        exact hK n ys b' s4 .next hn ⟨Γ', w'.st, ⟨w', σ', I4, k', e', rfl, f', hz', (xa.trans x2).trans x', xp'⟩, q⟩
      | cons d rem ih =>
        intro i n ys b' s' σ' w' Γ' hd hn I' k' e' f' hz' x' t' fr' xp' xq' q
        have hsome : xs[i]? = some d := by
          have := congrArg (fun l : List D => l[0]?) hd
          simpa using this
        have hdrop : xs.drop (i + 1) = rem := by
          have := congrArg List.tail hd
          simpa [List.tail_drop] using this
        obtain ⟨go, yl⟩ := (wk i w' x' k').1 d hsome
        refine sg_forTurn ?_
        rw [ovr]
        refine wpAny_mono (T.item (gX P wd K mg base N E b') rfl rfl rfl rfl i ip s' σ' w'.H NF I' (fpok hz' xq' fr') t' go) (fun r s4 ⟨u, hr, h4⟩ => ?_) fun _ _ z => z
        subst hr
        refine wpAny_mono h4 (fun _ s5 ⟨x, H5, I5, r5, y5, st5, fr5⟩ => ?_) fun _ _ z => z
        obtain ⟨w5, rfl, hs5, e5, k5, rp5⟩ := yl x H5 y5
        have I5' := I5.pinned (fpok hz' xq' fr5) (T.obj _ _ st5)
        unfold forY at q
        cases hm : mg' d Γ' with
        | none => rw [hm] at q; exact q.elim
        | some Γ1 =>
          rw [hm] at q
          dsimp only at q
          have hgg : gg x σ' w5.H fun σ6 H6 => H6 = w5.H ∧ Fr K b'.w.H w5 Γ1 σ6 := rg b'.w.H w5 Γ' Γ1 σ' x d k5 (f'.evo e5) rp5 hm _ fun σ6 f6 _ => ⟨rfl, f6⟩
          refine wpAny_mono ((pg _ (gx_G g)).run _ s5 σ' w5.H x u _ I5' r5 hgg) (fun _ s6 ⟨σ6, H6, I6, hH6, f6⟩ => ?_) fun _ _ z => (show False from z).elim
          subst hH6
          have hip : ∀ p ∈ ip ++ pinsAt fp s5.heap, E.env.locals < p.1 := fun p hp => by
            rcases List.mem_append.mp hp with hp | hp
            · exact at_.ip p hp
            · exact (stat p.1 (of_pinsAt hp).1).1
          have hip2 : ∀ p ∈ ip ++ pinsAt fp s5.heap, ∀ q ∈ b'.pn, q.1 ≠ p.1 := fun p hp => by
            rcases List.mem_append.mp hp with hp | hp
            · exact xp' p hp
            · exact xq' p.1 (of_pinsAt hp).1
          have at' : GAt E (ip ++ pinsAt fp s5.heap) A (.forLoop tg (.ref it) body [] E.env) (.ret (kLoop E.env K' J gd lv) none (gd false) (lv []) c p [] :: fs) id := by
            refine ⟨ovr, ?_, ?_, rfl, hip⟩
            · show (splitAtGen fs).map _ = none
              rw [at_.split]; rfl
            · show (gd false || fs.any Frame.guarded) = false
              rw [at_.gd, at_.guard]; rfl
          have hq : PostG (mb E.T Γ1 w5.st ys) { nx := fun Γ2 st2 ys2 => PostG (forY mg' mb rem E.T Γ2 st2 ys2) C, ct := fun Γ2 st2 ys2 => PostG (forY mg' mb rem E.T Γ2 st2 ys2) C, bk := fun Γ2 st2 ys2 => C.nx Γ2 st2 ys2 } := by
            rw [hs5]
            split at q <;> rename_i e <;> rw [e] <;> exact q
          have gr := fun Γ2 st2 ys2 => grow_for (g := mg') hb.2 rem E.T Γ2 st2 ys2 C ds pre
          refine hb.1 E ds A w2 n ys b' (ip ++ pinsAt fp s5.heap) _ _ _ _ id id s6 Γ1 w5.st _ g at' hn ⟨gr, pre.nx, gr⟩ (fun n' ys' b2 s7 fl hn' hs7 => ?_) ⟨w5, σ6, I6, k5, e'.trans k' e5, rfl, f6, hz', x'.trans e5.ext, hip2⟩ hq
          have again : ∀ Γ2 st2, GIn P wd K mg base N E w2 b2 (ip ++ pinsAt fp s5.heap) Γ2 st2 s7 → PostG (forY mg' mb rem E.T Γ2 st2 ys') C →
              Sg (model P wd) A (GRp P wd K E ds) (GYp P wd K base E ds) n' b2 (.forLoop tg (.ref it) body [] E.env) (.pure (.again (.forLoop tg (.ref it) body [] E.env))) (.ret (kLoop E.env K' J gd lv) none (gd false) (lv []) c p [] :: fs) s7 := by
            rintro Γ2 st2 ⟨w7, σ7, I7, k7, e7, rfl, f7, hz7, x7, p7⟩ q7
            refine sg_again rfl (ih (i + 1) n' ys' b2 s7 σ7 w7 Γ2 hdrop hn' I7.unpinned k7 e7 f7 hz7 x7 ?_ (fun a ha => ?_) (fun p hp => p7 p (List.mem_append_left _ hp)) (fun a ha => ?_) q7)
            · exact T.keep _ _ _ st5 fun a ha o e => (I7.pin (a, o) (List.mem_append_right _ (List.mem_append_right _ (mem_pinsAt ha e)))).1
            · obtain ⟨o, e, _⟩ := T.obj _ _ st5 a ha
              exact (I7.pin (a, o) (List.mem_append_right _ (List.mem_append_right _ (mem_pinsAt ha e)))).2.1
            · obtain ⟨o, e, _⟩ := T.obj _ _ st5 a ha
              exact p7 (a, o) (List.mem_append_right _ (mem_pinsAt ha e))
          cases fl with
          | next => obtain ⟨Γ2, st2, h1, h2⟩ := hs7; exact again Γ2 st2 h1 h2
          | cont => obtain ⟨Γ2, st2, h1, h2⟩ := hs7; exact again Γ2 st2 h1 h2
          | brk =>
            obtain ⟨Γ2, st2, ⟨w7, σ7, I7, k7, e7, rfl, f7, hz7, x7, p7⟩, h2⟩ := hs7
            refine sg_leaf (.ok .next) ?_
            exact hK n' ys' b2 s7 .next hn' ⟨Γ2, w7.st, ⟨w7, σ7, I7.unpinned, k7, e7, rfl, f7, hz7, (xa.trans x2).trans x7, fun p hp => p7 p (List.mem_append_left _ hp)⟩, h2⟩
          | ret u => exact hs7.elim
    exact loop xs 0 n ys b s2 σ w2 Γ rfl hn I2 k2 e2 fr2 hz (Ext.refl w2) st2 (fun a ha => (f2 a ha).1) xp (fun a ha q hq => (stat a ha).2.2 q (List.mem_append_left _ hq)) hp2
  · unfold yFor at h
    split at h
    · exact grow_for hb.2 _ _ _ _ _ _ _ pre h
    · exact h.elim
end
end DL
/-! a generator def is called -/
namespace DL
open PySem L2 GB PySem.Spec PyProof.Rows
section
variable {P : Program} {wd : World} {K : PySem.W.Frag} {mg : Str → Option Value} {base : Heap} {k : Nat} {N : List Str}
/-- what the call gives -/
structure MadeAt (P : Program) (wd : World) (K : PySem.W.Frag) (base : Heap) (T : List String) (k : Nat) (outer : List PySem.Env) (w : Wd) (s : Shared) (ds : List D) (a g : Nat) (L : Addr) (oG oL : Obj) (c : Code) (s' : Shared) : Prop where
  lL : s.heap.objs.size = L
  la : L < a
  lt : a < s'.heap.objs.size
  keep : ∀ b o, s.heap.get? b = some o → s'.heap.get? b = some o
  os : s'.os = s.os
  bare : AllBare s'.gens
  obj : s'.heap.get? a = some oG
  cls : oG.cls = .type "generator"
  dat : ∃ nm qn, oG.data = .fields #[.int g 0, nm, qn]
  slots : oG.slots = #[]
  obL : s'.heap.get? L = some oL
  cell : ∀ v, oL.data ≠ .cell v
  gen : s'.gens[g]? = some (.fresh c)
  run : ∀ (A : Around), Room (k + 1) A → Tp A base → A.frames = some outer → ∃ E : GE, E.env.locals = L ∧ E.outer = outer ∧ E.T = T ∧
    ∀ b : Bs, Rdy P wd K base E b → Ext (tbS T w) (w0 E b) → GpAt [(L, oL)] b → Goes (model P wd) A (GRp P wd K E ds) (GYp P wd K base E ds) (ds.length + 1) b (.fresh c) (.send .none) b.s
theorem MadeAt.isGen {T : List String} {outer : List PySem.Env} {w : Wd} {s s' : Shared} {ds : List D} {a g : Nat} {L : Addr} {oG oL : Obj} {c : Code} (m : MadeAt P wd K base T k outer w s ds a g L oG oL c s') {h : Heap} (e : h.get? a = some oG) : h.IsGen a g := by
  obtain ⟨nm, qn, q⟩ := m.dat
  exact ⟨oG, nm, qn, e, m.cls, q, m.slots⟩
/-- a generator def's items: by its body -/
def runYT (T : List String) (N ps : List Str) (m : YM) : List D → Option (List D) := fun ds => if ds.length = ps.length then (match m T (initE N ds) (T.map D.tab) [] with
  | .nx _ s ys => if hasTb T s = true then some ys else none
  | _ => none) else none
abbrev runY (N ps : List Str) (m : YM) : List D → Option (List D) := runYT [] N ps m
structure FY (P : Program) (wd : World) (K : PySem.W.Frag) (mg : Str → Option Value) (base : Heap) (T : List String) (k : Nat) (f : Addr) (fd : FuncData) (ps : List Str) (F : List D → Option (List D)) : Prop where
  len : ∀ ds ys, F ds = some ys → ds.length = ps.length
  go : ∀ {A : Around} {outer : List PySem.Env} {s : Shared} {w : Wd} {args : Args} {us : List Value} {vs : List V} {xs ys : List D}, Room (k + 1) A ∧ Tp A base → Env0 P wd K mg base A outer s w.H → Ok K w → BindsTo s fd args (ps.zip us) → Vals vs us → RepL K (tbS T w) vs xs → TbAt T w.st → F xs = some ys →
    codeAny (model P wd) A (.call (.ref f) args) (fun r s' => ∃ a g L oG oL c, r = .ok (.ret (.ref a)) ∧ MadeAt P wd K base T k outer w s ys a g L oG oL c s') s
theorem cellsFrom_no : ∀ {l : List (Str × NameKind)} {n : Nat} {acc : List (Str × Addr)}, (∀ y ∈ l, y.2 ≠ .cell) → cellsFrom n l acc = acc
  | [], _, _, _ => rfl
  | (x, kd) :: r, n, acc, h => by
    have h1 : kd ≠ .cell := h (x, kd) List.mem_cons_self
    have h2 : (kd == NameKind.cell) = false := by cases kd <;> first | rfl | exact absurd rfl h1
    show (if (kd == NameKind.cell) = true then _ else _) = acc
    rw [h2, if_neg Bool.false_ne_true]
    exact cellsFrom_no fun y hy => h y (List.mem_cons_of_mem _ hy)
theorem FY.of {T : List String} {x qual : Str} {st : Stmt} {f : Addr} {fd : FuncData} {ps : List Str} {m : YM} (F : Fun K x qual st f fd) (S : GScope N ps (defScope st)) (nc : ∀ y ∈ (defScope st).names, y.2 ≠ .cell) (hin : ∀ env : PySem.Env, env.scope = defScope st → interactive env = false)
    (hb : GQl P wd K mg base k N ⟨defScope st, fun _ => true, none⟩ (defBody st) m) : FY P wd K mg base T k f fd ps (runYT T N ps m) := by
  obtain ⟨oc, od, kV, doc, pm, an, cdv, ct, osl, rfl, look, code⟩ := F.ex
  have hlen : ∀ ds ys, runYT T N ps m ds = some ys → ds.length = ps.length := fun ds ys h => by
    unfold runYT at h
    split at h
    · assumption
    · cases h
  refine ⟨hlen, fun {A outer s w args us vs xs ys} room env ok bound rel rl htb hF => ?_⟩
  have inK : K.In s.heap := env.mod.kin.keeps fun b o e => (env.bs b o e).1
  have noLim : s.heap.NoLimit := env.mod.nolimit.keeps fun b o e => (env.bs b o e).1
  have kinds : ∀ y ∈ ps.zip us, (defScope st).names.lookup y.1 = some .local ∨ ((defScope st).names.lookup y.1 = some .cell ∧ ((cellsFrom (s.heap.objs.size + 1) (defScope st).names []).lookup y.1).isSome = true) := by
    rintro ⟨n, v⟩ hy
    exact (S.par n (List.of_mem_zip hy).1).imp _root_.id fun q => ⟨q, PySem.W.cellsFrom_some _ _ _ (.inl q)⟩
  refine codeAny_call_generator room.1.depth (inK _ _ look) rfl S.co S.gen rfl (PySem.W.codeRec_of inK code) (bound _ _ _ _ (wpAny_newFunctionEnv_cells S.kind kinds ?_))
  intro env' heq s1 inC
  subst heq
  have hl : vs.length = ps.length := by rw [rl.1]; exact hlen _ _ hF
  have I1 := inv_startG (qual := qual) (f := f) (cd := cdv) (E := fun _ _ _ => False) S room.1.hd env hl rel inC
  refine ⟨noLim.keeps inC.toInCall.keep, ?_⟩
  obtain ⟨h1, tk, es1, hk1⟩ := inC.done
  have os1 : s1.os = s.os := by rw [es1]
  have gen1 : s1.gens = s.gens := by rw [es1]
  have lt1 : s.heap.objs.size < s1.heap.objs.size := inC.toInCall.ns.lt
  have kp1 : ∀ b o, s.heap.get? b = some o → s1.heap.get? b = some o := inC.toInCall.keep
  obtain ⟨mL, hmL, hloc⟩ := I1.loc
  obtain ⟨oL, es, ep, hoL, hdL, hrL⟩ := id hmL
  have lL : s.heap.objs.size < s1.heap.objs.size := lt1
  have main : ∀ (og : Obj) (nm qn : Value) (tk2 : Nat), og.cls = .type "generator" → og.data = .fields #[.int s1.gens.size 0, nm, qn] → og.slots = #[] → (∀ h : Heap, (h.push og).get? h.objs.size = some og) →
      MadeAt P wd K base T k outer w s ys s1.heap.objs.size s1.gens.size s.heap.objs.size og oL (.func (defBody st) (envOfC qual (defScope st) s.heap.objs.size f cdv)) { s1 with gens := s1.gens.push (.fresh (.func (defBody st) (envOfC qual (defScope st) s.heap.objs.size f cdv))), toks := tk2, heap := s1.heap.push og } := by
    intro og nm qn tk2 hgc hgd hgs hgp
    have nocell : ∀ x, (envOfC qual (defScope st) s.heap.objs.size f cdv).kindOf x ≠ some .cell ∧ (envOfC qual (defScope st) s.heap.objs.size f cdv).kindOf x ≠ some .free := fun x => ⟨fun h => nc _ (PySem.mem_of_lookup h) rfl, fun h => S.nofree _ (PySem.mem_of_lookup h) rfl⟩
    have cells : ∀ x, (envOfC qual (defScope st) s.heap.objs.size f cdv).cells.lookup x = none := fun x => by
      show (cellsFrom (s.heap.objs.size + 1) (defScope st).names []).lookup x = none
      rw [cellsFrom_no nc]; rfl
    refine ⟨rfl, lL, ?_, fun b o e => Heap.get?_push_of_some _ (kp1 b o e), os1, AllBare.push (by rw [gen1]; exact env.bare) rfl, hgp _, hgc, ⟨nm, qn, hgd⟩, hgs, Heap.get?_push_of_some _ hoL, (fun v q => by rw [hdL] at q; cases q), Array.getElem?_push_size .., ?_⟩
    · show _ < (s1.heap.push _).objs.size
      rw [Heap.size_push]; exact Nat.lt_succ_self _
    intro Aw hrw hgd2 hfr
    refine ⟨⟨envOfC qual (defScope st) s.heap.objs.size f cdv, outer, Aw.deeper (envOfC qual (defScope st) s.heap.objs.size f cdv), T⟩, rfl, rfl, rfl, fun b rb xb gp => ⟨rfl, ?_⟩⟩
    have frL : ∀ b ∈ frs outer, b < s.heap.objs.size := fun b hb => by
      obtain ⟨_, o, ho, _⟩ := env.funs.mem hb
      exact Heap.lt_size ho
    have gok : GOK K mg base k ⟨defScope st, fun _ => true, none⟩ ⟨envOfC qual (defScope st) s.heap.objs.size f cdv, outer, Aw.deeper (envOfC qual (defScope st) s.heap.objs.size f cdv), T⟩ :=
      ⟨env.mod, hrw.deeper _, hgd2, rfl, rfl, rfl, rfl, S.kind, S.co, rfl, rfl, nocell, cells, Around.frames_deeper hfr, env.bsz, frL, hin _ rfl⟩
    have hL := gp _ (List.mem_singleton.mpr rfl)
    have hI : GIn P wd K mg base N ⟨envOfC qual (defScope st) s.heap.objs.size f cdv, outer, Aw.deeper (envOfC qual (defScope st) s.heap.objs.size f cdv), T⟩ (tbS T b.w) b [] (initE N xs) (T.map D.tab) b.s := by
      have rl' : RepL K (tbS T b.w) vs xs := rl.ext xb
      refine ⟨tbS T b.w, start N vs, ⟨gx_ok gok rb, rfl, rb.bare, ?_, ?_, fun x c h => ?_, hL.2.1, fun x c h => ?_, fun p hp => rb.pn p (by rw [List.append_nil] at hp; exact hp), rb.hok, I1.len⟩, tb_ok rb.ok rb.tb, Evo.refl _, rfl, fr_init rl' N, rb.size, Ext.refl _, fun p hp => by simp at hp⟩
      · exact ⟨fun a o e n _ _ => (cutH_lt e).2, fun a o e n hf _ => ⟨o.slots, (cutH_lt e).2⟩, fun a o e n _ => n, fun a o e _ => ⟨o, (cutH_lt e).2⟩, fun _ _ q => q, fun _ _ _ q => q, fun _ ps q => ⟨#[], by
          have q' : b.w.H _ = some _ := q
          show b.w.H _ = _
          rw [q']; simp⟩⟩
      · refine ⟨mL, ⟨oL, es, ep, hL.1, hdL, hrL⟩, fun i x v h1 h2 h3 => ?_⟩
        obtain ⟨u, r1, lk⟩ := hloc i x v h1 h2 h3
        refine ⟨u, r1, ?_⟩
        rcases lk with lk | ⟨lk, _⟩
        · exact .inl lk
        · rcases lk with lk | lk
          · exact absurd lk (nocell x).1
          · exact absurd lk (nocell x).2
      · have h' := cells x
        rw [show (envOfC qual (defScope st) s.heap.objs.size f cdv).cells.lookup x = some c from h] at h'; cases h'
      · have h' := cells x
        rw [show (envOfC qual (defScope st) s.heap.objs.size f cdv).cells.lookup x = some c from h] at h'; cases h'
    refine sg_func (H := .raise) fun H => ?_
    have hF' : ∃ Γ' st', m T (initE N xs) (T.map D.tab) [] = .nx Γ' st' ys ∧ TbAt T st' := by
      unfold runYT at hF
      split at hF
      · split at hF
        · rename_i Γ' st' ys' e
          split at hF
          · rename_i ht; cases hF; exact ⟨Γ', st', e, hasTb_at ht⟩
          · cases hF
        · cases hF
      · cases hF
    obtain ⟨Γ', st', hm, htb'⟩ := hF'
    refine hb.1 _ ys Aw (tbS T b.w) (ys.length + 1) [] b [] _ [] _ H id id b.s (initE N xs) (T.map D.tab) { nx := fun _ st2 zs => TbAt T st2 ∧ zs = ys } gok ⟨GenW.over_func, rfl, rfl, rfl, fun p hp => by simp at hp⟩ rfl ⟨fun _ _ zs q => by rw [q.2]; exact List.prefix_rfl, fun _ _ _ q => q.elim, fun _ _ _ q => q.elim⟩ (fun n' ys' b' s' fl hn' hs => ?_) hI (by rw [hm]; exact ⟨htb', rfl⟩)
    cases fl with
    | next =>
      obtain ⟨Γ2, st2, ⟨w2, σ2, I2, k2, e2, hs2, _, _, _⟩, hq⟩ := hs
      refine sg_end (.ok (.ret .none)) ⟨rfl, ?_, w2, k2, e2, by rw [hs2]; exact hq.1, kept_of I2⟩
      rw [show ys' = ys from hq.2] at hn'
      omega
    | brk => obtain ⟨_, _, _, q⟩ := hs; exact q.elim
    | cont => obtain ⟨_, _, _, q⟩ := hs; exact q.elim
    | ret u => exact hs.elim
  exact ⟨_, _, _, _, _, _, rfl, main _ _ _ _ rfl rfl rfl fun h => Heap.get?_push_size _ rfl⟩
end
end DL
/-! expressions whose value is a generator; for over one -/
namespace DL
open PySem L2 GB MaskX PySem.Spec PyProof.Rows
section
variable {P : Program} {wd : World} {K : PySem.W.Frag} {mg : Str → Option Value} {base : Heap} {k : Nat} {N : List Str} {sc : SC} {W : WX}
/-- it gives a generator of the items ds -/
def YV (X : Cx) (T : List String) (j : Nat) (pins : List (Addr × Obj)) (σ : L2.St) (w : Wd) (ds : List D) (st' : Store) (v : Value) (s1 : Shared) : Prop :=
  ∃ (s0 : Shared) (w1 : Wd) (a g : Nat) (L : Addr) (oG oL : Obj) (c : Code), v = .ref a ∧ Inv X pins σ w1.H s0 ∧ Evo w w1 ∧ Ok X.K w1 ∧ w1.st = st' ∧ TbAt T st' ∧ MadeAt X.prog X.w X.K X.base T j X.stack w1 s0 ds a g L oG oL c s1
def PYT (P : Program) (wd : World) (K : PySem.W.Frag) (mg : Str → Option Value) (base : Heap) (T : List String) (k : Nat) (N : List Str) (sc : SC) (W : WX) (e : Expr) (me : EM) : Prop := ∃ j, j + 2 ≤ k ∧
  ∀ X, G P wd K mg base k N sc W X → ∀ (pins : List (Addr × Obj)) (s : Shared) (σ : L2.St) (H0 : Hp) (w : Wd) (Γ : DEnv) (ds : List D) (st' : Store), Inv X pins σ w.H s → Ok K w → Fr K H0 w Γ σ → me Γ w.st = .ok (.lst ds) st' →
    wpAny (model X.prog X.w) X.A (eval e X.env) (YV X T j pins σ w ds st') X.xe s
abbrev PY (P : Program) (wd : World) (K : PySem.W.Frag) (mg : Str → Option Value) (base : Heap) (k : Nat) (N : List Str) (sc : SC) (W : WX) (e : Expr) (me : EM) : Prop := PYT P wd K mg base [] k N sc W e me
/-- a method that is a generator -/
structure MethY (P : Program) (wd : World) (K : PySem.W.Frag) (mg : Str → Option Value) (base : Heap) (j : Nat) (C : String) (m : Str) (F : List D → Option (List D)) : Prop where
  c : Cls K (cA K C)
  ex : ∃ (g : Addr) (fd : FuncData) (ps : List Str), FY P wd K mg base [] j g fd ps F ∧ Meth K (cA K C) m g ∧ Binds K fd ps []
def eGen0 (C : List String) (m : Str) (F : List D → Option (List D)) (mo : EM) : EM := fun Γ st => match mo Γ st with
  | .ok o s1 => (match o with
    | .ins C' fs => if C' ∈ C ∧ (fs.lookup m).isNone = true ∧ noRef (.ins C' fs) = true then (match F [o] with | some ys => .ok (.lst ys) s1 | none => .no) else .no
    | _ => .no)
  | _ => .no
theorem run_y {T : List String} {X : Cx} {f : Addr} {fd : FuncData} {ps : List Str} {j : Nat} {F : List D → Option (List D)} {pins : List (Addr × Obj)} {σ : L2.St} {w w1 : Wd} {s : Shared} {us : List Value} {vs : List V} {xs ys : List D} {E1 : Value → Shared → Prop} (Fy : FY X.prog X.w X.K X.mg X.base T j f fd ps F)
    (hr : Room (j + 1) X.A ∧ Tp X.A X.base) (hb : Binds X.K fd ps []) (I : Inv X pins σ w1.H s) (ok : Ok X.K w1) (e : Evo w w1) (rv : Vals vs us) (rl : RepL X.K (tbS T w1) vs xs) (tb : TbAt T w1.st) (h : F xs = some ys) :
    wpAny (model X.prog X.w) X.A (call (.ref f) us) (YV X T j pins σ w ys w1.st) E1 s := by
  have hl : us.length = ps.length := by rw [← rv.length, rl.1]; exact Fy.len _ _ h
  have bd := hb s us I.kIn (by rw [List.append_nil]; exact hl)
  rw [List.append_nil] at bd
  refine wpAny_call (codeAny_mono (Fy.go hr I.env0 ok bd rv rl tb h) fun r s' ⟨a, g, L, oG, oL, c, hr, m⟩ => ?_)
  subst hr
  exact ⟨s, w1, a, g, L, oG, oL, c, rfl, I, e, ok, rfl, tb, m⟩
theorem py_meth0 {j : Nat} {m : Str} {C : List String} {F : List D → Option (List D)} {o : Expr} {mo : EM} {pl : PySem.Env → Sem Bool} {apos pos : Pos} (T : ∀ c ∈ C, MethY P wd K mg base j c m F) (ho : PR P wd K mg base k N sc W o mo) (hk : j + 2 ≤ k := by omega)
    (ht : ∀ env, eval (.Call (.Attribute o m apos) [] [] pos) env = (do
      let ov ← eval o env
      standAt apos.atName
      let (f, first) ← holding [ov] (getMethod ov m (pl env))
      callWith pos f first (backTo pos (starEach [] env)) (backToKw pos (keywordEach [] env))) := by intro _; rfl) :
    PY P wd K mg base k N sc W (.Call (.Attribute o m apos) [] [] pos) (eGen0 C m F mo) := by
  obtain ⟨ta, pa, ra⟩ := ho
  refine ⟨j, hk, fun X gx pins s σ H0 w Γ ds st' I ok f hm => ?_⟩
  have pX := pa X gx
  obtain ⟨rfl, rfl, rfl, rfl, rfl, rfl, hsc, hc, hr, hgd, tk, _, _⟩ := gx
  unfold eGen0 at hm
  cases h1 : mo Γ w.st with
  | no => rw [h1] at hm; cases hm
  | err x st => rw [h1] at hm; cases hm
  | ok d s1 =>
    rw [h1] at hm
    cases d with
    | ins C' fs =>
      dsimp only at hm
      split at hm
      · rename_i hC
        split at hm
        · rename_i ys hF
          cases hm
          obtain ⟨c, gf, fd, ps, Fy, hmt, hb⟩ := T C' hC.1
          have hta : ta σ w.H fun x H' => ∃ w', H' = w'.H ∧ Evo w w' ∧ Ok X.K w' ∧ w'.st = st' ∧ Rep X.K w' x (.ins C' fs) := by
            refine ra H0 w Γ σ ok f _ ?_
            rw [h1]
            exact fun v w' e k' hs r => ⟨w', rfl, e, k', hs, r⟩
          refine PySem.W.methodCall_KW (pl := pl X.env) (thn (pX.run pins s σ w.H _ I hta) fun u s2 ⟨x, H1, I1, rx, w', hH, e, k', hs, r⟩ => ?_) (ht X.env)
          subst hH
          have hins : ∃ (a : Addr) (dx : Addr) (us : List (Str × V)), x = .ref a ∧ w'.H a = some (.ins (cA X.K C') dx us) ∧ us.lookup m = none := by
            have hl := hC.2.1
            cases r with
            | ins hM hks hvs =>
              rename_i a dx us
              refine ⟨a, dx, us, rfl, k'.ex _ _ hM, ?_⟩
              have : (us.map (·.1)) = fs.map (·.1) := hks
              exact RepP.look0 ⟨hks, hvs⟩ m (Option.isNone_iff_eq_none.mp hl)
          obtain ⟨a, dx, us, rfl, ha, hl⟩ := hins
          obtain rfl : u = Value.ref a := rx
          refine getmeth_ok I1 ha c hmt hl ?_
          refine PySem.W.callWith_K0 (first := [.ref a]) I1.kIn hmt.kp ?_
          have := run_y (E1 := X.xe) (w := w) Fy ⟨hr.mono (by omega), hgd⟩ hb I1 k' e (us := [.ref a]) (vs := [.ref a]) (xs := [.ins C' fs]) (.cons rfl .nil) (.cons (r.noSt hC.2.2) .nil) TbAt.nil hF
          rw [hs] at this
          exact this
        · cases hm
      · cases hm
    | _ => cases hm
end
end DL
/-! for over a generator -/
namespace DL
open PySem L2 GB MaskX GenW PySem.Spec PyProof.Rows
section
variable {P : Program} {wd : World} {K : PySem.W.Frag} {mg : Str → Option Value} {base : Heap} {k : Nat} {N : List Str} {sc : SC} {W : WX}
/-- the world behind a waking: the store is the waker's -/
def wk (w' w : Wd) : Wd := ⟨w.M, w'.ρ, w'.st, w.H⟩
theorem wk_evo {T : List String} {w' w : Wd} (tb : TbAt T w'.st) (e : Evo (tbS T w') w) : Evo w' (wk w' w) :=
  ⟨e.mono, fun _ _ => rfl, Nat.le_refl _, e.newM, fun l h1 h2 => absurd (Nat.lt_of_lt_of_le h2 h1) (Nat.lt_irrefl _), fun a o h n q => e.keep a o h n fun l hl => q l (Nat.lt_of_lt_of_le hl tb.le)⟩
theorem wk_ext {T : List String} {w' w : Wd} (tb : TbAt T w'.st) (e : Evo (tbS T w') w) (h : w.st = T.map D.tab) : Ext w (wk w' w) := ⟨fun _ _ q => q, fun l hl => (e.rho l (by rw [h] at hl; exact hl)).symm, by rw [h]; exact tb.le⟩
theorem wk_ok {T : List String} {w' w : Wd} (tb : TbAt T w'.st) (e : Evo (tbS T w') w) (tb2 : TbAt T w.st) (k' : Ok K w') (k2 : Ok K w) : Ok K (wk w' w) := by
  have x : Ext w' (wk w' w) := (wk_evo tb e).ext
  refine ⟨k2.ex, fun l d h => ?_, fun l m a b c => k'.inj l m a b c⟩
  by_cases hl : l < (T.map D.tab).length
  · obtain ⟨h1, n, h2⟩ := tb.get (List.getElem?_eq_getElem hl)
    have hd : d = .tab n := by
      have h' : w'.st[l]? = some d := h
      rw [h1, h2] at h'; exact (Option.some.inj h').symm
    subst hd
    have e1 : w.st[l]? = some (.tab n) := by
      have := (tb2.get (List.getElem?_eq_getElem hl)).1
      rw [this, h2]
    obtain ⟨o, q1, q2⟩ := k2.sto l _ e1
    have er : w.ρ l = w'.ρ l := e.rho l hl
    rw [er] at q1 q2
    refine ⟨o, q1, ?_⟩
    rcases q2 with q2 | ⟨q2, q3⟩
    · exact .inl q2
    · exact .inr ⟨q2, RS.tb (fun _ _ x => x) q3⟩
  obtain ⟨o, h1, h2⟩ := k'.sto l d h
  have hlt : l < w'.st.length := (List.getElem?_eq_some_iff.mp h).1
  have hk : w'.M (w'.ρ l) = none → w.H (w'.ρ l) = some o := fun hM => e.keep _ o h1 hM fun m hm q => hl (by
    have hm' : m < (T.map D.tab).length := hm
    have := k'.inj m l (Nat.lt_of_lt_of_le hm' tb.le) hlt q
    rw [← this]; exact hm')
  cases hM : w'.M (w'.ρ l) with
  | some o' =>
    refine ⟨o', ?_, ?_⟩
    · exact k2.ex _ _ (e.mono _ _ hM)
    · rcases h2 with h2 | ⟨h2, _⟩
      · exact .inl h2
      · rw [hM] at h2; cases h2
  | none =>
    refine ⟨o, hk hM, ?_⟩
    rcases h2 with h2 | ⟨_, h3⟩
    · exact .inl h2
    · refine .inr ⟨?_, h3.ext x⟩
      cases hM2 : w.M (w'.ρ l) with
      | none => exact hM2
      | some o2 =>
        have := e.newM _ o2 hM2 hM
        rw [show (tbS T w').H (w'.ρ l) = some o from h1] at this; cases this
/-- the consumer's ground: where the generator lies; dl: what it tracks behind it -/
structure Grd (X : Cx) (pins : List (Addr × Obj)) (E : GE) (a L : Addr) (oG : Obj) (dl : List Addr) : Prop where
  loc : E.env.locals = L
  outer : E.outer = X.stack
  low : ∀ b, L ≤ b → b ≠ a → b ≠ X.env.locals → b ∉ dl → b ∈ X.ex ∨ X.s_0.heap.objs.size ≤ b
  own : X.env.locals ≠ a ∧ X.env.locals ≠ L
  fs : ∀ b ∈ X.fs, b < L
  cel : ∀ x c, X.env.cells.lookup x = some c → c < L
  pins : ∀ p ∈ X.pn ++ pins, p.1 < L
  la : L < a
  nc : ∀ v, oG.data ≠ .cell v
/-- what is to be kept over a waking -/
structure PnOk (X : Cx) (a L : Addr) (oG : Obj) (s : Shared) (H : Hp) (pn : List (Addr × Obj)) : Prop where
  mem : (a, oG) ∈ pn
  at_ : ∀ p ∈ pn, s.heap.get? p.1 = some p.2 ∧ H p.1 = none ∧ p.1 ≠ L ∧ p.1 ∉ frs X.stack ∧ ∀ v, p.2.data ≠ .cell v
  own : X.env.locals < L ∨ ∃ o, (X.env.locals, o) ∈ pn
theorem inv_woken {X : Cx} {pins gp gp' : List (Addr × Obj)} {σ : L2.St} {w' w : Wd} {s' s1 : Shared} {E : GE} {a L : Addr} {oG : Obj} {g : Nat} {gs' : GenState} {dl : List Addr} {pn : List (Addr × Obj)} (hg : Grd X pins E a L oG dl) (I : Inv X (pins ++ (a, oG) :: gp) σ w'.H s')
    (hp : PnOk X a L oG s' w'.H pn) (hdl : ∀ b ∈ dl, w'.H b ≠ none) (tb : TbAt E.T w'.st) (e4 : Evo (tbS E.T w') w) (k4 : Ok X.K w) (kp : Kept X.prog X.w E ⟨s'.setGen g .running, w', pn⟩ w.H s1) (ok' : GpOK E gp') (at' : GpAt gp' ⟨s1, w, pn⟩) (hbare : gs'.bare = true) : Inv X (pins ++ (a, oG) :: gp') σ w.H (s1.setGen g gs') := by
  have I1 : Inv X pins σ w'.H s' := I.pins_of fun p hp => I.pin p (List.mem_append_right _ (List.mem_append_left _ hp))
  have un := kp.un
  have hpa := kp.pn (a, oG) hp.mem
  have low : ∀ b o, s'.heap.get? b = some o → b ∉ (List.range s'.heap.objs.size).filter (fun b => decide (L ≤ b) && !(pn.any fun p => decide (p.1 = b)) && (w'.H b).isNone) → (b, o) ∈ pn ∨ (∃ u, w'.H b = some u) ∨ (cutH s'.heap E.env.locals).get? b = some o := fun b o e hn => by
    by_cases q : b < L
    · refine .inr (.inr ?_)
      rw [cutH_get, hg.loc, if_pos q]; exact e
    · by_cases q2 : ∃ p ∈ pn, p.1 = b
      · obtain ⟨p, hpp, rfl⟩ := q2
        rw [(hp.at_ p hpp).1] at e
        refine .inl ?_
        rw [← Option.some.inj e]; exact hpp
      · cases q3 : w'.H b with
        | some u => exact .inr (.inl ⟨u, rfl⟩)
        | none =>
          refine absurd ?_ hn
          rw [List.mem_filter, List.mem_range]
          refine ⟨Heap.lt_size e, ?_⟩
          rw [q3]
          simp only [Option.isNone_none, Bool.and_true, Bool.and_eq_true, decide_eq_true_eq, Bool.not_eq_true', List.any_eq_false]
          exact ⟨Nat.le_of_not_lt q, fun p hpp z => q2 ⟨p, hpp, z⟩⟩
  have I2 : Inv X pins σ w.H (s1.setGen g gs') := by
    refine I1.call' (ch := (List.range s'.heap.objs.size).filter (fun b => decide (L ≤ b) && !(pn.any fun p => decide (p.1 = b)) && (w'.H b).isNone)) kp.os ⟨fun b o e hn hf hc => ?_, fun b o e hn hf hc => ?_, fun b o e hn hc => ?_, fun b o e hc => ?_, un.tups, un.frzs, un.tbls⟩ kp.hok (allBare_setGen kp.bare hbare) fun b hb => ?_
    · rcases low b o e hc with q | ⟨u, q⟩ | q
      · exact (kp.pn _ q).1
      · rw [hn] at q; cases q
      · exact un.keep b o q hn (by rw [hg.outer]; exact hf) (by simp)
    · rcases low b o e hc with q | ⟨u, q⟩ | q
      · exact ⟨o.slots, (kp.pn _ q).1⟩
      · rw [hn] at q; cases q
      · exact un.slot b o q hn (by rw [hg.outer]; exact hf) (by simp)
    · rcases low b o e hc with q | ⟨u, q⟩ | q
      · exact (kp.pn _ q).2
      · rw [hn] at q; cases q
      · exact un.free b o q hn (by simp)
    · rcases low b o e hc with q | ⟨u, q⟩ | q
      · exact ⟨_, (kp.pn _ q).1⟩
      · obtain ⟨u2, q2⟩ := e4.dom k4 (a := b) (o := u) q
        cases hh : s1.heap.get? b with
        | some o2 => exact ⟨o2, hh⟩
        | none => rw [kp.hok.gone hh] at q2; cases q2
      · exact un.there b o q (by simp)
    · rw [List.mem_filter, List.mem_range] at hb
      obtain ⟨_, hb⟩ := hb
      simp only [Bool.and_eq_true, decide_eq_true_eq, Bool.not_eq_true', List.any_eq_false, Option.isNone_iff_eq_none] at hb
      obtain ⟨⟨hb1, hb2⟩, hb3⟩ := hb
      have hne : b ≠ X.env.locals := by
        rcases hp.own with h | ⟨o, h⟩
        · exact Nat.ne_of_gt (Nat.lt_of_lt_of_le h hb1)
        · exact fun z => hb2 _ h z.symm
      refine ⟨hg.low b hb1 (fun z => hb2 _ hp.mem z.symm) hne fun z => hdl b z hb3, hne, fun x c e => Nat.ne_of_lt (Nat.lt_of_lt_of_le (hg.cel x c e) hb1), fun p hp => Nat.ne_of_lt (Nat.lt_of_lt_of_le (hg.pins p hp) hb1)⟩
  have up : ∀ b, L ≤ b → b ∉ X.fs := fun b hb z => absurd (Nat.lt_of_lt_of_le (hg.fs b z) hb) (Nat.lt_irrefl _)
  refine I2.pins_of fun p hp' => ?_
  rcases List.mem_append.mp hp' with hp' | hp'
  · exact I2.pin p (List.mem_append_right _ hp')
  · rcases List.mem_cons.mp hp' with rfl | hp'
    · exact ⟨hpa.1, hpa.2, hg.own.1.symm, up a (Nat.le_of_lt hg.la), hg.nc⟩
    · have hL : L ≤ p.1 := by rw [← hg.loc]; exact ok'.above p hp'
      obtain ⟨g1, g2, g3⟩ := at' p hp'
      refine ⟨g1, g2, fun z => ?_, up p.1 hL, ok'.cell p hp'⟩
      rcases hp.own with h | ⟨o, h⟩
      · rw [← z] at h; exact absurd (Nat.lt_of_lt_of_le h hL) (Nat.lt_irrefl _)
      · exact g3 _ h z.symm
/-- the generator's state between two turns -/
structure GIx (P : Program) (wd : World) (K : PySem.W.Frag) (base : Heap) (A : Around) (E : GE) (a g : Nat) (ds rem : List D) (w' : Wd) (s : Shared) (gs : GenState) (gp : List (Addr × Obj)) (wy : Wd) : Prop where
  hgs : s.gens[g]? = some gs
  xt : Ext wy (tbS E.T w')
  go : ∀ b : Bs, Rdy P wd K base E b → Ext wy (w0 E b) → GpAt gp b → Goes (model P wd) A.in1 (GRp P wd K E ds) (GYp P wd K base E ds) (rem.length + 1) b gs (.send .none) b.s
  hrem : ds.drop (ds.length - rem.length) = rem
  le : rem.length ≤ ds.length
  pna : ∀ p ∈ gp, p.1 ≠ a
  pnl : ∀ p ∈ gp, E.env.locals ≤ p.1
theorem rdy_of {X : Cx} {pins gp : List (Addr × Obj)} {σ : L2.St} {w' : Wd} {s : Shared} {E : GE} {a L : Addr} {oG : Obj} {g : Nat} {dl : List Addr} {pn : List (Addr × Obj)} (hg : Grd X pins E a L oG dl) (I : Inv X (pins ++ (a, oG) :: gp) σ w'.H s) (ok : Ok K w') (hL : L ≤ s.heap.objs.size) (hp : PnOk X a L oG s w'.H pn) (tb : TbAt E.T w'.st) :
    Rdy X.prog X.w K X.base E ⟨s.setGen g .running, w', pn⟩ where
  tb := tb
  ok := ok
  bs := I.bs
  funs := by rw [hg.outer]; exact I.stack
  frf := by rw [hg.outer]; exact I.stkFree
  hok := I.hok
  bare := allBare_setGen I.bare rfl
  size := by rw [hg.loc]; exact hL
  pn := fun p hpp => by
    obtain ⟨h1, h2, h3, h4, h5⟩ := hp.at_ p hpp
    exact ⟨h1, h2, by rw [hg.loc]; exact h3, by rw [hg.outer]; exact h4, h5⟩
/-- the next item, or the end -/
theorem next_y {X : Cx} {pins gp : List (Addr × Obj)} {σ : L2.St} {w' wy : Wd} {s : Shared} {E : GE} {a L g : Nat} {oG : Obj} {dl : List Addr} {pn : List (Addr × Obj)} {ds rem : List D} {gs : GenState} {EE : Value → Shared → Prop} {Q : Option Value → Shared → Prop} (hg : Grd X pins E a L oG dl)
    (I : Inv X (pins ++ (a, oG) :: gp) σ w'.H s) (ok : Ok X.K w') (hr : Room k X.A) (hgen : ∀ h : Heap, h.get? a = some oG → h.IsGen a g) (x : GIx X.prog X.w X.K X.base X.A E a g ds rem w' s gs gp wy) (hp : PnOk X a L oG s w'.H pn) (hpl : ∀ q ∈ pn, q.1 = a ∨ ∀ p ∈ gp, q.1 ≠ p.1) (hdl : ∀ b ∈ dl, w'.H b ≠ none) (tb : TbAt E.T w'.st)
    (hY : ∀ (d : D) (rem' : List D) (v : Value) (xv : V) (s4 : Shared) (w4 : Wd) (gs' : GenState) (gp' : List (Addr × Obj)), rem = d :: rem' → RelV xv v → Rep X.K w4 xv d → Evo w' w4 → Ok X.K w4 → w4.st = w'.st → Inv X (pins ++ (a, oG) :: gp') σ w4.H s4 → isSusp gs' = true → s4.gens[g]? = some gs' → (∀ q ∈ pn, ∀ p ∈ gp', q.1 ≠ p.1) →
      (∀ (s5 : Shared) (w5 : Wd), Ext w4 w5 → s5.gens[g]? = some gs' → ∃ wy', GIx X.prog X.w X.K X.base X.A E a g ds rem' w5 s5 gs' gp' wy') → Q (some v) s4)
    (hR : ∀ (s4 : Shared) (w4 : Wd), rem = [] → Evo w' w4 → Ok X.K w4 → w4.st = w'.st → Inv X pins σ w4.H s4 → Q none s4) :
    wpAny (model X.prog X.w) X.A (pyNext (.ref a)) Q EE s := by
  have hoG := (I.pin (a, oG) (List.mem_append_right _ (List.mem_append_right _ List.mem_cons_self))).1
  have hsz : L ≤ s.heap.objs.size := Nat.le_of_lt (Nat.lt_trans hg.la (Heap.lt_size hoG))
  have hgl : g < s.gens.size := (Array.getElem?_eq_some_iff.mp x.hgs).1
  have hgo := x.go ⟨s.setGen g .running, w', pn⟩ (rdy_of hg I ok hsz hp tb) x.xt fun p hpp => let z := I.pin p (List.mem_append_right _ (List.mem_append_right _ (List.mem_cons_of_mem _ hpp))); ⟨z.1, z.2.1, fun q hq => (hpl q hq).elim (fun e => by rw [e]; exact (x.pna p hpp).symm) fun h => h p hpp⟩
  refine GenW.wpAny_gsz (n := g + 1) hgl (next_genB (A := X.A) hr.hd I.nolimit (by have := hr.dp; omega) (hgen _ hoG) x.hgs hgo (fun v s4 gs' hbare hsus hYp => ?_) (fun r s4 hRp => ?_))
  · intro hsz4
    obtain ⟨xv, d, w4, gp', n1, n2, hd, rv, rp, k4, e4, hst4, kept, gok, gat, hk⟩ := hYp
    cases rem with
    | nil => simp at n1
    | cons d' rem' =>
      have hd' : d' = d := by
        have h0 := congrArg (fun l => l[0]?) x.hrem
        simp only [List.getElem?_drop, List.getElem?_cons_zero, Nat.add_zero] at h0
        simp only [Nat.add_sub_cancel] at hd
        rw [hd] at h0
        exact (Option.some.inj h0).symm
      subst hd'
      have I4 := inv_woken hg I hp hdl tb e4 k4 kept gok gat hbare
      have hg4 : (s4.setGen g gs').gens[g]? = some gs' := setGen_at (by rw [setGen_size] at hsz4; omega)
      refine hY d' rem' v xv (s4.setGen g gs') (wk w' w4) gs' gp' rfl rv (rp.ext (wk_ext tb e4 hst4)) (wk_evo tb e4) (wk_ok tb e4 (by rw [hst4]; exact TbAt.self) ok k4) rfl I4 hsus hg4 (fun q hq p hpp => (gat p hpp).2.2 q hq) fun s5 w5 x5 hg5 => ⟨w4, hg5, ⟨x5.mono, fun l hl => by rw [hst4] at hl; exact (x5.rho l (Nat.lt_of_lt_of_le hl tb.le)).trans (e4.rho l hl).symm, by rw [hst4]; exact Nat.le_refl _⟩, fun b r xx gg => hk b r xx gg, ?_, ?_, fun p hpp => ((gat p hpp).2.2 (a, oG) hp.mem).symm, gok.above⟩
      · have h0 := congrArg List.tail x.hrem
        have hle := x.le
        rw [List.length_cons] at hle
        rw [List.tail_drop, List.tail_cons, List.length_cons] at h0
        rw [show ds.length - rem'.length = ds.length - (rem'.length + 1) + 1 by omega]
        exact h0
      · have hle := x.le
        rw [List.length_cons] at hle
        omega
  · obtain ⟨hr1, hn, w4, k4, e4, hst4, kept⟩ := hRp
    refine ⟨.inl hr1, fun h' hkeep _ => ?_⟩
    obtain rfl : rem = [] := List.length_eq_zero_iff.mp (by omega)
    have I4 := inv_woken (gp' := []) (gs' := .finished) hg I hp hdl tb e4 k4 kept ⟨fun _ h => by simp at h, fun _ h => by simp at h⟩ (fun _ h => by simp at h) rfl
    have I5 : Inv X (pins ++ (a, oG) :: []) σ w4.H { s4.setGen g .finished with heap := h' } := I4.kept (t' := s4.toks) hkeep
    exact hR _ (wk w' w4) rfl (wk_evo tb e4) (wk_ok tb e4 hst4 ok k4) rfl I5.unpinned
/-- the loop's mirror: the body does not raise -/
def forN (mg : GM) (mb : SM) : List D → DEnv → Store → SR
  | [], Γ, st => .nx Γ st
  | d :: ds, Γ, st => match mg d Γ with
    | none => .no
    | some Γ1 => match mb Γ1 st with
      | .nx Γ2 st2 => forN mg mb ds Γ2 st2
      | .ct Γ2 st2 => forN mg mb ds Γ2 st2
      | .bk Γ2 st2 => .nx Γ2 st2
      | .ret d st2 => .ret d st2
      | _ => .no
/-- the loop's mirror where the generator wants the tables T -/
def forNT (T : List String) (mg : GM) (mb : SM) : List D → DEnv → Store → SR
  | [], Γ, st => if hasTb T st = true then .nx Γ st else .no
  | d :: ds, Γ, st => if hasTb T st = true then (match mg d Γ with
    | none => .no
    | some Γ1 => match mb Γ1 st with
      | .nx Γ2 st2 => forNT T mg mb ds Γ2 st2
      | .ct Γ2 st2 => forNT T mg mb ds Γ2 st2
      | .bk Γ2 st2 => .nx Γ2 st2
      | .ret d st2 => .ret d st2
      | _ => .no) else .no
def sForYT (T : List String) (me : EM) (mg : GM) (mb : SM) : SM := fun Γ st => match me Γ st with
  | .ok (.lst ds) s => forNT T mg mb ds Γ s
  | _ => .no
def sForY (me : EM) (mg : GM) (mb : SM) : SM := fun Γ st => match me Γ st with
  | .ok (.lst ds) s => forN mg mb ds Γ s
  | _ => .no
end
end DL
/-! a list comprehension over a generator -/
namespace DL
open PySem L2 GB MaskX GenW PySem.Spec PyProof.Rows
section
variable {P : Program} {wd : World} {K : PySem.W.Frag} {mg : Str → Option Value} {base : Heap} {k : Nat} {N : List Str} {sc : SC} {W : WX}
def eLcY (vs : List Nat) (mi : EM) (mg : GM) (mt me : EM) : EM := fun Γ st => match mi Γ st with
  | .ok (.lst ds) s => lcL mg mt me ds (wipeE Γ vs) s []
  | _ => .no
abbrev tLcY (K : PySem.W.Frag) (W : WX) (m : EM) : TE := fun σ H Q => ∃ H0 w Γ, H = w.H ∧ Ok K w ∧ Fr K H0 w Γ σ ∧ PostN K w (m Γ w.st) Q (at_ W σ)
end
end DL
/-! generator defs of a program -/
namespace DL
open PySem L2 GB MaskX GenW PySem.Spec PyProof.Rows
section
variable {P : Program} {wd : World} {K : PySem.W.Frag} {mg : Str → Option Value} {base : Heap} {k : Nat} {N : List Str} {sc : SC} {W : WX}
structure FnAY (P : Program) (wd : World) (K : PySem.W.Frag) (mg : Str → Option Value) (base : Heap) (j : Nat) (f : Addr) (F : List D → Option (List D)) : Prop where
  ex : ∃ (fd : FuncData) (ps : List Str), FY P wd K mg base [] j f fd ps F ∧ Binds K fd ps []
theorem fn_okY {x qual : Str} {st : Stmt} {ps : List Str} {m : YM} {f : Addr} (h : HM K x qual st f) (S : GScope N ps (defScope st)) (nc : ∀ y ∈ (defScope st).names, y.2 ≠ .cell) (hin : (defScope st).kind ≠ .module)
    (hb : ∀ (kV doc pm : Value) (an : Option Addr) (cdv ct : Value) (us : List Value), us.length = ps.length → bindArgs (PySem.W.fnOf x qual (defArgs st) (defBody st) (defScope st) .none kV doc pm an cdv ct) ⟨us, []⟩ = pure (ps.zip us))
    (b : GQl P wd K mg base k N ⟨defScope st, fun _ => true, none⟩ (defBody st) m) : FnAY P wd K mg base k f (runY N ps m) := by
  obtain ⟨fd, F⟩ := h
  refine ⟨fd, ps, FY.of F S nc (fun env h => ?_) b, F.binds hb⟩
  unfold interactive
  rw [h]
  cases q : (defScope st).kind <;> first | rfl | exact absurd q hin
theorem methYOK {C : String} {m : Str} {f : Addr} {F : List D → Option (List D)} {j : Nat} (c : Cls K (cA K C)) (h : Meth K (cA K C) m f) (a : FnAY P wd K mg base j f F) : MethY P wd K mg base j C m F :=
  let ⟨fd, ps, a, b⟩ := a.ex; ⟨c, f, fd, ps, a, h, b⟩
end
end DL
/-! a dict of the store is locked while a test reads it -/
namespace DL
open PySem L2 PySem.Spec PyProof.Rows
mutual
def noDct : D → Bool
  | .tup xs => noDctL xs
  | .lst xs => noDctL xs
  | .dct _ => false
  | .ins _ fs => noDctF fs
  | .exc _ fs => noDctF fs
  | _ => true
def noDctL : List D → Bool
  | [] => true
  | x :: xs => noDct x && noDctL xs
def noDctF : List (Str × D) → Bool
  | [] => true
  | (_, x) :: xs => noDct x && noDctF xs
end
theorem noDctL_mem : ∀ {xs : List D} {x : D}, noDctL xs = true → x ∈ xs → noDct x = true
  | y :: xs, x, h, hm => by
    rw [noDctL, Bool.and_eq_true] at h
    rcases List.mem_cons.mp hm with rfl | hm
    · exact h.1
    · exact noDctL_mem h.2 hm
theorem noDctF_mem : ∀ {xs : List (Str × D)} {x : Str × D}, noDctF xs = true → x ∈ xs → noDct x.2 = true
  | (a, y) :: xs, x, h, hm => by
    rw [noDctF, Bool.and_eq_true] at h
    rcases List.mem_cons.mp hm with rfl | hm
    · exact h.1
    · exact noDctF_mem h.2 hm
def flatO : D → Bool
  | .lst xs => noDctL xs
  | .dct kvs => kvs.all fun p => noDct p.2
  | .ins _ fs => noDctF fs
  | .tomb => true
  | .tab _ => true
  | _ => false
/-- all but a locked dict stays known -/
structure Thaw (w w' : Wd) : Prop where
  m : ∀ b o, w.M b = some o → (∀ od vs, o ≠ .frz od (.dK vs)) → w'.M b = some o
  r : ∀ l, l < w.st.length → l < w'.st.length ∧ w'.ρ l = w.ρ l
theorem Thaw.rd {w w' : Wd} (t : Thaw w w') {a : Addr} {u : HO} (hu : ∀ kvs, u ≠ .dK kvs) (hf : ∀ od vs, u ≠ .frz od (.dK vs)) (h : Rd w.M a u) : Rd w'.M a u := by
  rcases h with h | ⟨o, h⟩
  · exact .inl (t.m _ _ h hf)
  · exact .inr ⟨o, t.m _ _ h fun od vs e => by cases e; exact hu _ rfl⟩
theorem Rep.thaw {K : PySem.W.Frag} {w w' : Wd} (t : Thaw w w') {v : V} {d : D} (r : Rep K w v d) : noDct d = true → Rep K w' v d := by
  induction r with
  | non => exact fun _ => .non
  | bl => exact fun _ => .bl
  | int => exact fun _ => .int
  | str => exact fun _ => .str
  | tup h l _ ih =>
    intro n
    rw [noDct] at n
    exact .tup (h.imp (t.rd (fun _ z => nomatch z) (fun _ _ z => nomatch z)) id) l fun i v x a b => ih i v x a b (noDctL_mem n (List.mem_of_getElem? b))
  | lst h l _ ih =>
    intro n
    rw [noDct] at n
    exact .lst (t.m _ _ h fun _ _ z => nomatch z) l fun i v x a b => ih i v x a b (noDctL_mem n (List.mem_of_getElem? b))
  | dct => intro n; rw [noDct] at n; cases n
  | ins h l _ ih =>
    intro n
    rw [noDct] at n
    exact .ins (t.m _ _ h fun _ _ z => nomatch z) l fun i v x a b => ih i v x a b (noDctF_mem n (List.mem_of_getElem? b))
  | ref h =>
    intro _
    obtain ⟨h1, h2⟩ := t.r _ h
    rw [← h2]; exact .ref h1
  | scr h => exact fun _ => .scr (h.imp (t.rd (fun _ z => nomatch z) (fun _ _ z => nomatch z)) id)
  | ty => exact fun _ => .ty
  | cls => exact fun _ => .cls
  | opq => exact fun _ => .opq
  | fn h => exact fun _ => .fn (t.m _ _ h fun _ _ z => by unfold LamX.CodeO at z; cases z)
  | exc0 h => exact fun _ => .exc0 (t.m _ _ h fun _ _ z => by unfold ExK at z; cases z)
  | exc1 h h' ne l _ ih =>
    intro n
    rw [noDct] at n
    exact .exc1 (t.m _ _ h fun _ _ z => by unfold ExK at z; cases z) (t.m _ _ h' fun _ _ z => nomatch z) ne l fun i v x a b => ih i v x a b (noDctF_mem n (List.mem_of_getElem? b))
theorem RO.flat {K : PySem.W.Frag} {w w' : Wd} (t : Thaw w w') {o : HO} {d : D} (r : RO K w o d) (h : flatO d = true) : RO K w' o d := by
  cases d with
  | lst xs => obtain ⟨vs, rfl, l, q⟩ := r; exact ⟨vs, rfl, l, fun i v x a b => (q i v x a b).thaw t (noDctL_mem h (List.mem_of_getElem? b))⟩
  | dct xs => obtain ⟨vs, rfl, l, q⟩ := r; exact ⟨vs, rfl, l, fun i v x a b => (q i v x a b).thaw t (List.all_eq_true.mp h x (List.mem_of_getElem? b))⟩
  | ins C xs => obtain ⟨dx, vs, rfl, l, q⟩ := r; exact ⟨dx, vs, rfl, l, fun i v x a b => (q i v x a b).thaw t (noDctF_mem h (List.mem_of_getElem? b))⟩
  | _ => exact r.elim
theorem RS.flat {K : PySem.W.Frag} {w w' : Wd} (t : Thaw w w') {a : Addr} {o : HO} {d : D} (r : RS K w a o d) (h : flatO d = true) : RS K w' a o d := r.imp (fun r => r.flat t h) fun ⟨n, e1, e2, ps, e3, e4, e5⟩ => ⟨n, e1, e2, ps, e3, e4, fun pos cv q => let ⟨c, x, y⟩ := e5 pos cv q; ⟨c, x, t.m _ _ y fun _ _ z => by unfold LamX.CodeO at z; cases z⟩⟩
section
variable {P : Program} {wd : World} {K : PySem.W.Frag} {mg : Str → Option Value} {base : Heap} {k : Nat} {N : List Str} {sc : SC} {W : WX}
def eLock (i : Nat) (m : EM) : EM := fun Γ st => match Γ[i]? with
  | some (.sh (.ref l)) => (match st[l]? with
    | some (.dct kvs) => (match m (Γ.set i (.sh (.dct kvs))) (st.set l .tomb) with
      | .ok (.bl b) st' => if st'.all flatO = true then .ok (.bl b) (st'.set l (.dct kvs)) else .no
      | _ => .no)
    | _ => .no)
  | _ => m Γ st
theorem pr_lock (i : Nat) {e : Expr} {m : EM} (h : PR P wd K mg base k N sc W e m) : PR P wd K mg base k N sc W e (eLock i m) := by
  obtain ⟨t, pt, rt⟩ := h
  refine ⟨fun σ H Q => t σ H Q ∨ tLockE t σ H Q, fun X g => ⟨fun pins s σ H Q I hw => ?_⟩, ?_⟩
  · rcases hw with hw | hw
    · exact (pt X g).run pins s σ H Q I hw
    · exact (pe_lock (pt X g)).run pins s σ H Q I hw
  intro H0 w Γ σ ok f Q p
  unfold eLock at p
  split at p
  · rename_i l hi
    split at p
    · rename_i kvs hl
      refine .inr ?_
      obtain ⟨v, hv, rv⟩ := f.sh i _ hi
      have hll : l < w.st.length := getElem?_lt hl
      obtain rfl : v = .ref (w.ρ l) := by cases rv; rfl
      obtain ⟨o, ho, hM, vs, rfl, rp⟩ := ok.live hl (by intro z; cases z)
      refine ⟨w.ρ l, .dK vs, ho, True.intro, fun od => ?_⟩
      have hiΓ := getElem?_lt hi
      let wL : Wd := ⟨upd w.M (w.ρ l) (.frz od (.dK vs)), w.ρ, w.st.set l .tomb, upd w.H (w.ρ l) (.frz od (.dK vs))⟩
      have lenL : wL.st.length = w.st.length := by show (w.st.set l .tomb).length = _; simp
      have xL : Ext w wL := ⟨fun b u q => by show upd w.M _ _ b = _; rw [upd_ne (ne_of_none q hM)]; exact q, fun _ _ => rfl, by rw [lenL]; exact Nat.le_refl _⟩
      have okL : Ok K wL := by
        refine ⟨fun b u q => ?_, fun l' d q => ?_, fun a b h1 h2 h3 => ok.inj a b (by rw [← lenL]; exact h1) (by rw [← lenL]; exact h2) h3⟩
        · have q' : upd w.M (w.ρ l) (.frz od (.dK vs)) b = some u := q
          show upd w.H (w.ρ l) _ b = _
          by_cases z : b = w.ρ l
          · rw [z, upd_same] at q' ⊢; exact q'
          · rw [upd_ne z] at q' ⊢; exact ok.ex b u q'
        · have q' : (w.st.set l .tomb)[l']? = some d := q
          by_cases z : l = l'
          · subst z
            rw [List.getElem?_set_self hll] at q'
            cases q'
            exact ⟨_, upd_same, .inl rfl⟩
          · rw [List.getElem?_set_ne z] at q'
            obtain ⟨u, g1, g2⟩ := ok.sto l' d q'
            have ne : w.ρ l' ≠ w.ρ l := fun e => z (ok.inj l l' hll (getElem?_lt q') e.symm)
            refine ⟨u, ?_, g2.imp id fun ⟨g2, g3⟩ => ⟨?_, g3.ext xL⟩⟩
            · show upd w.H _ _ (w.ρ l') = _
              rw [upd_ne ne]; exact g1
            · show upd w.M _ _ (w.ρ l') = _
              rw [upd_ne ne]; exact g2
      have frL : Fr K H0 wL (Γ.set i (.sh (.dct kvs))) σ := by
        refine ⟨by simp [f.len], fun j d h => ?_, fun j d h => ?_, fun y z d e b ne g1 g2 g3 => ?_⟩
        · by_cases z : i = j
          · subst z
            rw [List.getElem?_set_self hiΓ] at h; cases h
            exact ⟨_, hv, .dct (o := od) (vs := vs) upd_same rp.1 fun a b c h1 h2 => (rp.2 a b c h1 h2).ext xL⟩
          · rw [List.getElem?_set_ne z] at h
            obtain ⟨v, g1, g2⟩ := f.sh j d h
            exact ⟨v, g1, g2.ext xL⟩
        · by_cases z : i = j
          · subst z
            rw [List.getElem?_set_self hiΓ] at h; cases h
          · rw [List.getElem?_set_ne z] at h
            obtain ⟨b, u, g1, g2, g3, g4, g5, g6⟩ := f.ow j d h
            have nb : b ≠ w.ρ l := fun q => g5 l hll q.symm
            refine ⟨b, u, g1, ?_, ?_, g4, fun l' h' => g5 l' (by rw [← lenL]; exact h'), g6.ext xL⟩
            · show upd w.H _ _ b = _
              rw [upd_ne nb]; exact g2
            · show upd w.M _ _ b = _
              rw [upd_ne nb]; exact g3
        · have ny : i ≠ y := fun q => by subst q; rw [List.getElem?_set_self hiΓ] at g1; cases g1
          have nz : i ≠ z := fun q => by subst q; rw [List.getElem?_set_self hiΓ] at g2; cases g2
          rw [List.getElem?_set_ne ny] at g1
          rw [List.getElem?_set_ne nz] at g2
          exact f.dj y z d e b ne g1 g2 g3
      refine rt H0 wL _ σ okL frL _ ?_
      show PostE K wL (m (Γ.set i (.sh (.dct kvs))) (w.st.set l .tomb)) _ _
      cases hr : m (Γ.set i (.sh (.dct kvs))) (w.st.set l .tomb) with
      | no => rw [hr] at p; exact p.elim
      | err x st => rw [hr] at p; exact p.elim
      | ok r st' =>
        rw [hr] at p
        cases r with
        | bl b =>
          dsimp only at p
          by_cases hfl : st'.all flatO = true
          · rw [if_pos hfl] at p
            intro v w2 e2 k2 s2 r2
            have hMd : w2.M (w.ρ l) = some (.frz od (.dK vs)) := e2.mono _ _ upd_same
            have hle : w.st.length ≤ w2.st.length := by rw [← lenL]; exact e2.le
            have hρ : w2.ρ l = w.ρ l := e2.rho l (by rw [lenL]; exact hll)
            refine ⟨k2.ex _ _ hMd, ?_⟩
            let w3 : Wd := ⟨fun b => if b = w.ρ l then none else w2.M b, w2.ρ, w2.st.set l (.dct kvs), upd w2.H (w.ρ l) (.dK vs)⟩
            have len3 : w3.st.length = w2.st.length := by show (w2.st.set l _).length = _; simp
            have M3 : ∀ {b : Addr}, b ≠ w.ρ l → w3.M b = w2.M b := fun {b} z => if_neg z
            have M3d : w3.M (w.ρ l) = none := if_pos rfl
            have ev3 : Evo w w3 := by
              refine ⟨fun b u q => ?_, fun l' h' => e2.rho l' (by rw [lenL]; exact h'), by rw [len3]; exact hle, fun b u q n => ?_, fun l' h1 h2 => ?_, fun b u hb hm hr' => ?_⟩
              · have z := ne_of_none q hM
                rw [M3 z]; exact e2.mono _ _ (by show upd w.M _ _ b = _; rw [upd_ne z]; exact q)
              · have z : b ≠ w.ρ l := fun z => by rw [z, M3d] at q; cases q
                rw [M3 z] at q
                have := e2.newM b u q (by show upd w.M _ _ b = _; rw [upd_ne z]; exact n)
                have this : upd w.H (w.ρ l) _ b = none := this
                rw [upd_ne z] at this; exact this
              · have this : upd w.H (w.ρ l) (.frz od (.dK vs)) (w2.ρ l') = none := e2.newR l' (by rw [lenL]; exact h1) (by rw [← len3]; exact h2)
                have z : w2.ρ l' ≠ w.ρ l := fun z => by rw [z, upd_same] at this; cases this
                rw [upd_ne z] at this; exact this
              · have z : b ≠ w.ρ l := fun z => hr' l hll z.symm
                show upd w2.H _ _ b = _
                rw [upd_ne z]
                exact e2.keep b u (by show upd w.H _ _ b = _; rw [upd_ne z]; exact hb) (by show upd w.M _ _ b = _; rw [upd_ne z]; exact hm) fun l' h' => hr' l' (by rw [← lenL]; exact h')
            have th : Thaw w2 w3 := ⟨fun b u q hn => by
              have z : b ≠ w.ρ l := fun z => by rw [z, hMd] at q; exact hn _ _ (Option.some.inj q).symm
              rw [M3 z]; exact q, fun l' h' => ⟨by rw [len3]; exact h', rfl⟩⟩
            have hl2 : l < w2.st.length := Nat.lt_of_lt_of_le hll hle
            have ok3 : Ok K w3 := by
              refine ⟨fun b u q => ?_, fun l' d q => ?_, fun a b h1 h2 h3 => k2.inj a b (by rw [← len3]; exact h1) (by rw [← len3]; exact h2) h3⟩
              · have z : b ≠ w.ρ l := fun z => by rw [z, M3d] at q; cases q
                rw [M3 z] at q
                show upd w2.H _ _ b = _
                rw [upd_ne z]; exact k2.ex b u q
              · have q' : (w2.st.set l (.dct kvs))[l']? = some d := q
                by_cases z : l = l'
                · subst z
                  rw [List.getElem?_set_self hl2] at q'
                  cases q'
                  have e1 : w3.ρ l = w.ρ l := hρ
                  refine ⟨.dK vs, ?_, .inr ⟨by rw [e1]; exact M3d, .inl ⟨vs, rfl, rp.1, fun a b c h1 h2 => (rp.2 a b c h1 h2).ext ev3.ext⟩⟩⟩
                  rw [e1]; exact upd_same
                · rw [List.getElem?_set_ne z] at q'
                  obtain ⟨u, g1, g2⟩ := k2.sto l' d q'
                  have ne : w2.ρ l' ≠ w.ρ l := fun e => z (k2.inj l l' hl2 (getElem?_lt q') (hρ.trans e.symm))
                  have hfd : flatO d = true := List.all_eq_true.mp hfl d (by rw [← s2]; exact List.mem_of_getElem? q')
                  refine ⟨u, ?_, g2.imp id fun ⟨g2, g3⟩ => ⟨?_, g3.flat th hfd⟩⟩
                  · show upd w2.H _ _ (w2.ρ l') = _
                    rw [upd_ne ne]; exact g1
                  · exact (M3 ne).trans g2
            refine p v w3 ev3 ok3 ?_ (r2.thaw th rfl)
            show w2.st.set l (.dct kvs) = _
            rw [s2]
          · rw [if_neg hfl] at p; exact p.elim
        | _ => exact p.elim
    · exact p.elim
  · exact .inl (rt H0 w Γ σ ok f Q p)
end
end DL
/-! a, b = x, y with x something new: a's own -/
namespace DL
open PySem L2
section
variable {P : Program} {wd : World} {K : PySem.W.Frag} {mg : Str → Option Value} {base : Heap} {k : Nat} {N : List Str} {sc : SC} {W : WX}
end
end DL
/-! classmethods with *args; a, b = x, y into cells -/
namespace DL
open PySem L2 ClX PySem.Spec PyProof.Rows StX
structure FnSA (P : Program) (wd : World) (K : PySem.W.Frag) (mg : Str → Option Value) (base : Heap) (k : Nat) (f : Addr) (F : DF) : Prop where
  ex : PySem.W.keepIn K (.ref f) = true ∧ ∀ {A : Around} {outer : List PySem.Env} {s : Shared} {H : Hp} {us : List Value} {vs : List V} {Q : VK} {E : XK}, Room k A ∧ Tp A base → Env0 P wd K mg base A outer s H → Vals vs us → spD K F vs H Q E →
    codeAny (model P wd) A (.call (.ref f) ⟨us, []⟩) (CR (L2.CX P wd) outer P wd H s Q E) s
structure ClsOKS (P : Program) (wd : World) (K : PySem.W.Frag) (mg : Str → Option Value) (base : Heap) (k : Nat) (C : String) (m : Str) (F : DF) : Prop where
  ex : ∃ (mc : Value) (g p : Addr), FnSA P wd K mg base k g F ∧ CRead K (cA K C) mc ∧ CMet K (cA K C) mc m p g
section
variable {P : Program} {wd : World} {K : PySem.W.Frag} {mg : Str → Option Value} {base : Heap} {k : Nat} {N : List Str} {sc : SC} {W : WX}
theorem FnSA.mono {j : Nat} {f : Addr} {F : DF} (h : FnSA P wd K mg base j f F) (hj : j ≤ k) : FnSA P wd K mg base k f F :=
  ⟨h.ex.1, fun hr => h.ex.2 ⟨hr.1.mono hj, hr.2⟩⟩
theorem clsOKS {C : String} {m : Str} {g : Addr} {F : DF} {i : Nat} (h : CMetQ K (cA K C) m g) (a : FnSA P wd K mg base i g F) (hi : i ≤ k := by omega) : ClsOKS P wd K mg base k C m F :=
  let ⟨mc, p, x, y⟩ := h.ex
  ⟨mc, g, p, a.mono hi, x, y⟩
theorem fn_okMS {x qual pv : Str} {st : Stmt} {ps : List Str} {m : SM} {f : Addr} (h : HM K x qual st f) (S : FnScope N (ps ++ [pv]) (defScope st))
    (hb : ∀ (kV doc pm : Value) (an : Option Addr) (cdv ct : Value) (us rest : List Value), us.length = ps.length → bindArgs (PySem.W.fnOf x qual (defArgs st) (defBody st) (defScope st) .none kV doc pm an cdv ct) ⟨us ++ rest, []⟩ = (newTuple rest >>= fun t => pure (ps.zip us ++ [(pv, t)])))
    (b : ∀ W : WX, PSl P wd K mg base k N ⟨defScope st, fun _ => true, none⟩ W (defBody st) m) : FnSA P wd K mg base (k + 1) f (starD ps.length (run N (ps ++ [pv]) m)) := by
  obtain ⟨fd, F⟩ := h
  refine ⟨F.kp, fun {A outer s H us vs Q E} hr e0 r hsp => ?_⟩
  obtain ⟨oc, od, kV, doc, pm, an, cdv, ct, osl, rfl, lk, hcd⟩ := F.ex
  obtain ⟨w, ds, rfl, ok, rl, p⟩ := hsp
  unfold starD at p
  by_cases hc : ps.length ≤ ds.length ∧ (ds.drop ps.length).length ≤ 16777216
  · rw [if_pos hc] at p
    have ev : vs.take ps.length ++ vs.drop ps.length = vs := List.take_append_drop _ _
    rw [← ev] at r
    obtain ⟨u1, u2, eu, r1, r2⟩ := vals_split r
    subst eu
    have lv := rl.1
    have hl : (vs.take ps.length).length = ps.length := by rw [List.length_take]; have := hc.1; omega
    have hz : (vs.drop ps.length).length ≤ sizeLine := by
      rw [sizeLine_eq]
      have h2 := hc.2
      rw [List.length_drop] at h2 ⊢; omega
    have hn : w.H s.heap.objs.size = Option.none := e0.hok.fresh (Nat.le_refl _)
    have hl1 : u1.length = ps.length := by rw [← r1.length]; exact hl
    have hl2 : u2.length ≤ sizeLine := by rw [← r2.length]; exact hz
    refine run_bnd lk hcd S hr.1 e0 (G := fun xs H2 => ∃ q, w.H q = Option.none ∧ xs = vs.take ps.length ++ [V.ref q] ∧ H2 = upd w.H q (.tup (vs.drop ps.length))) (fun A' Ex Q' h => ?_) fun s2 H2 xs ⟨q, hq, ex, eH⟩ hr' => ?_
    · rw [hb kV doc pm an cdv ct u1 u2 hl1]
      refine wpAny_bind (wpAny_newTuple (wpAny_pure ?_) hl2)
      have new : ObjOk P wd (upd w.H s.heap.objs.size (.tup (vs.drop ps.length))) (s.heap.push ({ cls := .type "tuple", data := .seq u2.toArray } : Obj)) s.heap.objs.size (.tup (vs.drop ps.length)) := ⟨hz, u2, r2, ⟨_, Heap.get?_push_size _ rfl, rfl, _, rfl⟩⟩
      have un := un_laid (fs := frs outer) (s := s) (o := ({ cls := .type "tuple", data := .seq u2.toArray } : Obj)) (u := .tup (vs.drop ps.length)) hn
      have z := h _ _ (vs.take ps.length ++ [V.ref s.heap.objs.size]) (u1 ++ [Value.ref s.heap.objs.size]) (env0_laid e0 new) un rfl (fun e s' => cxUp outer s w.H _ _ E e s' un (fun b o q => Heap.get?_push_of_some _ q) rfl) (r1.append (.cons rfl .nil))
        (by rw [List.length_append, List.length_append, hl] <;> rfl) ⟨_, hn, rfl, rfl⟩
      rw [List.zip_append hl1.symm] at z
      exact z
    · subst ex eH
      obtain ⟨t, pt, rt⟩ := b (fun cls d _ H => E cls d H)
      have ev2 := evo_fz ok (.tup (vs.drop ps.length)) hq
      have k2 := ok_fz ok (.tup (vs.drop ps.length)) hq
      have rtup : Rep K (w.fz q (.tup (vs.drop ps.length))) (.ref q) (.tup (ds.drop ps.length)) := rep_tup ok hq (rl.drop ps.length)
      have r2' : RepL K (w.fz q (.tup (vs.drop ps.length))) (vs.take ps.length ++ [V.ref q]) (ds.take ps.length ++ [.tup (ds.drop ps.length)]) := ((rl.take ps.length).evo ev2).append (.cons rtup .nil)
      refine ⟨t, pt _ ⟨rfl, rfl, rfl, rfl, rfl, rfl, rfl, rfl, hr', hr.2, takes_of rfl rfl rfl rfl, passes_of rfl, rfl, (fun _ _ h => nomatch h), fun _ => ⟨rfl, rfl, rfl⟩⟩, ?_⟩
      refine rt (w.fz q (.tup (vs.drop ps.length))) (w.fz q (.tup (vs.drop ps.length))) _ _ (Evo.refl _) k2 (fr_init r2' N) _ ?_
      have p2 := PostE.shift ev2 k2 p
      unfold run at p2
      rw [if_pos (by simp; have := hc.1; omega)] at p2
      show PostS K (w.fz q (.tup (vs.drop ps.length))) (w.fz q (.tup (vs.drop ps.length))) (m (initE N (ds.take ps.length ++ [.tup (ds.drop ps.length)])) w.st) _ _
      cases e : m (initE N (ds.take ps.length ++ [.tup (ds.drop ps.length)])) w.st with
      | nx Γ st' => rw [e] at p2; exact fun w' σ e1 x1 k1 s1 f1 => p2 .non w' e1 k1 s1 .non
      | ret d st' => rw [e] at p2; exact fun v w' e1 k1 s1 r1 => p2 v w' e1 k1 s1 r1
      | err x Γ st' => rw [e] at p2; exact fun c dd w' σ e1 x1 k1 s1 f1 r1 => p2 c dd w' e1 k1 s1 r1
      | bk Γ st' => rw [e] at p2; exact p2.elim
      | ct Γ st' => rw [e] at p2; exact p2.elim
      | no => rw [e] at p2; exact p2.elim
  · rw [if_neg hc] at p; exact p.elim
/-- C.m(..), m a classmethod -/
theorem pr_cmethS {j : Nat} {C : String} {m : Str} {F : DF} {e : Expr} {es : List Expr} {ms : EM} {pl : PySem.Env → Sem Bool} {npos apos pos : Pos} (at_ : mg (Str.ofString C) = some (.ref (cA K C))) (T : ClsOKS P wd K mg base j C m F) (ha : PAr P wd K mg base k N sc W (e :: es) ms) (hk : j ≤ k := by omega)
    (hg : sc.s.names.lookup (Str.ofString C) = some .globalImplicit := by rfl) (hd : (Str.ofString C == ("__debug__" : Str)) = false := by decide)
    (hst : ∀ env, starEach (e :: es) env = (false, eval e env) :: starEach es env := by intro _; rfl) (hpl : ∀ env, (backTo pos (starEach es env)).any (·.1) = false := by intro _; rfl)
    (ht : ∀ env, eval (.Call (.Attribute (.Name (Str.ofString C) npos) m apos) (e :: es) [] pos) env = (do
      let ov ← eval (.Name (Str.ofString C) npos) env
      standAt apos.atName
      let (f, first) ← holding [ov] (getMethod ov m (pl env))
      callWith pos f first (backTo pos (starEach (e :: es) env)) (backToKw pos (keywordEach [] env))) := by intro _; rfl) :
    PR P wd K mg base k N sc W (.Call (.Attribute (.Name (Str.ofString C) npos) m apos) (e :: es) [] pos) (eCall F (eCons (eC (.cls C)) ms)) := by
  obtain ⟨t, pt, r⟩ := ha
  refine ⟨tCallS (spD K F) (WE W) (tPre (.ref (cA K C)) t), fun X g => ⟨fun pins s σ H Q I h => ?_⟩, rt_call (rta_pre r)⟩
  have aX := pt X g
  have gl : Gl X (Str.ofString C) := by unfold Gl PySem.Env.kindOf; rw [g.scp]; exact hg
  have cX : PE X (.Name (Str.ofString C) npos) (tC (.ref (cA K C))) := pe_glob gl (by rw [g.mg]; exact at_) rfl hd
  obtain ⟨rfl, rfl, rfl, rfl, rfl, rfl, hsc, hc, hr, hgd, tk, _, _⟩ := g
  obtain ⟨mc, gf, pf, F1, rd, cm⟩ := T.ex
  refine PySem.W.methodCall_KW (pl := pl X.env) (thn (cX.run pins s σ H (fun x H1 => x = .ref (cA X.K C) ∧ tCallS (spD X.K F) (WE W) (tPre (.ref (cA X.K C)) t) σ H1 Q) I ⟨rfl, h⟩) fun u s1 ⟨x, H1, I1, rx, ex, q⟩ => ?_) (ht X.env)
  subst ex
  obtain rfl : u = Value.ref (cA X.K C) := rx
  refine getmethcm_ok I1 rd cm fun s2 I2 => ?_
  refine callwith_cm I2 (base_none I1 (Nat.le_refl _)) cm.fi (thn (aX.run pos _ s2 σ H1 _ I2 q) fun us s3 ⟨vs, H2, I3, rv, q2⟩ => ⟨⟨pin_at I3, I3.kIn⟩, ?_⟩) (hst X.env) (hpl X.env)
  have rv' : Vals (.ref (cA X.K C) :: vs) (.ref (cA X.K C) :: us) := .cons rfl rv
  have z : wpAny (model X.prog X.w) X.A (call (.ref s1.heap.objs.size) us) (EP X ((s1.heap.objs.size, PySem.W.methodObj (.ref gf) (.ref (cA X.K C))) :: pins) σ Q) X.xe s3 :=
    wpAny_call (PySem.W.method_call (pin_at I3) (codeAny_mono (F1.ex.2 (E := WE W σ) ⟨hr.mono hk, hgd⟩ I3.env0 rv' q2) fun r s' hq => match r, hq with | .error e, hq => passAt tk σ _ _ _ e s' I3 hq | .ok (.ret u), hq => I3.after hq))
  exact thn z fun _ _ y => unpinE y
/-! o.m(..), m a static method -/
structure SInst (K : PySem.W.Frag) (C : Addr) (m : Str) (p g : Addr) : Prop where
  ic : PySem.W.isClsIn K C = true
  at_ : PySem.W.findIn K (.ref C) m = some (some (.ref p))
  ty : PySem.W.typeIn K (.ref p) = some (.type "staticmethod")
  get : PySem.W.specialIn K (.ref p) "__get__" = some (some (.builtin "staticmethod.__get__"))
  tk : PySem.W.takesIn K (.ref p) = some false
  cp : PySem.W.copiedNames.contains m = false
  rc : ∃ rest, PySem.W.recIn K p "staticmethod" = some (.ref g :: rest)
  kp : PySem.W.keepIn K (.ref g) = true
def selfD (F : DF) : DF := fun ds st => match ds with
  | [] => .no
  | _ :: ds => F ds st
@[simp] theorem selfD_c {F : DF} {d : D} {ds : List D} {st : Store} : selfD F (d :: ds) st = F ds st := rfl
structure StatIOK (P : Program) (wd : World) (K : PySem.W.Frag) (mg : Str → Option Value) (base : Heap) (k : Nat) (C : String) (m : Str) (F' : DF) : Prop where
  cl : Cls K (cA K C)
  ex : ∃ (F : DF) (p g : Addr) (fd : FuncData) (ps : List Str), F' = selfD F ∧ FnG P wd K mg base k g fd ps (spD K F) ∧ SInst K (cA K C) m p g ∧ Binds K fd ps []
end
end DL
/-! a, b, c = a list -/
namespace DL
open PySem L2 PyProof.Rows
open Sem (wp)
section
variable {prog : Program} {w : World} {A : Around} {E : Value → Shared → Prop} {s : Shared}
end
section
variable {P : Program} {wd : World} {K : PySem.W.Frag} {mg : Str → Option Value} {base : Heap} {k : Nat} {N : List Str} {sc : SC} {W : WX}
end
end DL
/-! x in a list of texts, x a list, a tuple or a dict -/
namespace DL
open PySem PySem.SeqAt PySem.Builtin PySem.W PySem.Spec PyProof.Rows L2
open AutoSeq1 (wpAny_loadPart')
open MeetsSeq
section
variable {prog : Program} {w : World} {A : Around} {E : Value → Shared → Prop} {s : Shared}
end
section
variable {P : Program} {wd : World} {K : PySem.W.Frag} {mg : Str → Option Value} {base : Heap} {k : Nat} {N : List Str} {sc : SC} {W : WX}
end
end DL
/-! d.get(k), d.get(k, x) -/
namespace DL
open PySem L2
section
variable {P : Program} {wd : World} {K : PySem.W.Frag} {mg : Str → Option Value} {base : Heap} {k : Nat} {N : List Str} {sc : SC} {W : WX}
end
end DL
/-! a lambda is made: exactly what becomes of the table; a lambda is called -/
namespace DL
open PySem PySem.Spec PyProof.Rows L2 LamX
section
variable {X : Cx} {pins : List (Addr × Obj)} {σ : L2.St} {H HZ : Hp} {s s1 : Shared}
end
end DL
/-! f(lambda: e): f takes a thing to be called, in a try -/
namespace DL
open PySem PySem.Spec PyProof.Rows L2 LamX
section
variable {P : Program} {wd : World} {K : PySem.W.Frag} {mg : Str → Option Value} {base : Heap} {k : Nat} {N : List Str} {sc : SC} {W : WX}
end
end DL
namespace DL
open PySem PySem.Spec PyProof.Rows L2 LamX
open Classical in
section
variable {P : Program} {wd : World} {K : PySem.W.Frag} {mg : Str → Option Value} {base : Heap} {k : Nat} {N : List Str} {sc : SC} {W : WX}
end
end DL
namespace DL
open PySem L2
section
variable {P : Program} {wd : World} {K : PySem.W.Frag} {mg : Str → Option Value} {base : Heap} {k : Nat} {N : List Str} {sc : SC} {W : WX}
end
end DL
/-! sorted(xs, key=lambda t: (len(t), t)), sorted(xs, key=lambda t: (-len(t), t)): xs a list of texts -/
namespace DL
open PySem L2 PySem.Spec PyProof.Rows LamX PySem.W
section
variable {P : Program} {wd : World} {A : Around} {s : Shared} {mg mb : Str → Option Value} {f d : Addr} {q t : Str} {ar : Arguments} {sl : Scope} {pm ct u : Value} {b : Bool} {e1 : Expr} {p2 pos : Pos} {kk : Nat} {x : Str} {clo : List (Str × Addr)}
end
end DL

namespace DL
open PySem PySem.Spec PyProof.Rows L2 LamX
section
variable {P : Program} {wd : World} {K : PySem.W.Frag} {mg : Str → Option Value} {base : Heap} {k : Nat} {N : List Str} {sc : SC} {W : WX}
end
end DL
/-! sorted(xs): xs a list of pairs (int, text) -/
namespace DL
open PySem L2 PySem.Spec PyProof.Rows
section
variable {X : Cx}
end
section
variable {P : Program} {wd : World} {K : PySem.W.Frag} {mg : Str → Option Value} {base : Heap} {k : Nat} {N : List Str} {sc : SC} {W : WX}
end
end DL
/-! if d.pop(k) != x: .. ; found.append(left.pop(i)): d, found, left are own -/
namespace DL
open PySem L2
section
variable {P : Program} {wd : World} {K : PySem.W.Frag} {mg : Str → Option Value} {base : Heap} {k : Nat} {N : List Str} {sc : SC} {W : WX}
/-! found.append(left.pop(i)) -/
end
end DL
/-! a, b = x, y: both new, both own -/
namespace DL
open PySem L2
section
variable {P : Program} {wd : World} {K : PySem.W.Frag} {mg : Str → Option Value} {base : Heap} {k : Nat} {N : List Str} {sc : SC} {W : WX}
end
end DL
/-! x += ys (a list of the store), n += i, y = [.. for .. for ..] on one line, l.reverse() (a list of the store) -/
namespace L2
open PySem PySem.Spec PyProof.Rows
section
variable {X : Cx}
def ipL : TIp := fun x y H Q => ∃ l b xs zs, x = .ref l ∧ y = .ref b ∧ H l = some (.lst xs) ∧ H b = some (.lst zs) ∧ xs.length + zs.length < sizeLine ∧ Q (.ref l) (upd H l (.lst (xs ++ zs)))
end
end L2
namespace DL
open PySem L2
section
variable {P : Program} {wd : World} {K : PySem.W.Frag} {mg : Str → Option Value} {base : Heap} {k : Nat} {N : List Str} {sc : SC} {W : WX}
/-- x += e, x a list of the store -/
def sAugR (i : Nat) (m : EM) : SM := fun Γ st => match Γ[i]? with
  | some (.sh (.ref l)) => (m Γ st).bs Γ fun d s => (match s[l]?, d with
    | some (.lst xs), .lst ys => if xs.length + ys.length < 16777216 then .nx Γ (s.set l (.lst (xs ++ ys))) else .no
    | _, _ => .no)
  | _ => .no
@[simp] theorem sAugR_ap {i : Nat} {m : EM} {Γ : DEnv} {st : Store} : sAugR i m Γ st = (match Γ[i]? with
  | some (.sh (.ref l)) => (m Γ st).bs Γ fun d s => (match s[l]?, d with
    | some (.lst xs), .lst ys => if xs.length + ys.length < 16777216 then .nx Γ (s.set l (.lst (xs ++ ys))) else .no
    | _, _ => .no)
  | _ => .no) := rfl
/-- x += e: ints -/
def sAugI (i : Nat) (m : EM) : SM := fun Γ st => match Γ[i]? with
  | some (.sh (.int a)) => (m Γ st).bs Γ fun d s => (match d with
    | .int b => .nx (Γ.set i (.sh (.int (a + b)))) s
    | _ => .no)
  | _ => .no
@[simp] theorem sAugI_ap {i : Nat} {m : EM} {Γ : DEnv} {st : Store} : sAugI i m Γ st = (match Γ[i]? with
  | some (.sh (.int a)) => (m Γ st).bs Γ fun d s => (match d with
    | .int b => .nx (Γ.set i (.sh (.int (a + b)))) s
    | _ => .no)
  | _ => .no) := rfl
/-- l.reverse(), l a list of the store -/
def sRevR (mo : EM) : SM := fun Γ st => (mo Γ st).bs Γ fun o s1 => match o with
  | .ref l => (match s1[l]? with
    | some (.lst xs) => .nx Γ (s1.set l (.lst xs.reverse))
    | _ => .no)
  | _ => .no
@[simp] theorem sRevR_ap {mo : EM} {Γ : DEnv} {st : Store} : sRevR mo Γ st = (mo Γ st).bs Γ fun o s1 => match o with
  | .ref l => (match s1[l]? with
    | some (.lst xs) => .nx Γ (s1.set l (.lst xs.reverse))
    | _ => .no)
  | _ => .no := rfl
theorem pn_sortset {e : Expr} {m : EM} {p p2 q pos : Pos} (hm : mg "sorted" = none) (hm2 : mg "set" = none) (ha : PB P wd K mg base k N sc W e m) (hg : sc.s.names.lookup ("sorted" : Str) = some .globalImplicit := by rfl) (hg2 : sc.s.names.lookup ("set" : Str) = some .globalImplicit := by rfl)
    (na : ∀ env, starEach [e] env = (false, eval e env) :: starEach [] env := by intro _; rfl) :
    PN P wd K mg base k N sc W (.Call (.Name "sorted" p) [.Call (.Name "set" p2) [e] [] q] [] pos) (eSortSet m) := by
  obtain ⟨t, pt, r⟩ := ha
  refine ⟨tSortSet K t, fun X g => by have := pe_sortSet (p := p) (p2 := p2) (q := q) (pos := pos) g.calm g.un (g.gl hg) (g.none hm) (g.gl hg2) (g.none hm2) (pt X g) (na X.env); rw [g.kk] at this; exact this, ?_⟩
  intro H0 w Γ σ ok f Q q
  refine RB.use (P := fun w r => PostN K w r Q (at_ W σ)) r ok f (fun _ _ e k p => p.shift e k) (fun _ _ p => p) (fun p => p) q fun d v w1 e1 k1 f1 r1 p1 => ?_
  have vw := r1.vw k1 f1
  revert vw p1
  cases deref w1.st d with
  | lst xs =>
    intro p1 vw
    obtain ⟨a, vs, rfl, hH, rl⟩ := vw
    dsimp only at p1
    split at p1
    · rename_i ys hy
      by_cases hl : (ddp ys).length + 1 < 4096
      · rw [if_pos hl] at p1
        have e := strsOf_rep hy rl
        subst e
        exact ⟨a, ys, rfl, SqL.of hH, hl, fun l hl => PostN.al p1 k1 hl ⟨_, rfl, repL_strs _⟩⟩
      · rw [if_neg hl] at p1; exact p1.elim
    · exact p1.elim
  | _ => intro p1 _; exact p1.elim
end
end DL
namespace DL
open PySem L2 PyProof.Rows
/-! ### xs[::2] -/
section
variable {P : Program} {wd : World} {K : PySem.W.Frag} {mg : Str → Option Value} {base : Heap} {k : Nat} {N : List Str} {sc : SC} {W : WX}
/-! ### for k, v in d.items() -/
end
end DL
namespace DL
open PySem L2
/-! repr of a list whose items may stand in the store -/
section
variable {X : Cx} {pins : List (Addr × Obj)} {σ : L2.St} {s : Shared} {w : Wd}
end
section
variable {X : Cx}
end
section
variable {P : Program} {wd : World} {K : PySem.W.Frag} {mg : Str → Option Value} {base : Heap} {k : Nat} {N : List Str} {sc : SC} {W : WX}
end
end DL
namespace DL
open PySem L2
/-! a new object of the store, taken out of it: from here on it does not change -/
section
variable {P : Program} {wd : World} {K : PySem.W.Frag} {mg : Str → Option Value} {base : Heap} {k : Nat} {N : List Str} {sc : SC} {W : WX}
end
end DL
/-! generator functions, called by their names with arguments -/
namespace DL
open PySem L2 GB MaskX GenW PySem.Spec PyProof.Rows
section
variable {P : Program} {wd : World} {K : PySem.W.Frag} {mg : Str → Option Value} {base : Heap} {k : Nat} {N : List Str} {sc : SC} {W : WX}
end
end DL
/-! list(g) of a generator -/
namespace DL
open PySem L2 GB MaskX GenW PySem.Spec PyProof.Rows
section
variable {P : Program} {wd : World} {K : PySem.W.Frag} {mg : Str → Option Value} {base : Heap} {k : Nat} {N : List Str} {sc : SC} {W : WX}
/-- the same context, two calls deeper -/
abbrev inn (X : Cx) : Cx := { X with A := X.A.in1.in1 }
theorem inn_to {X : Cx} {pins : List (Addr × Obj)} {σ : L2.St} {H : Hp} {s : Shared} (I : Inv X pins σ H s) : Inv (inn X) pins σ H s :=
  ⟨⟨I.ok.mod, I.ok.kind, I.ok.glob, I.ok.blt, I.ok.above, I.ok.inj, I.ok.has, I.ok.cab, I.ok.hd, I.ok.frames, I.ok.stk, I.ok.exf, I.ok.bs, I.ok.bsz, I.ok.noex, I.ok.exfs, I.ok.funs, I.ok.frf⟩, I.os, I.bare, I.base, I.loc, I.cell, I.free, I.freeC, I.pin, I.hok, I.len⟩
theorem inn_of {X : Cx} {pins : List (Addr × Obj)} {σ : L2.St} {H : Hp} {s : Shared} (I : Inv (inn X) pins σ H s) : Inv X pins σ H s :=
  ⟨⟨I.ok.mod, I.ok.kind, I.ok.glob, I.ok.blt, I.ok.above, I.ok.inj, I.ok.has, I.ok.cab, I.ok.hd, I.ok.frames, I.ok.stk, I.ok.exf, I.ok.bs, I.ok.bsz, I.ok.noex, I.ok.exfs, I.ok.funs, I.ok.frf⟩, I.os, I.bare, I.base, I.loc, I.cell, I.free, I.freeC, I.pin, I.hok, I.len⟩
theorem standL {w3 w4 : Wd} {D : Addr} {acc : List V} (e : Evo w3 w4) (h1 : w3.H D = some (.lst acc)) (h2 : w3.M D = none) (h3 : ∀ l, l < w3.st.length → w3.ρ l ≠ D) : w4.H D = some (.lst acc) ∧ w4.M D = none ∧ ∀ l, l < w4.st.length → w4.ρ l ≠ D := by
  refine ⟨e.keep D _ h1 h2 h3, ?_, fun l hl z => ?_⟩
  · cases z : w4.M D with
    | none => rfl
    | some u => have y := e.newM D u z h2; rw [h1] at y; cases y
  · by_cases z2 : l < w3.st.length
    · exact h3 l z2 ((e.rho l z2).symm.trans z)
    · have y := e.newR l (Nat.le_of_not_lt z2) hl
      rw [z, h1] at y; cases y
theorem drainY {X : Cx} {pins : List (Addr × Obj)} {σ : L2.St} {E : GE} {a L S g : Nat} {oG : Obj} {ds : List D} {w1 : Wd} {R : Result → Shared → Prop} (tbw : TbAt E.T w1.st) (hr : Room k (inn X).A)
    (hg : Grd (inn X) pins E a L oG [S]) (hgen : ∀ h : Heap, h.get? a = some oG → h.IsGen a g) (hown : X.env.locals < L) (hLa : L < a) (hS1 : w1.H S = none) (hlen : ds.length < sizeLine)
    (hend : ∀ s' w' acc, Inv X pins σ w'.H s' → Ok X.K w' → Evo w1 w' → w'.st = w1.st → w'.H S = some (.lst acc) → w'.M S = none → (∀ l, l < w'.st.length → w'.ρ l ≠ S) → RepL X.K w' acc ds → R (.ok (.ret .none)) s') :
    ∀ (n : Nat) (rem : List D) (s' : Shared) (w' : Wd) (acc : List V) (acd : List D) (gs : GenState) (gp : List (Addr × Obj)) (wy : Wd), rem.length = n → acd ++ rem = ds → Inv (inn X) (pins ++ (a, oG) :: gp) σ w'.H s' → Ok X.K w' → Evo w1 w' → w'.st = w1.st → w'.H S = some (.lst acc) → w'.M S = none → (∀ l, l < w'.st.length → w'.ρ l ≠ S) → RepL X.K w' acc acd →
      GIx X.prog X.w X.K X.base (inn X).A E a g ds rem w' s' gs gp wy → codeAny (model X.prog X.w) X.A.in1 (.builtin "list.extend.loop" ⟨[.ref S, .ref a, .none], []⟩) R s' := by
  intro n
  induction n using Nat.strongRecOn with
  | ind n ih =>
    intro rem s' w' acc acd gs gp wy hn hcat lI lok lev hst hd1 hm1 hr1 ra l
    refine codeAny_builtin F.entry_extend_loop ?_
    rw [Around.under_plainId F.plain_extend_loop _]
    show wpAny (model (inn X).prog (inn X).w) (inn X).A (pyNext (.ref a) >>= _) _ _ s'
    have hpin := lI.pin (a, oG) (List.mem_append_right _ (List.mem_append_right _ List.mem_cons_self))
    have pnok : PnOk (inn X) a L oG s' w'.H [(a, oG)] := ⟨List.mem_singleton.mpr rfl, fun p hp => by
      rw [List.mem_singleton.mp hp]
      refine ⟨hpin.1, hpin.2.1, Nat.ne_of_gt hLa, fun z => ?_, hg.nc⟩
      rcases List.mem_cons.mp (lI.stkSub _ z) with z | z
      · exact hpin.2.2.1 z
      · exact hpin.2.2.2.1 z, .inl hown⟩
    refine wpAny_bind (next_y (X := inn X) hg lI lok hr hgen l pnok (fun q hq => .inl (by rw [List.mem_singleton.mp hq])) (fun b hb => by rw [List.mem_singleton.mp hb, hd1]; exact fun z => by cases z) (by rw [hst]; exact tbw) (fun d rem' v x s4 w4 gs' gp' hrem rv rp4 ev4 k4' hst4 I4 hsus hg4 _ hnext => ?_) fun s4 w4 hrem ev4 k4' hst4 I4 => ?_)
    · subst hrem
      obtain ⟨c1, c2, c3⟩ := standL ev4 hd1 hm1 hr1
      obtain ⟨hz', its, m, ri, e⟩ := I4.hok S _ c1
      have hln := ri.length
      have hal := ra.1
      have hds : acc.length < sizeLine := by
        have := congrArg List.length hcat
        simp only [List.length_append, List.length_cons] at this
        omega
      show wpAny _ _ (updateSeq S (·.push v) >>= _) _ _ s4
      refine wpAny_bind (wpAny_updateSeq e rfl ?_ (by rw [List.size_toArray]; omega) (by show (Array.push _ v).size ≤ _; rw [Array.size_push, List.size_toArray]; omega))
      have ho' := Heap.get?_update_self (Obj.mapSeq (·.push v)) e (by rw [mapSeq_push]; rfl)
      rw [mapSeq_push] at ho'
      have I5 := I4.write (x := S) (e := S) (o := .lst (acc ++ [x])) (t' := s4.toks) (h' := s4.heap.update S (Obj.mapSeq (·.push v))) (by rw [c1]; trivial) (.inl rfl) (fun b u hb q => (Heap.get?_update_other _ _ (Ne.symm hb)).trans q) ⟨_, ho'⟩ ⟨by rw [List.length_append]; exact hds, its ++ [v], m + 1, ri.append (.cons rv .nil), by rw [ho']; simp⟩
      obtain ⟨wy', nx⟩ := hnext { s4 with heap := s4.heap.update S (Obj.mapSeq (·.push v)) } (w4.al S (.lst (acc ++ [x]))) ⟨fun _ _ h => h, fun _ _ => rfl, Nat.le_refl _⟩ hg4
      refine wpAny_pure ⟨plainId_quiet F.plain_extend_loop _, ?_⟩
      have e14 := lev.trans lok ev4
      refine ih rem'.length (by rw [← hn]; simp) rem' _ (w4.al S (.lst (acc ++ [x]))) (acc ++ [x]) (acd ++ [d]) gs' gp' wy' rfl (by rw [← hcat]; simp) I5 (ok_al k4' _ c2 c3) ?_ (hst4.trans hst) upd_same c2 c3 ?_ nx
      · exact ⟨e14.mono, e14.rho, e14.le, e14.newM, e14.newR, fun b u hb hmb hrb => by
          show upd w4.H S _ b = _
          rw [upd_ne (ne_of_none hb hS1)]; exact e14.keep b u hb hmb hrb⟩
      · exact RepL.ext (w := w4) (w' := w4.al S _) ⟨fun _ _ h => h, fun _ _ => rfl, Nat.le_refl _⟩ ((ra.evo ev4).append (.cons rp4 .nil))
    · subst hrem
      obtain ⟨c1, c2, c3⟩ := standL ev4 hd1 hm1 hr1
      rw [List.append_nil] at hcat
      subst hcat
      exact wpAny_pure (hend s4 w4 acc (inn_of I4) k4' (lev.trans lok ev4) (hst4.trans hst) c1 c2 c3 (ra.evo ev4))
def eListY (mi : EM) : EM := fun Γ st => match mi Γ st with
  | .ok d s => (match d with
    | .lst ds => if ds.length < 16777216 then .ok (.lst ds) s else .no
    | _ => .no)
  | _ => .no
theorem isL_listY {mi : EM} : IsL (eListY mi) := fun Γ st d s h => by
  unfold eListY at h
  split at h
  · split at h
    · split at h
      · cases h; exact ⟨_, rfl⟩
      · cases h
    · cases h
  · cases h
/-- list(g) -/
theorem pn_listY {T : List String} {e : Expr} {mi : EM} {p pos : Pos} (hi : PYT P wd K mg base T k N sc W e mi) (hm : mg "list" = none) (hg : sc.s.names.lookup ("list" : Str) = some .globalImplicit := by rfl) (he : ∀ env, starEach [e] env = (false, eval e env) :: starEach [] env := by intro _; rfl) :
    PN P wd K mg base k N sc W (.Call (.Name "list" p) [e] [] pos) (eListY mi) := by
  refine ⟨tLcY K W (eListY mi), fun X gx => ⟨fun pins s σ H Q I h => ?_⟩, fun H0 w Γ σ ok f Q p => ⟨H0, w, Γ, rfl, ok, f, p⟩⟩
  obtain ⟨H0, w, Γ, rfl, ok, fr, p⟩ := h
  obtain ⟨j, hj, py⟩ := hi
  have pyX := py X gx
  obtain ⟨rfl, rfl, rfl, rfl, rfl, rfl, hsc, hc, hr, hgd, tk, hpass, _⟩ := gx
  unfold eListY at p
  cases hm' : mi Γ w.st with
  | no => rw [hm'] at p; exact p.elim
  | err x st => rw [hm'] at p; exact p.elim
  | ok dd st' =>
  rw [hm'] at p
  cases dd with
  | lst ds =>
    dsimp only at p
    split at p
    · rename_i hlen
      have gl : Gl X "list" := by unfold Gl PySem.Env.kindOf; rw [hsc]; exact hg
      refine wpAny_Call_Name_kw (ld_blt (u := .type "list") I gl hm (by decide +kernel) ?_ (by decide) (by decide))
      refine PyProof.Rows.callWith_type1 ?_ (he X.env) rfl
      rw [he]
      show wpAny _ _ (spliced ((false, eval e X.env) :: backTo pos (starEach [] X.env))) _ _ s
      refine Calls.spliced_cons (thn (pyX pins s σ H0 w Γ ds st' I ok fr hm') fun u s1 hy => ?_)
      refine Calls.spliced_nil ?_
      obtain ⟨s0, w1, a, g, L, oG, oL, c, rfl, I0, e1, k1, hst, tbw, m⟩ := hy
      subst hst
      have hG : s1.heap.IsGen a g := m.isGen m.obj
      have own : X.env.locals < L := by rw [← m.lL]; exact I0.lt
      have hSa : s1.heap.objs.size ≠ a := Nat.ne_of_gt m.lt
      have hLS : L < s1.heap.objs.size := Nat.lt_trans m.la m.lt
      have I1 : Inv X pins σ w1.H s1 := I0.call' (ch := []) m.os (Un.kept m.keep) (I0.hok.kept m.keep) m.bare fun b hb => by simp at hb
      have fresh : ∀ b, L ≤ b → w1.H b = none := fun b hb => I0.hok.fresh (by rw [m.lL]; exact hb)
      refine callType_codes (Q₁ := fun obj s₁ => obj = .ref s1.heap.objs.size ∧ s₁ = { s1 with heap := s1.heap.push { cls := .type "list", data := .seq #[] } }) F.called_list (F.typeCall_list_1 _) F.entry_list_init
        (code_list_new _ ⟨rfl, rfl⟩) fun obj s₁ h₁ => ?_
      obtain ⟨rfl, rfl⟩ := h₁
      have hS : (s1.heap.push { cls := .type "list", data := .seq #[] }).get? s1.heap.objs.size = some { cls := .type "list", data := .seq #[] } := Heap.get?_push_size _ rfl
      refine ⟨⟨_, hS, rfl⟩, F.args_list_init_2 _ _, ?_⟩
      show wpAny _ X.A.in1.in1 (do let old ← Builtin.List.listItems (.ref s1.heap.objs.size); Builtin.List.listUpdate (.ref s1.heap.objs.size) (fun _ => #[]); letGo old.toList.reverse; Builtin.List.listExtendWith (.ref s1.heap.objs.size) (.ref a) .none) _ _ _
      refine wpAny_bind ?_
      unfold Builtin.List.listItems
      refine wpAny_bind (wpAny_seqItems hS rfl (wpAny_pure ?_))
      show wpAny _ X.A.in1.in1 (updateSeq s1.heap.objs.size (fun _ => #[]) >>= fun _ => letGo (#[] : Array Value).toList.reverse >>= fun _ => Builtin.List.listExtendWith (.ref s1.heap.objs.size) (.ref a) .none) _ _ _
      refine wpAny_bind (wpAny_updateSeq hS rfl ?_)
      have hS2 := Heap.get?_update_self (Obj.mapSeq (fun _ => (#[] : Array Value))) hS rfl
      refine wpAny_bind (wpAny_letGo ?_)
      unfold Builtin.List.listExtendWith
      have up : ∀ (h : Heap) (f : Obj → Obj), (∀ b o, s1.heap.get? b = some o → h.get? b = some o) → ∀ b o, s1.heap.get? b = some o → (h.update s1.heap.objs.size f).get? b = some o := fun h f q b o e =>
        (Heap.get?_update_other _ _ (Ne.symm (Nat.ne_of_lt (Heap.lt_size e)))).trans (q b o e)
      have q1 : ∀ b o, s1.heap.get? b = some o → (s1.heap.push { cls := .type "list", data := .seq #[] }).get? b = some o := fun b o e => Heap.get?_push_of_some _ e
      have q2 := up _ (Obj.mapSeq (fun _ => (#[] : Array Value))) q1
      have gty : ∀ {h : Heap}, (∀ b o, s1.heap.get? b = some o → h.get? b = some o) → h.IsGen a g := fun {h} q => hG.keeps q
      refine wpAny_bind (wpAny_typeOf (Heap.IsGen.typeIs (s := { s1 with heap := _ }) (gty q2)) ?_)
      have h1 : Builtin.List.listSameRef (.ref s1.heap.objs.size) (.ref a) = false := by simp [Builtin.List.listSameRef, hSa]
      have h2 : (Value.type "generator" == Value.type "list") = false := by decide
      have h3 : (Value.type "generator" == Value.type "tuple") = false := by decide
      simp only [h1, h2, h3, Bool.or_false, Bool.false_eq_true, if_false]
      refine wpAny_bind (wpAny_pyIter_gen (s := { s1 with heap := _ }) (gty q2) ?_)
      refine wpAny_bind (wpAny_holding ?_)
      unfold Builtin.List.listLengthHint
      refine wpAny_bind (wpAny_specialOf (Heap.IsGen.typeIs (s := { s1 with heap := _ }) (gty q2)) F.gen_no_len ?_)
      show wpAny _ X.A.in1.in1 (specialOf (Value.ref a) (Str.ofString "__length_hint__") >>= _) _ _ _
      refine wpAny_bind (wpAny_specialOf (Heap.IsGen.typeIs (s := { s1 with heap := _ }) (gty q2)) F.gen_no_hint ?_)
      refine wpAny_pure ?_
      show wpAny _ X.A.in1.in1 (rule "list.extend.makes-room" >>= fun _ => Builtin.List.listTouch (.ref s1.heap.objs.size) >>= fun _ =>
        again (.builtin "list.extend.loop" ⟨[.ref s1.heap.objs.size, .ref a, .none], []⟩)) _ _ _
      refine wpAny_bind (wpAny_rule ?_)
      refine wpAny_bind ?_
      show wpAny _ X.A.in1.in1 (updateSeq s1.heap.objs.size (·.push .none) >>= fun _ => updateSeq s1.heap.objs.size (·.pop)) _ _ _
      refine wpAny_bind (wpAny_updateSeq hS2 rfl ?_)
      have hS3 := Heap.get?_update_self (Obj.mapSeq (·.push Value.none)) hS2 rfl
      refine wpAny_updateSeq (hz := by seq_fits) hS3 rfl ?_
      have hS4 := Heap.get?_update_self (Obj.mapSeq (·.pop)) hS3 rfl
      have q4 := up _ (Obj.mapSeq (·.pop)) (up _ (Obj.mapSeq (·.push Value.none)) q2)
      refine wpAny_pure ⟨plainId_quiet F.plain_extend_loop _, ?_⟩
      obtain ⟨E, hEL, hEo, hET, hrun⟩ := m.run X.A.in1.in1.in1 ⟨hr.hd, by have := hr.dp; show X.A.depth + _ + _ < _; omega, by have := hr.un; show X.A.units + 1 + 1 + 1 + _ + _ < _; omega⟩ hgd I0.ok.frames
      have grd : Grd (inn X) pins E a L oG [s1.heap.objs.size] := by
        refine ⟨hEL, hEo, fun b hb _ _ _ => .inr (Nat.le_trans (by rw [← m.lL]; exact I0.sz) hb), ⟨Nat.ne_of_lt (Nat.lt_trans own m.la), Nat.ne_of_lt own⟩, fun b hb => Nat.lt_of_not_le fun z => ?_, fun x c e => ?_, fun p hp => ?_, m.la, fun v q => ?_⟩
        · exact I0.nofs (by rw [m.lL]; exact z) hb
        · obtain ⟨v, o, ho, _⟩ := I0.cell x c e
          rw [← m.lL]; exact Heap.lt_size ho
        · rw [← m.lL]; exact Heap.lt_size (I0.pin p hp).1
        · obtain ⟨nm, qn, hd⟩ := m.dat
          rw [hd] at q; cases q
      have I2 : Inv X (pins ++ (a, oG) :: [(L, oL)]) σ w1.H s1 := I1.pins_of fun p hp => by
        have up : ∀ b, L ≤ b → b ≠ X.env.locals ∧ b ∉ X.fs := fun b hb => ⟨Nat.ne_of_gt (Nat.lt_of_lt_of_le own hb), fun z => absurd (Nat.lt_of_lt_of_le (grd.fs b z) hb) (Nat.lt_irrefl _)⟩
        rcases List.mem_append.mp hp with hp | hp
        · exact I1.pin p (List.mem_append_right _ hp)
        · rcases List.mem_cons.mp hp with rfl | hp
          · obtain ⟨u1, u2⟩ := up a (Nat.le_of_lt m.la)
            exact ⟨m.obj, fresh a (Nat.le_of_lt m.la), u1, u2, grd.nc⟩
          · obtain rfl := List.mem_singleton.mp hp
            obtain ⟨u1, u2⟩ := up L (Nat.le_refl _)
            exact ⟨m.obL, fresh L (Nat.le_refl _), u1, u2, m.cell⟩
      have hSn : w1.H s1.heap.objs.size = none := fresh _ (Nat.le_of_lt hLS)
      have I3 := I2.laid (a := s1.heap.objs.size) (o := .lst []) (t' := s1.toks) q4 (Nat.le_refl _) ⟨Nat.zero_le _, [], _, .nil, hS4⟩
      have p1 := PostN.shift e1 k1 p
      exact drainY (X := X) (k := j + 1) (w1 := w1) (ds := ds) (by rw [hET]; exact tbw) ⟨hr.hd, by have := hr.dp; show X.A.depth + _ + _ < _; omega, by have := hr.un; show X.A.units + 1 + 1 + _ + _ < _; omega⟩ grd (fun h e => m.isGen e) own m.la hSn hlen
        (fun s' w' acc I' k' ev' hst' d1 d2 d3 ra => ⟨rfl, .ref s1.heap.objs.size, w'.H, I', rfl, p1 s1.heap.objs.size _ w' ev' k' hst' hSn d1 d2 d3 ⟨acc, rfl, ra⟩⟩)
        ds.length ds _ (w1.al s1.heap.objs.size (.lst [])) [] [] (.fresh c) [(L, oL)] (tbS T w1) rfl rfl (inn_to I3) (ok_al k1 _ (k1.none hSn) (k1.noR hSn)) (evo_al k1 _ hSn) rfl upd_same (k1.none hSn) (k1.noR hSn) .nil
        ⟨m.gen, by rw [hET]; exact ⟨fun _ _ h => h, fun _ _ => rfl, Nat.le_refl _⟩, fun b r x q => hrun b r x q, by simp, Nat.le_refl _, fun p hp => by rw [List.mem_singleton.mp hp]; exact Nat.ne_of_lt m.la, fun p hp => by rw [List.mem_singleton.mp hp]; exact Nat.le_of_eq hEL⟩
    · exact p.elim
  | _ => exact p.elim
theorem pr_listY {T : List String} {e : Expr} {mi : EM} {p pos : Pos} (hi : PYT P wd K mg base T k N sc W e mi) (hm : mg "list" = none) (hg : sc.s.names.lookup ("list" : Str) = some .globalImplicit := by rfl) (he : ∀ env, starEach [e] env = (false, eval e env) :: starEach [] env := by intro _; rfl) :
    PR P wd K mg base k N sc W (.Call (.Name "list" p) [e] [] pos) (eListY mi) := (pn_listY hi hm hg he).rt isL_listY
end
end DL
/-! a, b, c = x, y, z: y and z new, b and c own -/
namespace DL
open PySem L2
section
variable {P : Program} {wd : World} {K : PySem.W.Frag} {mg : Str → Option Value} {base : Heap} {k : Nat} {N : List Str} {sc : SC} {W : WX}
end
end DL
/-! a dict == a text -/
namespace DL
open PySem PySem.SeqAt PySem.Builtin PySem.W PySem.Spec PyProof.Rows L2
open AutoSeq1 (wpAny_loadPart')
open MeetsSeq
section
variable {P : Program} {wd : World} {K : PySem.W.Frag} {mg : Str → Option Value} {base : Heap} {k : Nat} {N : List Str} {sc : SC} {W : WX}
end
end DL
namespace DL
open PySem L2
def top (i : Nat) : Stmt := PySem.Challenge.pw_keptroutes_k07_tables_made.main.body.getD i (.Pass ⟨0, 0, 0, 0⟩)

structure Txt (K : PySem.W.Frag) (mg : Str → Option Value) : Prop where
  b_all : mg "all" = none
  b_bool : mg "bool" = none
  b_dict : mg "dict" = none
  b_int : mg "int" = none
  b_isinstance : mg "isinstance" = none
  b_len : mg "len" = none
  b_list : mg "list" = none
  b_min : mg "min" = none
  b_range : mg "range" = none
  b_repr : mg "repr" = none
  b_set : mg "set" = none
  b_sorted : mg "sorted" = none
  b_str : mg "str" = none
  b_tuple : mg "tuple" = none
  c_LETTERS : ∃ u, mg "LETTERS" = some u ∧ RelV (.str "abcdefghijklmnopqrstuvwxyz") u
  c_MAX_TARGET : ∃ u, mg "MAX_TARGET" = some u ∧ RelV (.int 8) u
  c_MAX_WIDTH : ∃ u, mg "MAX_WIDTH" = some u ∧ RelV (.int 32) u
  cls_PrefixMap : Cls K (cA K "PrefixMap")
  cls_Table : Cls K (cA K "Table")
  mk_PrefixMap : mg (Str.ofString "PrefixMap") = some (.ref (cA K "PrefixMap"))
  mk_Table : mg (Str.ofString "Table") = some (.ref (cA K "Table"))
  ask_PrefixMap : AskQ K (cA K "PrefixMap")
  nb_PrefixMap : NoBt K (cA K "PrefixMap")
  ask_Table : AskQ K (cA K "Table")
  nb_Table : NoBt K (cA K "Table")
  cm_Table_of : CMetQ K (cA K "Table") "of" (cC K "Table" "of")
  eq_PrefixMap : PySem.W.findIn K (.ref (cA K "PrefixMap")) "__eq__" = some (some (.ref (cM K "PrefixMap" "__eq__"))) ∧ PySem.W.isFn K (.ref (cM K "PrefixMap" "__eq__")) = true
  en_PrefixMap : PySem.W.findIn K (.ref (cA K "PrefixMap")) "__ne__" = some (some (.builtin "object.__ne__"))
  eo_PrefixMap : PySem.W.subIn K (.ref (cA K "PrefixMap")) (.type "object") = some true
  eq_Table : PySem.W.findIn K (.ref (cA K "Table")) "__eq__" = some (some (.ref (cM K "PrefixMap" "__eq__"))) ∧ PySem.W.isFn K (.ref (cM K "PrefixMap" "__eq__")) = true
  en_Table : PySem.W.findIn K (.ref (cA K "Table")) "__ne__" = some (some (.builtin "object.__ne__"))
  eo_Table : PySem.W.subIn K (.ref (cA K "Table")) (.type "object") = some true
  iq_PrefixMap : InsQ K (cA K "PrefixMap")
  iq_Table : InsQ K (cA K "Table")
  me_PrefixMap___len__ : Meth K (cA K "PrefixMap") "__len__" (cM K "PrefixMap" "__len__")
  me_PrefixMap_is_same : Meth K (cA K "PrefixMap") "is_same" (cM K "PrefixMap" "is_same")
  me_PrefixMap_is_value : Meth K (cA K "PrefixMap") "is_value" (cM K "PrefixMap" "is_value")
  me_PrefixMap_kept_value : Meth K (cA K "PrefixMap") "kept_value" (cM K "PrefixMap" "kept_value")
  me_PrefixMap_longest : Meth K (cA K "PrefixMap") "longest" (cM K "PrefixMap" "longest")
  me_PrefixMap_made : Meth K (cA K "PrefixMap") "made" (cM K "PrefixMap" "made")
  me_PrefixMap_sort_of_map : Meth K (cA K "PrefixMap") "sort_of_map" (cM K "PrefixMap" "sort_of_map")
  me_PrefixMap_walk : Meth K (cA K "PrefixMap") "walk" (cM K "PrefixMap" "walk")
  me_PrefixMap_with_row : Meth K (cA K "PrefixMap") "with_row" (cM K "PrefixMap" "with_row")
  me_PrefixMap_without : Meth K (cA K "PrefixMap") "without" (cM K "PrefixMap" "without")
  me_Table___len__ : Meth K (cA K "Table") "__len__" (cM K "PrefixMap" "__len__")
  me_Table_is_same : Meth K (cA K "Table") "is_same" (cM K "PrefixMap" "is_same")
  me_Table_is_value : Meth K (cA K "Table") "is_value" (cM K "Table" "is_value")
  me_Table_kept_value : Meth K (cA K "Table") "kept_value" (cM K "PrefixMap" "kept_value")
  me_Table_longest : Meth K (cA K "Table") "longest" (cM K "PrefixMap" "longest")
  me_Table_lookup : Meth K (cA K "Table") "lookup" (cM K "Table" "lookup")
  me_Table_made : Meth K (cA K "Table") "made" (cM K "Table" "made")
  me_Table_sort_of_map : Meth K (cA K "Table") "sort_of_map" (cM K "Table" "sort_of_map")
  me_Table_target_of : Meth K (cA K "Table") "target_of" (cM K "Table" "target_of")
  me_Table_walk : Meth K (cA K "Table") "walk" (cM K "PrefixMap" "walk")
  me_Table_with_row : Meth K (cA K "Table") "with_row" (cM K "PrefixMap" "with_row")
  me_Table_without : Meth K (cA K "Table") "without" (cM K "PrefixMap" "without")
  mi_PrefixMap : Mk K (cA K "PrefixMap") (cM K "PrefixMap" "__init__")
  mi_Table : Mk K (cA K "Table") (cM K "PrefixMap" "__init__")
  na_PrefixMap_bits : NoAttr K (cA K "PrefixMap") "bits"
  na_PrefixMap_held : NoAttr K (cA K "PrefixMap") "held"
  na_Table_bits : NoAttr K (cA K "Table") "bits"
  na_Table_held : NoAttr K (cA K "Table") "held"
  nf_PrefixMap_PrefixMap : PySem.W.notFirst K (cA K "PrefixMap") (.ref (cA K "PrefixMap")) = true
  nf_Table_PrefixMap : PySem.W.notFirst K (cA K "Table") (.ref (cA K "PrefixMap")) = true
  nf_Table_Table : PySem.W.notFirst K (cA K "Table") (.ref (cA K "Table")) = true
  pr_PrefixMap_rows : PropOf K (cA K "PrefixMap") "rows" (cM K "PrefixMap" "rows") (cG K "PrefixMap" "rows")
  pr_PrefixMap_width : PropOf K (cA K "PrefixMap") "width" (cM K "PrefixMap" "width") (cG K "PrefixMap" "width")
  pr_Table_rows : PropOf K (cA K "Table") "rows" (cM K "PrefixMap" "rows") (cG K "PrefixMap" "rows")
  pr_Table_targets : PropOf K (cA K "Table") "targets" (cM K "Table" "targets") (cG K "Table" "targets")
  pr_Table_width : PropOf K (cA K "Table") "width" (cM K "PrefixMap" "width") (cG K "PrefixMap" "width")
  sb_PrefixMap_PrefixMap : PySem.W.subIn K (.ref (cA K "PrefixMap")) (.ref (cA K "PrefixMap")) = some true
  sb_PrefixMap_Table : PySem.W.subIn K (.ref (cA K "PrefixMap")) (.ref (cA K "Table")) = some false
  sb_Table_PrefixMap : PySem.W.subIn K (.ref (cA K "Table")) (.ref (cA K "PrefixMap")) = some true
  sb_Table_Table : PySem.W.subIn K (.ref (cA K "Table")) (.ref (cA K "Table")) = some true
  st_Table_is_target : SMet K (cA K "Table") "is_target" (cM K "Table" "is_target") (cS K "Table" "is_target")


section
variable {P : Program} {wd : World} {K : PySem.W.Frag} {mg : Str → Option Value} {base : Heap}
/-! _law_pen -/
abbrev s__law_pen : Stmt := top 16
theorem sc__law_pen : FnScope ["script"] ["script"] (defScope s__law_pen) := ⟨rfl, rfl, rfl, by decide +kernel, rfl, by decide +kernel, by decide +kernel⟩
def m__law_pen : SM :=
    (sRetSt (eLst (eCons (eB bListX (eCons (eSl (eVarB 0) (eC .non) (eInt (eC (.int 60)))) eNil)) (eCons (eC (.int 0)) (eCons (eC (.int 0)) eNil)))))
def D__law_pen : DF := run ["script"] ["script"] m__law_pen
theorem bd__law_pen (T : Txt K mg)  (W : WX) : PSl P wd K mg base 0 ["script"] ⟨defScope s__law_pen, fun _ => true, none⟩ W (defBody s__law_pen) m__law_pen :=
    (ps_one' (ps_retSt (pn_lst (pa_cons' (pr_listx T.b_list (pb_cons (PR.b (pr_sl (pb_var 0) po_none' (po_some' pr_int))) pb_nil)) (pa_cons' pr_int (pa_cons' pr_int pa_nil'))))))
theorem fn__law_pen (T : Txt K mg) (h : HF K mg "_law_pen" s__law_pen)  : Fn P wd K mg base 1 "_law_pen" D__law_pen :=
  fn_ok h sc__law_pen (fun _ _ _ _ _ _ us hl => match us, hl with | [_], _ => rfl) (fun W => bd__law_pen T  W)

/-! PrefixMap_kept_value -/
abbrev s_PrefixMap_kept_value : Stmt := inClass (top 10) 2
theorem sc_PrefixMap_kept_value : FnScope ["self", "thing"] ["self", "thing"] (defScope s_PrefixMap_kept_value) := ⟨rfl, rfl, rfl, by decide +kernel, rfl, by decide +kernel, by decide +kernel⟩
def m_PrefixMap_kept_value : SM :=
    (sRet (eVar 1))
def D_PrefixMap_kept_value : DF := run ["self", "thing"] ["self", "thing"] m_PrefixMap_kept_value
theorem bd_PrefixMap_kept_value (T : Txt K mg)  (W : WX) : PSl P wd K mg base 0 ["self", "thing"] ⟨defScope s_PrefixMap_kept_value, fun _ => true, none⟩ W (defBody s_PrefixMap_kept_value) m_PrefixMap_kept_value :=
    (ps_one' (ps_ret' (pr_var 1)))
theorem fn_PrefixMap_kept_value (T : Txt K mg) {fa : Addr} (h : HM K "kept_value" "PrefixMap.kept_value" s_PrefixMap_kept_value fa)  : FnA P wd K mg base 1 fa D_PrefixMap_kept_value :=
  fn_okM h sc_PrefixMap_kept_value (fun _ _ _ _ _ _ us hl => match us, hl with | [_, _], _ => rfl) (fun W => bd_PrefixMap_kept_value T  W)

/-! is_integer -/
abbrev s_is_integer : Stmt := top 8
theorem sc_is_integer : FnScope ["thing", "low", "high"] ["thing", "low", "high"] (defScope s_is_integer) := ⟨rfl, rfl, rfl, by decide +kernel, rfl, by decide +kernel, by decide +kernel⟩
def m_is_integer : SM :=
    (sRet (eAnd (eB bIsi (eCons (eVarB 0) (eCons (eC (.ty "int")) eNil))) (eAnd (eNot (eB bIsi (eCons (eVarB 0) (eCons (eC (.ty "bool")) eNil)))) (eChain oLe oLe (eVarB 1) (eVarB 0) (eVarB 2)))))
def D_is_integer : DF := run ["thing", "low", "high"] ["thing", "low", "high"] m_is_integer
theorem bd_is_integer (T : Txt K mg)  (W : WX) : PSl P wd K mg base 0 ["thing", "low", "high"] ⟨defScope s_is_integer, fun _ => true, none⟩ W (defBody s_is_integer) m_is_integer :=
    (ps_one' (ps_ret' (pr_and (pr_isi T.b_isinstance (pb_cons (pb_var 0) (pb_cons (PR.b (pr_ty T.b_int)) pb_nil))) (pr_and (pr_not (pr_isi T.b_isinstance (pb_cons (pb_var 0) (pb_cons (PR.b (pr_ty T.b_bool)) pb_nil)))) (pr_one (pr_chain X_le od_le X_le od_le (pb_var 1) (pb_var 0) (pb_var 2)))))))
theorem fn_is_integer (T : Txt K mg) (h : HF K mg "is_integer" s_is_integer)  : Fn P wd K mg base 1 "is_integer" D_is_integer :=
  fn_ok h sc_is_integer (fun _ _ _ _ _ _ us hl => match us, hl with | [_, _, _], _ => rfl) (fun W => bd_is_integer T  W)

/-! PrefixMap___len__ -/
abbrev s_PrefixMap___len__ : Stmt := inClass (top 10) 12
theorem sc_PrefixMap___len__ : FnScope ["self"] ["self"] (defScope s_PrefixMap___len__) := ⟨rfl, rfl, rfl, by decide +kernel, rfl, by decide +kernel, by decide +kernel⟩
def m_PrefixMap___len__ : SM :=
    (sRet (eB bLen (eCons (eFld ["PrefixMap", "Table"] "held" (eVarB 0)) eNil)))
def D_PrefixMap___len__ : DF := run ["self"] ["self"] m_PrefixMap___len__
theorem bd_PrefixMap___len__ (T : Txt K mg)  (W : WX) : PSl P wd K mg base 0 ["self"] ⟨defScope s_PrefixMap___len__, fun _ => true, none⟩ W (defBody s_PrefixMap___len__) m_PrefixMap___len__ :=
    (ps_one' (ps_ret' (pr_len T.b_len (pb_cons (PR.b (pr_fld (fld_cons ⟨T.cls_PrefixMap, T.na_PrefixMap_held⟩ (fld_cons ⟨T.cls_Table, T.na_Table_held⟩ fld_nil)) (pb_var 0))) pb_nil))))
theorem fn_PrefixMap___len__ (T : Txt K mg) {fa : Addr} (h : HM K "__len__" "PrefixMap.__len__" s_PrefixMap___len__ fa)  : FnA P wd K mg base 1 fa D_PrefixMap___len__ :=
  fn_okM h sc_PrefixMap___len__ (fun _ _ _ _ _ _ us hl => match us, hl with | [_], _ => rfl) (fun W => bd_PrefixMap___len__ T  W)

/-! is_prefix -/
abbrev s_is_prefix : Stmt := top 9
theorem sc_is_prefix : FnScope ["thing", "width", "bit"] ["thing", "width"] (defScope s_is_prefix) := ⟨rfl, rfl, rfl, by decide +kernel, rfl, by decide +kernel, by decide +kernel⟩
def C_is_prefix_1 : EM :=
    (eLc [2] (eIterX (eVar 0)) (gN 2) eYes (eOp oIn (eVarB 2) (eTup (eCons (eC (.str "0")) (eCons (eC (.str "1")) eNil)))))
def m_is_prefix : SM :=
    (sRet (eAnd (eB bIsi (eCons (eVarB 0) (eCons (eC (.ty "str")) eNil))) (eAnd (eOp oLe (eB bLen (eCons (eVarB 0) eNil)) (eVarB 1)) (eB bAll (eCons C_is_prefix_1 eNil)))))
def D_is_prefix : DF := run ["thing", "width", "bit"] ["thing", "width"] m_is_prefix
theorem bd_is_prefix (T : Txt K mg)  (W : WX) : PSl P wd K mg base 0 ["thing", "width", "bit"] ⟨defScope s_is_prefix, fun _ => true, none⟩ W (defBody s_is_prefix) m_is_prefix :=
    (ps_one' (ps_ret' (pr_and (pr_isi T.b_isinstance (pb_cons (pb_var 0) (pb_cons (PR.b (pr_ty T.b_str)) pb_nil))) (pr_and (pr_le (PR.b (pr_len T.b_len (pb_cons (pb_var 0) pb_nil))) (pb_var 1)) (pr_one (pr_all T.b_all (pb_cons (PR.b (pr_lc (own := [("bit", 2)]) sc_is_prefix.nd (blkOk_by (by decide +kernel)) (pi_anyx (pr_var 0)) (pg_name' 2 sc_is_prefix.nd) pj_nil (pr_in (pb_var 2) (PR.b (pr_tup (pa_cons' pr_str (pa_cons' pr_str pa_nil'))))))) pb_nil)))))))
theorem fn_is_prefix (T : Txt K mg) (h : HF K mg "is_prefix" s_is_prefix)  : Fn P wd K mg base 1 "is_prefix" D_is_prefix :=
  fn_ok h sc_is_prefix (fun _ _ _ _ _ _ us hl => match us, hl with | [_, _], _ => rfl) (fun W => bd_is_prefix T  W)

/-! PrefixMap_is_value -/
abbrev s_PrefixMap_is_value : Stmt := inClass (top 10) 1
theorem sc_PrefixMap_is_value : FnScope ["self", "thing"] ["self", "thing"] (defScope s_PrefixMap_is_value) := ⟨rfl, rfl, rfl, by decide +kernel, rfl, by decide +kernel, by decide +kernel⟩
def m_PrefixMap_is_value : SM :=
    (sRet (eAnd (eB bIsi (eCons (eVarB 1) (eCons (eC (.ty "int")) eNil))) (eNot (eB bIsi (eCons (eVarB 1) (eCons (eC (.ty "bool")) eNil))))))
def D_PrefixMap_is_value : DF := run ["self", "thing"] ["self", "thing"] m_PrefixMap_is_value
theorem bd_PrefixMap_is_value (T : Txt K mg)  (W : WX) : PSl P wd K mg base 0 ["self", "thing"] ⟨defScope s_PrefixMap_is_value, fun _ => true, none⟩ W (defBody s_PrefixMap_is_value) m_PrefixMap_is_value :=
    (ps_one' (ps_ret' (pr_and (pr_isi T.b_isinstance (pb_cons (pb_var 1) (pb_cons (PR.b (pr_ty T.b_int)) pb_nil))) (pr_one (pr_not (pr_isi T.b_isinstance (pb_cons (pb_var 1) (pb_cons (PR.b (pr_ty T.b_bool)) pb_nil))))))))
theorem fn_PrefixMap_is_value (T : Txt K mg) {fa : Addr} (h : HM K "is_value" "PrefixMap.is_value" s_PrefixMap_is_value fa)  : FnA P wd K mg base 1 fa D_PrefixMap_is_value :=
  fn_okM h sc_PrefixMap_is_value (fun _ _ _ _ _ _ us hl => match us, hl with | [_, _], _ => rfl) (fun W => bd_PrefixMap_is_value T  W)

/-! Table_is_target -/
abbrev s_Table_is_target : Stmt := inClass (top 14) 1
theorem sc_Table_is_target : FnScope ["thing", "sign"] ["thing"] (defScope s_Table_is_target) := ⟨rfl, rfl, rfl, by decide +kernel, rfl, by decide +kernel, by decide +kernel⟩
def C_Table_is_target_1 : EM :=
    (eLc [1] (eIterX (eVar 0)) (gN 1) eYes (eOp oIn (eVarB 1) (eC (.str "abcdefghijklmnopqrstuvwxyz"))))
def m_Table_is_target : SM :=
    (sRet (eAnd (eB bIsi (eCons (eVarB 0) (eCons (eC (.ty "str")) eNil))) (eAnd (eChain oLe oLe (eC (.int 1)) (eB bLen (eCons (eVarB 0) eNil)) (eC (.int 8))) (eB bAll (eCons C_Table_is_target_1 eNil)))))
def D_Table_is_target : DF := run ["thing", "sign"] ["thing"] m_Table_is_target
theorem bd_Table_is_target (T : Txt K mg)  (W : WX) : PSl P wd K mg base 0 ["thing", "sign"] ⟨defScope s_Table_is_target, fun _ => true, none⟩ W (defBody s_Table_is_target) m_Table_is_target :=
    (ps_one' (ps_ret' (pr_and (pr_isi T.b_isinstance (pb_cons (pb_var 0) (pb_cons (PR.b (pr_ty T.b_str)) pb_nil))) (pr_and (pr_chain X_le od_le X_le od_le (PR.b pr_int) (PR.b (pr_len T.b_len (pb_cons (pb_var 0) pb_nil))) (PR.b (pr_glob T.c_MAX_TARGET (fun _ => .int)))) (pr_one (pr_all T.b_all (pb_cons (PR.b (pr_lc (own := [("sign", 1)]) sc_Table_is_target.nd (blkOk_by (by decide +kernel)) (pi_anyx (pr_var 0)) (pg_name' 1 sc_Table_is_target.nd) pj_nil (pr_in (pb_var 1) (PR.b (pr_glob T.c_LETTERS (fun _ => .str)))))) pb_nil)))))))
theorem fn_Table_is_target (T : Txt K mg) {fa : Addr} (h : HM K "is_target" "Table.is_target" s_Table_is_target fa)  : FnA P wd K mg base 1 fa D_Table_is_target :=
  fn_okM h sc_Table_is_target (fun _ _ _ _ _ _ us hl => match us, hl with | [_], _ => rfl) (fun W => bd_Table_is_target T  W)

/-! Table_is_value -/
abbrev s_Table_is_value : Stmt := inClass (top 14) 2
theorem sc_Table_is_value : FnScope ["self", "thing"] ["self", "thing"] (defScope s_Table_is_value) := ⟨rfl, rfl, rfl, by decide +kernel, rfl, by decide +kernel, by decide +kernel⟩
def m_Table_is_value : SM :=
    (sRet (eCall D_Table_is_target (eCons (eVar 1) eNil)))
def D_Table_is_value : DF := run ["self", "thing"] ["self", "thing"] m_Table_is_value
theorem bd_Table_is_value (T : Txt K mg) (c_Table_is_target : FnA P wd K mg base 1 (cS K "Table" "is_target") D_Table_is_target) (W : WX) : PSl P wd K mg base 2 ["self", "thing"] ⟨defScope s_Table_is_value, fun _ => true, none⟩ W (defBody s_Table_is_value) m_Table_is_value :=
    (ps_one' (ps_ret' (pr_stat T.mk_Table (statOK (k := 1) T.st_Table_is_target c_Table_is_target) (pa_cons' (pr_var 1) pa_nil'))))
theorem fn_Table_is_value (T : Txt K mg) {fa : Addr} (h : HM K "is_value" "Table.is_value" s_Table_is_value fa) (c_Table_is_target : FnA P wd K mg base 1 (cS K "Table" "is_target") D_Table_is_target) : FnA P wd K mg base 3 fa D_Table_is_value :=
  fn_okM h sc_Table_is_value (fun _ _ _ _ _ _ us hl => match us, hl with | [_, _], _ => rfl) (fun W => bd_Table_is_value T c_Table_is_target W)

/-! PrefixMap___init__ -/
abbrev s_PrefixMap___init__ : Stmt := inClass (top 10) 0
theorem sc_PrefixMap___init__ : FnScope ["self", "width", "rows", "prefix"] ["self", "width", "rows"] (defScope s_PrefixMap___init__) := ⟨rfl, rfl, rfl, by decide +kernel, rfl, by decide +kernel, by decide +kernel⟩
def C_PrefixMap___init___1 : EM :=
    (eLc [3] (eIterX (eVar 2)) (gN 3) eYes (eAnd (eCall D_is_prefix (eCons (eVar 3) (eCons (eVar 1) eNil))) (eMeth [("PrefixMap", D_PrefixMap_is_value), ("Table", D_Table_is_value)] "is_value" (eVar 0) (eCons (eOp oIxX (eVarB 2) (eVarB 3)) eNil))))
def C_PrefixMap___init___2 : EM :=
    (eDc [3] (eIterX (eB bSortedX (eCons (eVarB 2) eNil))) (gN 3) eYes (eVar 3) (eMeth [("PrefixMap", D_PrefixMap_kept_value), ("Table", D_PrefixMap_kept_value)] "kept_value" (eVar 0) (eCons (eOp oIxX (eVarB 2) (eVarB 3)) eNil)))
def m_PrefixMap___init__ : SM :=
    (sSeq (sIf (eOr (eNot (eCall D_is_integer (eCons (eVar 1) (eCons (eC (.int 1)) (eCons (eC (.int 32)) eNil))))) (eNot (eB bIsi (eCons (eVarB 2) (eCons (eC (.ty "dict")) eNil))))) sNo sSkip)
    (sSeq (sIf (eNot (eLock 2 (eB bAll (eCons C_PrefixMap___init___1 eNil)))) sNo sSkip)
    (sSeq (sFldR ["PrefixMap", "Table"] "bits" (eVar 0) (eVar 1))
    (sFldR ["PrefixMap", "Table"] "held" (eVar 0) C_PrefixMap___init___2))))
def D_PrefixMap___init__ : DF := run ["self", "width", "rows", "prefix"] ["self", "width", "rows"] m_PrefixMap___init__
theorem bd_PrefixMap___init__ (T : Txt K mg) (c_is_integer : Fn P wd K mg base 1 "is_integer" D_is_integer) (c_is_prefix : Fn P wd K mg base 1 "is_prefix" D_is_prefix) (c_Table_is_value : FnA P wd K mg base 3 (cM K "Table" "is_value") D_Table_is_value) (c_PrefixMap_is_value : FnA P wd K mg base 1 (cM K "PrefixMap" "is_value") D_PrefixMap_is_value) (c_PrefixMap_kept_value : FnA P wd K mg base 1 (cM K "PrefixMap" "kept_value") D_PrefixMap_kept_value) (W : WX) : PSl P wd K mg base 4 ["self", "width", "rows", "prefix"] ⟨defScope s_PrefixMap___init__, fun _ => true, none⟩ W (defBody s_PrefixMap___init__) m_PrefixMap___init__ :=
    (ps_cons' (ps_if' (pt_w (pw_or' (pt_not'' (pt_val' (pr_call c_is_integer (pa_cons' (pr_var 1) (pa_cons' pr_int (pa_cons' (pr_glob T.c_MAX_WIDTH (fun _ => .int)) pa_nil'))) (hk := by omega)))) (pw_or1' (pt_not'' (pt_val' (pr_isi T.b_isinstance (pb_cons (pb_var 2) (pb_cons (PR.b (pr_ty T.b_dict)) pb_nil)))))))) (ps_one' ps_no) ps_nil')
    (ps_cons' (ps_if' (pt_not'' (pt_val' (pr_lock 2 (pr_all T.b_all (pb_cons (PR.b (pr_lc (own := [("prefix", 3)]) sc_PrefixMap___init__.nd (blkOk_by (by decide +kernel)) (pi_anyx (pr_var 2)) (pg_name' 3 sc_PrefixMap___init__.nd) pj_nil (pr_and (pr_call c_is_prefix (pa_cons' (pr_var 3) (pa_cons' (pr_var 1) pa_nil')) (hk := by omega)) (pr_one (pr_meth (j := 3) (all_cons (methOK T.cls_PrefixMap T.me_PrefixMap_is_value c_PrefixMap_is_value) (all_cons (methOK T.cls_Table T.me_Table_is_value c_Table_is_value) all_nil)) (pr_var 0) (pa_cons' (pr_ixx (pb_var 2) (pb_var 3)) pa_nil')))))) pb_nil))))) (ps_one' ps_no) ps_nil')
    (ps_cons' (ps_fldR (fld_cons ⟨T.cls_PrefixMap, T.na_PrefixMap_bits⟩ (fld_cons ⟨T.cls_Table, T.na_Table_bits⟩ fld_nil)) (pr_var 0) (pr_var 1) (fun _ => rfl))
    (ps_one' (ps_fldR (fld_cons ⟨T.cls_PrefixMap, T.na_PrefixMap_held⟩ (fld_cons ⟨T.cls_Table, T.na_Table_held⟩ fld_nil)) (pr_var 0) (pr_dc (own := [("prefix", 3)]) sc_PrefixMap___init__.nd (blkOk_by (by decide +kernel)) (pi_anyx (pr_sortedX T.b_sorted (pb_cons (pb_var 2) pb_nil))) (pg_name' 3 sc_PrefixMap___init__.nd) pj_nil (pr_var 3) (pr_meth (j := 1) (all_cons (methOK T.cls_PrefixMap T.me_PrefixMap_kept_value c_PrefixMap_kept_value) (all_cons (methOK T.cls_Table T.me_Table_kept_value c_PrefixMap_kept_value) all_nil)) (pr_var 0) (pa_cons' (pr_ixx (pb_var 2) (pb_var 3)) pa_nil'))) (fun _ => rfl))))))
theorem fn_PrefixMap___init__ (T : Txt K mg) {fa : Addr} (h : HM K "__init__" "PrefixMap.__init__" s_PrefixMap___init__ fa) (c_is_integer : Fn P wd K mg base 1 "is_integer" D_is_integer) (c_is_prefix : Fn P wd K mg base 1 "is_prefix" D_is_prefix) (c_Table_is_value : FnA P wd K mg base 3 (cM K "Table" "is_value") D_Table_is_value) (c_PrefixMap_is_value : FnA P wd K mg base 1 (cM K "PrefixMap" "is_value") D_PrefixMap_is_value) (c_PrefixMap_kept_value : FnA P wd K mg base 1 (cM K "PrefixMap" "kept_value") D_PrefixMap_kept_value) : FnA P wd K mg base 5 fa D_PrefixMap___init__ :=
  fn_okM h sc_PrefixMap___init__ (fun _ _ _ _ _ _ us hl => match us, hl with | [_, _, _], _ => rfl) (fun W => bd_PrefixMap___init__ T c_is_integer c_is_prefix c_Table_is_value c_PrefixMap_is_value c_PrefixMap_kept_value W)

/-! PrefixMap_is_same -/
abbrev s_PrefixMap_is_same : Stmt := inClass (top 10) 11
theorem sc_PrefixMap_is_same : FnScope ["self", "other"] ["self", "other"] (defScope s_PrefixMap_is_same) := ⟨rfl, rfl, rfl, by decide +kernel, rfl, by decide +kernel, by decide +kernel⟩
def m_PrefixMap_is_same : SM :=
    (sRet (eAnd (eOp oEqX (eFld ["PrefixMap", "Table"] "bits" (eVarB 0)) (eFld ["PrefixMap", "Table"] "bits" (eVarB 1))) (eOp oEqX (eFld ["PrefixMap", "Table"] "held" (eVarB 0)) (eFld ["PrefixMap", "Table"] "held" (eVarB 1)))))
def D_PrefixMap_is_same : DF := run ["self", "other"] ["self", "other"] m_PrefixMap_is_same
theorem bd_PrefixMap_is_same (T : Txt K mg)  (W : WX) : PSl P wd K mg base 0 ["self", "other"] ⟨defScope s_PrefixMap_is_same, fun _ => true, none⟩ W (defBody s_PrefixMap_is_same) m_PrefixMap_is_same :=
    (ps_one' (ps_ret' (pr_and (pr_eqX (PR.b (pr_fld (fld_cons ⟨T.cls_PrefixMap, T.na_PrefixMap_bits⟩ (fld_cons ⟨T.cls_Table, T.na_Table_bits⟩ fld_nil)) (pb_var 0))) (PR.b (pr_fld (fld_cons ⟨T.cls_PrefixMap, T.na_PrefixMap_bits⟩ (fld_cons ⟨T.cls_Table, T.na_Table_bits⟩ fld_nil)) (pb_var 1)))) (pr_one (pr_eqX (PR.b (pr_fld (fld_cons ⟨T.cls_PrefixMap, T.na_PrefixMap_held⟩ (fld_cons ⟨T.cls_Table, T.na_Table_held⟩ fld_nil)) (pb_var 0))) (PR.b (pr_fld (fld_cons ⟨T.cls_PrefixMap, T.na_PrefixMap_held⟩ (fld_cons ⟨T.cls_Table, T.na_Table_held⟩ fld_nil)) (pb_var 1))))))))
theorem fn_PrefixMap_is_same (T : Txt K mg) {fa : Addr} (h : HM K "is_same" "PrefixMap.is_same" s_PrefixMap_is_same fa)  : FnA P wd K mg base 1 fa D_PrefixMap_is_same :=
  fn_okM h sc_PrefixMap_is_same (fun _ _ _ _ _ _ us hl => match us, hl with | [_, _], _ => rfl) (fun W => bd_PrefixMap_is_same T  W)

/-! Table_sort_of_map -/
abbrev s_Table_sort_of_map : Stmt := inClass (top 14) 3
theorem sc_Table_sort_of_map : FnScope ["self"] ["self"] (defScope s_Table_sort_of_map) := ⟨rfl, rfl, rfl, by decide +kernel, rfl, by decide +kernel, by decide +kernel⟩
def m_Table_sort_of_map : SM :=
    (sRet (eC (.str "table")))
def D_Table_sort_of_map : DF := run ["self"] ["self"] m_Table_sort_of_map
theorem bd_Table_sort_of_map (T : Txt K mg)  (W : WX) : PSl P wd K mg base 0 ["self"] ⟨defScope s_Table_sort_of_map, fun _ => true, none⟩ W (defBody s_Table_sort_of_map) m_Table_sort_of_map :=
    (ps_one' (ps_ret' pr_str))
theorem fn_Table_sort_of_map (T : Txt K mg) {fa : Addr} (h : HM K "sort_of_map" "Table.sort_of_map" s_Table_sort_of_map fa)  : FnA P wd K mg base 1 fa D_Table_sort_of_map :=
  fn_okM h sc_Table_sort_of_map (fun _ _ _ _ _ _ us hl => match us, hl with | [_], _ => rfl) (fun W => bd_Table_sort_of_map T  W)

/-! PrefixMap_sort_of_map -/
abbrev s_PrefixMap_sort_of_map : Stmt := inClass (top 10) 3
theorem sc_PrefixMap_sort_of_map : FnScope ["self"] ["self"] (defScope s_PrefixMap_sort_of_map) := ⟨rfl, rfl, rfl, by decide +kernel, rfl, by decide +kernel, by decide +kernel⟩
def m_PrefixMap_sort_of_map : SM :=
    (sRet (eC (.str "map")))
def D_PrefixMap_sort_of_map : DF := run ["self"] ["self"] m_PrefixMap_sort_of_map
theorem bd_PrefixMap_sort_of_map (T : Txt K mg)  (W : WX) : PSl P wd K mg base 0 ["self"] ⟨defScope s_PrefixMap_sort_of_map, fun _ => true, none⟩ W (defBody s_PrefixMap_sort_of_map) m_PrefixMap_sort_of_map :=
    (ps_one' (ps_ret' pr_str))
theorem fn_PrefixMap_sort_of_map (T : Txt K mg) {fa : Addr} (h : HM K "sort_of_map" "PrefixMap.sort_of_map" s_PrefixMap_sort_of_map fa)  : FnA P wd K mg base 1 fa D_PrefixMap_sort_of_map :=
  fn_okM h sc_PrefixMap_sort_of_map (fun _ _ _ _ _ _ us hl => match us, hl with | [_], _ => rfl) (fun W => bd_PrefixMap_sort_of_map T  W)

/-! PrefixMap___eq__ -/
abbrev s_PrefixMap___eq__ : Stmt := inClass (top 10) 13
theorem sc_PrefixMap___eq__ : FnScope ["self", "other"] ["self", "other"] (defScope s_PrefixMap___eq__) := ⟨rfl, rfl, rfl, by decide +kernel, rfl, by decide +kernel, by decide +kernel⟩
def m_PrefixMap___eq__ : SM :=
    (sRet (eAnd (eB (bIsiO [("PrefixMap", [("PrefixMap", true), ("Table", true)])]) (eCons (eVarB 1) (eCons (eC (.cls "PrefixMap")) eNil))) (eAnd (eOp oEqX (eMeth [("PrefixMap", D_PrefixMap_sort_of_map), ("Table", D_Table_sort_of_map)] "sort_of_map" (eVar 0) eNil) (eMeth [("PrefixMap", D_PrefixMap_sort_of_map), ("Table", D_Table_sort_of_map)] "sort_of_map" (eVar 1) eNil)) (eMeth [("PrefixMap", D_PrefixMap_is_same), ("Table", D_PrefixMap_is_same)] "is_same" (eVar 0) (eCons (eVar 1) eNil)))))
def D_PrefixMap___eq__ : DF := run ["self", "other"] ["self", "other"] m_PrefixMap___eq__
theorem bd_PrefixMap___eq__ (T : Txt K mg) (c_Table_sort_of_map : FnA P wd K mg base 1 (cM K "Table" "sort_of_map") D_Table_sort_of_map) (c_PrefixMap_sort_of_map : FnA P wd K mg base 1 (cM K "PrefixMap" "sort_of_map") D_PrefixMap_sort_of_map) (c_PrefixMap_is_same : FnA P wd K mg base 1 (cM K "PrefixMap" "is_same") D_PrefixMap_is_same) (W : WX) : PSl P wd K mg base 2 ["self", "other"] ⟨defScope s_PrefixMap___eq__, fun _ => true, none⟩ W (defBody s_PrefixMap___eq__) m_PrefixMap___eq__ :=
    (ps_one' (ps_ret' (pr_and (pr_isiO (all_consI ⟨T.ask_PrefixMap, T.nb_PrefixMap, (all_consB ⟨T.iq_PrefixMap, T.sb_PrefixMap_PrefixMap⟩ (all_consB ⟨T.iq_Table, T.sb_Table_PrefixMap⟩ all_nilB))⟩ all_nilI) T.b_isinstance (pb_cons (pb_var 1) (pb_cons (PR.b (pr_cls T.mk_PrefixMap)) pb_nil))) (pr_and (pr_eqX (PR.b (pr_meth0 (j := 1) (all_cons (methOK T.cls_PrefixMap T.me_PrefixMap_sort_of_map c_PrefixMap_sort_of_map) (all_cons (methOK T.cls_Table T.me_Table_sort_of_map c_Table_sort_of_map) all_nil)) (pr_var 0))) (PR.b (pr_meth0 (j := 1) (all_cons (methOK T.cls_PrefixMap T.me_PrefixMap_sort_of_map c_PrefixMap_sort_of_map) (all_cons (methOK T.cls_Table T.me_Table_sort_of_map c_Table_sort_of_map) all_nil)) (pr_var 1)))) (pr_one (pr_meth (j := 1) (all_cons (methOK T.cls_PrefixMap T.me_PrefixMap_is_same c_PrefixMap_is_same) (all_cons (methOK T.cls_Table T.me_Table_is_same c_PrefixMap_is_same) all_nil)) (pr_var 0) (pa_cons' (pr_var 1) pa_nil')))))))
theorem fn_PrefixMap___eq__ (T : Txt K mg) {fa : Addr} (h : HM K "__eq__" "PrefixMap.__eq__" s_PrefixMap___eq__ fa) (c_Table_sort_of_map : FnA P wd K mg base 1 (cM K "Table" "sort_of_map") D_Table_sort_of_map) (c_PrefixMap_sort_of_map : FnA P wd K mg base 1 (cM K "PrefixMap" "sort_of_map") D_PrefixMap_sort_of_map) (c_PrefixMap_is_same : FnA P wd K mg base 1 (cM K "PrefixMap" "is_same") D_PrefixMap_is_same) : FnA P wd K mg base 3 fa D_PrefixMap___eq__ :=
  fn_okM h sc_PrefixMap___eq__ (fun _ _ _ _ _ _ us hl => match us, hl with | [_, _], _ => rfl) (fun W => bd_PrefixMap___eq__ T c_Table_sort_of_map c_PrefixMap_sort_of_map c_PrefixMap_is_same W)

/-! Table_of -/
abbrev s_Table_of : Stmt := inClass (top 14) 0
theorem sc_Table_of : FnScope ["cls", "width", "pairs", "rows", "pair"] ["cls", "width", "pairs"] (defScope s_Table_of) := ⟨rfl, rfl, rfl, by decide +kernel, rfl, by decide +kernel, by decide +kernel⟩
def B_Table_of_1 : SM :=
    (sSeq (sIf (eOr (eNot (eB bIsi (eCons (eVarB 4) (eCons (eC (.ty "tuple")) eNil)))) (eOr (eOp oNeX (eB bLen (eCons (eVarB 4) eNil)) (eC (.int 2))) (eOr (eNot (eB bIsi (eCons (eOp oIxX (eVarB 4) (eC (.int 0))) (eCons (eC (.ty "str")) eNil)))) (eOp oIn (eOp oIxX (eVarB 4) (eC (.int 0))) (eVarB 3))))) sNo sSkip)
    (sSubO 3 (eOp oIxX (eVarB 4) (eC (.int 0))) (eOp oIxX (eVarB 4) (eC (.int 1)))))
def m_Table_of : SM :=
    (sSeq (sNew 3 eDnew)
    (sSeq (sFor (eIterX (eVar 2)) (gN 4)
    B_Table_of_1)
    (sFrzX 3 (sRet (eMakeV "Table" D_PrefixMap___init__ 0 (eCons (eVar 1) (eCons (eVar 3) eNil)))))))
def D_Table_of : DF := run ["cls", "width", "pairs", "rows", "pair"] ["cls", "width", "pairs"] m_Table_of
theorem bd_Table_of (T : Txt K mg) (c_PrefixMap___init__ : FnA P wd K mg base 5 (cM K "PrefixMap" "__init__") D_PrefixMap___init__) (W : WX) : PSl P wd K mg base 6 ["cls", "width", "pairs", "rows", "pair"] ⟨defScope s_Table_of, fun _ => true, none⟩ W (defBody s_Table_of) m_Table_of :=
    (ps_cons' (ps_new' 3 sc_Table_of.nd pn_dnew)
    (ps_cons' (ps_for' (pi_anyx (pr_var 2)) (pg_name' 4 sc_Table_of.nd)
    (ps_cons' (ps_if' (pt_w (pw_or' (pt_not'' (pt_val' (pr_isi T.b_isinstance (pb_cons (pb_var 4) (pb_cons (PR.b (pr_ty T.b_tuple)) pb_nil))))) (pw_or' (pt_neX (PR.b (pr_len T.b_len (pb_cons (pb_var 4) pb_nil))) (PR.b pr_int)) (pw_or' (pt_not'' (pt_val' (pr_isi T.b_isinstance (pb_cons (PR.b (pr_ixx (pb_var 4) (PR.b pr_int))) (pb_cons (PR.b (pr_ty T.b_str)) pb_nil))))) (pw_or1' (pt_in (PR.b (pr_ixx (pb_var 4) (PR.b pr_int))) (pb_var 3))))))) (ps_one' ps_no) ps_nil')
    (ps_one' (ps_subO 3 (pr_ixx (pb_var 4) (PR.b pr_int)) (pr_ixx (pb_var 4) (PR.b pr_int))))))
    (ps_frzX 3 (ps_one' (ps_ret' (pr_makeV 0 "Table" (makeOK (k := 5) T.mk_Table T.mi_Table c_PrefixMap___init__) (pa_cons' (pr_var 1) (pa_cons' (pr_var 3) pa_nil'))))))))
theorem fn_Table_of (T : Txt K mg) {fa : Addr} (h : HM K "of" "Table.of" s_Table_of fa) (c_PrefixMap___init__ : FnA P wd K mg base 5 (cM K "PrefixMap" "__init__") D_PrefixMap___init__) : FnSA P wd K mg base 7 fa (starD 2 D_Table_of) :=
  fn_okMS (ps := ["cls", "width"]) (pv := "pairs") h sc_Table_of (fun _ _ _ _ _ _ us rest hl => match us, rest, hl with | [_, _], [], _ => rfl | [_, _], _ :: _, _ => rfl) (fun W => bd_Table_of T c_PrefixMap___init__ W)

/-! _law_next -/
abbrev s__law_next : Stmt := top 17
theorem sc__law_next : FnScope ["pen", "index", "cell", "low", "mid", "top"] ["pen"] (defScope s__law_next) := ⟨rfl, rfl, rfl, by decide +kernel, rfl, by decide +kernel, by decide +kernel⟩
def m__law_next : SM :=
    (sSeq (sAsg 1 (eOp oIxX (eVarB 0) (eC (.int 1))))
    (sSeq (sSub (eVar 0) (eC (.int 1)) (eOp oAdd (eVarB 1) (eC (.int 1))))
    (sSeq (sAsg 2 (eOp oAdd (eOp oMulX (eVarB 1) (eC (.int 1049))) (eC (.int 29))))
    (sSeq (sIf (eOp oNeX (eOp oIxX (eVarB 0) (eC (.int 0))) (eLst eNil)) (sAsg 2 (eOp oIxX (eOp oIxX (eVarB 0) (eC (.int 0))) (eOp oMod (eVarB 1) (eB bLen (eCons (eOp oIxX (eVarB 0) (eC (.int 0))) eNil))))) sSkip)
    (sSeq (sIf (eAnd (eOp oLt (eVarB 1) (eB bLen (eCons (eOp oIxX (eVarB 0) (eC (.int 0))) eNil))) (eOp oGe (eVarB 2) (eOp oPow (eC (.int 10)) (eC (.int 18))))) (sRet (eVar 2)) sSkip)
    (sSeq (sAsg 3 (eOp oMod (eOp oAdd (eOp oAdd (eOp oMod (eVarB 2) (eC (.int 2147483587))) (eOp oMulX (eVarB 1) (eC (.int 70061)))) (eC (.int 53))) (eC (.int 2147483587))))
    (sSeq (sAsg 4 (eOp oMod (eOp oAdd (eOp oAdd (eOp oMulX (eVarB 3) (eVarB 3)) (eOp oMulX (eVarB 1) (eC (.int 30011)))) (eC (.int 37))) (eC (.int 2147483563))))
    (sSeq (sAsg 5 (eOp oMod (eOp oAdd (eOp oAdd (eOp oMulX (eVarB 4) (eVarB 4)) (eVarB 3)) (eOp oMulX (eOp oMulX (eVarB 1) (eVarB 1)) (eC (.int 13)))) (eC (.int 2147483549))))
    (sRet (eOp oAdd (eOp oMulX (eOp oAdd (eOp oMulX (eVarB 5) (eC (.int 2147483587))) (eVarB 4)) (eC (.int 2147483563))) (eVarB 3)))))))))))
def D__law_next : DF := run ["pen", "index", "cell", "low", "mid", "top"] ["pen"] m__law_next
theorem bd__law_next (T : Txt K mg)  (W : WX) : PSl P wd K mg base 0 ["pen", "index", "cell", "low", "mid", "top"] ⟨defScope s__law_next, fun _ => true, none⟩ W (defBody s__law_next) m__law_next :=
    (ps_cons' (ps_asg' 1 sc__law_next.nd (pr_ixx (pb_var 0) (PR.b pr_int)))
    (ps_cons' (ps_sub' (pr_add (pb_var 1) (PR.b pr_int)) (pr_var 0) pr_int)
    (ps_cons' (ps_asg' 2 sc__law_next.nd (pr_add (PR.b (pr_mulx (pb_var 1) (PR.b pr_int))) (PR.b pr_int)))
    (ps_cons' (ps_if' (pt_neX (PR.b (pr_ixx (pb_var 0) (PR.b pr_int))) (PR.b (pr_lst pa_nil'))) (ps_one' (ps_asg' 2 sc__law_next.nd (pr_ixx (PR.b (pr_ixx (pb_var 0) (PR.b pr_int))) (PR.b (pr_mod (pb_var 1) (PR.b (pr_len T.b_len (pb_cons (PR.b (pr_ixx (pb_var 0) (PR.b pr_int))) pb_nil)))))))) ps_nil')
    (ps_cons' (ps_if' (pt_w (pw_and' (pt_lt (pb_var 1) (PR.b (pr_len T.b_len (pb_cons (PR.b (pr_ixx (pb_var 0) (PR.b pr_int))) pb_nil)))) (pw_and1' (pt_ge (pb_var 2) (PR.b (pr_pow (PR.b pr_int) (PR.b pr_int))))))) (ps_one' (ps_ret' (pr_var 2))) ps_nil')
    (ps_cons' (ps_asg' 3 sc__law_next.nd (pr_mod (PR.b (pr_add (PR.b (pr_add (PR.b (pr_mod (pb_var 2) (PR.b pr_int))) (PR.b (pr_mulx (pb_var 1) (PR.b pr_int))))) (PR.b pr_int))) (PR.b pr_int)))
    (ps_cons' (ps_asg' 4 sc__law_next.nd (pr_mod (PR.b (pr_add (PR.b (pr_add (PR.b (pr_mulx (pb_var 3) (pb_var 3))) (PR.b (pr_mulx (pb_var 1) (PR.b pr_int))))) (PR.b pr_int))) (PR.b pr_int)))
    (ps_cons' (ps_asg' 5 sc__law_next.nd (pr_mod (PR.b (pr_add (PR.b (pr_add (PR.b (pr_mulx (pb_var 4) (pb_var 4))) (pb_var 3))) (PR.b (pr_mulx (PR.b (pr_mulx (pb_var 1) (pb_var 1))) (PR.b pr_int))))) (PR.b pr_int)))
    (ps_one' (ps_ret' (pr_add (PR.b (pr_mulx (PR.b (pr_add (PR.b (pr_mulx (pb_var 5) (PR.b pr_int))) (pb_var 4))) (PR.b pr_int))) (pb_var 3))))))))))))
theorem fn__law_next (T : Txt K mg) (h : HF K mg "_law_next" s__law_next)  : Fn P wd K mg base 1 "_law_next" D__law_next :=
  fn_ok h sc__law_next (fun _ _ _ _ _ _ us hl => match us, hl with | [_], _ => rfl) (fun W => bd__law_next T  W)

/-! _law_draw -/
abbrev s__law_draw : Stmt := top 18
theorem sc__law_draw : FnScope ["pen", "below", "digit"] ["pen", "below"] (defScope s__law_draw) := ⟨rfl, rfl, rfl, by decide +kernel, rfl, by decide +kernel, by decide +kernel⟩
def m__law_draw : SM :=
    (sSeq (sIf (eOp oLt (eOp oIxX (eVarB 0) (eC (.int 2))) (eVarB 1)) (sSub (eVar 0) (eC (.int 2)) (eCall D__law_next (eCons (eVar 0) eNil))) sSkip)
    (sSeq (sAsg 2 (eOp oMod (eOp oIxX (eVarB 0) (eC (.int 2))) (eVarB 1)))
    (sSeq (sSub (eVar 0) (eC (.int 2)) (eOp oFdiv (eOp oIxX (eVarB 0) (eC (.int 2))) (eVarB 1)))
    (sRet (eVar 2)))))
def D__law_draw : DF := run ["pen", "below", "digit"] ["pen", "below"] m__law_draw
theorem bd__law_draw (T : Txt K mg) (c__law_next : Fn P wd K mg base 1 "_law_next" D__law_next) (W : WX) : PSl P wd K mg base 1 ["pen", "below", "digit"] ⟨defScope s__law_draw, fun _ => true, none⟩ W (defBody s__law_draw) m__law_draw :=
    (ps_cons' (ps_if' (pt_lt (PR.b (pr_ixx (pb_var 0) (PR.b pr_int))) (pb_var 1)) (ps_one' (ps_sub' (pr_call c__law_next (pa_cons' (pr_var 0) pa_nil') (hk := by omega)) (pr_var 0) pr_int)) ps_nil')
    (ps_cons' (ps_asg' 2 sc__law_draw.nd (pr_mod (PR.b (pr_ixx (pb_var 0) (PR.b pr_int))) (pb_var 1)))
    (ps_cons' (ps_sub' (pr_fdiv (PR.b (pr_ixx (pb_var 0) (PR.b pr_int))) (pb_var 1)) (pr_var 0) pr_int)
    (ps_one' (ps_ret' (pr_var 2))))))
theorem fn__law_draw (T : Txt K mg) (h : HF K mg "_law_draw" s__law_draw) (c__law_next : Fn P wd K mg base 1 "_law_next" D__law_next) : Fn P wd K mg base 2 "_law_draw" D__law_draw :=
  fn_ok h sc__law_draw (fun _ _ _ _ _ _ us hl => match us, hl with | [_, _], _ => rfl) (fun W => bd__law_draw T c__law_next W)

/-! _law_size -/
abbrev s__law_size : Stmt := top 20
theorem sc__law_size : FnScope ["pen", "size"] ["pen"] (defScope s__law_size) := ⟨rfl, rfl, rfl, by decide +kernel, rfl, by decide +kernel, by decide +kernel⟩
def m__law_size : SM :=
    (sSeq (sAsg 1 (eOp oIxX (eLst (eCons (eC (.int 1)) (eCons (eC (.int 2)) (eCons (eC (.int 3)) (eCons (eC (.int 3)) (eCons (eC (.int 4)) (eCons (eC (.int 32)) eNil))))))) (eCall D__law_draw (eCons (eVar 0) (eCons (eC (.int 6)) eNil)))))
    (sSeq (sIf (eAnd (eOp oEqX (eVarB 1) (eC (.int 32))) (eOp oGt (eB bLen (eCons (eVarB 0) eNil)) (eC (.int 3)))) (sRet (eC (.int 5))) sSkip)
    (sSeq (sIf (eOp oEqX (eVarB 1) (eC (.int 32))) (sAppR (eVar 0) (eC (.int 1))) sSkip)
    (sRet (eVar 1)))))
def D__law_size : DF := run ["pen", "size"] ["pen"] m__law_size
theorem bd__law_size (T : Txt K mg) (c__law_draw : Fn P wd K mg base 2 "_law_draw" D__law_draw) (W : WX) : PSl P wd K mg base 2 ["pen", "size"] ⟨defScope s__law_size, fun _ => true, none⟩ W (defBody s__law_size) m__law_size :=
    (ps_cons' (ps_asg' 1 sc__law_size.nd (pr_ixx (PR.b (pr_lst (pa_cons' pr_int (pa_cons' pr_int (pa_cons' pr_int (pa_cons' pr_int (pa_cons' pr_int (pa_cons' pr_int pa_nil')))))))) (PR.b (pr_call c__law_draw (pa_cons' (pr_var 0) (pa_cons' pr_int pa_nil')) (hk := by omega)))))
    (ps_cons' (ps_if' (pt_w (pw_and' (pt_eqX (pb_var 1) (PR.b pr_int)) (pw_and1' (pt_gt (PR.b (pr_len T.b_len (pb_cons (pb_var 0) pb_nil))) (PR.b pr_int))))) (ps_one' (ps_ret' pr_int)) ps_nil')
    (ps_cons' (ps_if' (pt_eqX (pb_var 1) (PR.b pr_int)) (ps_one' (ps_appR (pr_var 0) pr_int {})) ps_nil')
    (ps_one' (ps_ret' (pr_var 1))))))
theorem fn__law_size (T : Txt K mg) (h : HF K mg "_law_size" s__law_size) (c__law_draw : Fn P wd K mg base 2 "_law_draw" D__law_draw) : Fn P wd K mg base 3 "_law_size" D__law_size :=
  fn_ok h sc__law_size (fun _ _ _ _ _ _ us hl => match us, hl with | [_], _ => rfl) (fun W => bd__law_size T c__law_draw W)

/-! _law_bits -/
abbrev s__law_bits : Stmt := top 19
theorem sc__law_bits : FnScope ["pen", "size", "turn"] ["pen", "size"] (defScope s__law_bits) := ⟨rfl, rfl, rfl, by decide +kernel, rfl, by decide +kernel, by decide +kernel⟩
def C__law_bits_1 : EM :=
    (eLc [2] (eRng1 (eCons (eCall D__law_draw (eCons (eVar 0) (eCons (eOp oAdd (eVarB 1) (eC (.int 1))) eNil))) eNil)) (gN 2) eYes (eOp oIxX (eC (.str "01")) (eCall D__law_draw (eCons (eVar 0) (eCons (eC (.int 2)) eNil)))))
def m__law_bits : SM :=
    (sRet (eM1 oJoin (eC (.str "")) C__law_bits_1))
def D__law_bits : DF := run ["pen", "size", "turn"] ["pen", "size"] m__law_bits
theorem bd__law_bits (T : Txt K mg) (c__law_draw : Fn P wd K mg base 2 "_law_draw" D__law_draw) (W : WX) : PSl P wd K mg base 2 ["pen", "size", "turn"] ⟨defScope s__law_bits, fun _ => true, none⟩ W (defBody s__law_bits) m__law_bits :=
    (ps_one' (ps_ret' (pr_join pr_str (PR.b (pr_lc (own := [("turn", 2)]) sc__law_bits.nd (blkOk_by (by decide +kernel)) (pi_rng1 T.b_range (pa_cons' (pr_call c__law_draw (pa_cons' (pr_var 0) (pa_cons' (pr_add (pb_var 1) (PR.b pr_int)) pa_nil')) (hk := by omega)) pa_nil')) (pg_name' 2 sc__law_bits.nd) pj_nil (pr_ixx (PR.b pr_str) (PR.b (pr_call c__law_draw (pa_cons' (pr_var 0) (pa_cons' pr_int pa_nil')) (hk := by omega)))))))))
theorem fn__law_bits (T : Txt K mg) (h : HF K mg "_law_bits" s__law_bits) (c__law_draw : Fn P wd K mg base 2 "_law_draw" D__law_draw) : Fn P wd K mg base 3 "_law_bits" D__law_bits :=
  fn_ok h sc__law_bits (fun _ _ _ _ _ _ us hl => match us, hl with | [_, _], _ => rfl) (fun W => bd__law_bits T c__law_draw W)

/-! _law_prefixes -/
abbrev s__law_prefixes : Stmt := top 21
theorem sc__law_prefixes : FnScope ["pen", "size", "most", "found", "turn", "start", "prefix"] ["pen", "size", "most"] (defScope s__law_prefixes) := ⟨rfl, rfl, rfl, by decide +kernel, rfl, by decide +kernel, by decide +kernel⟩
def B__law_prefixes_1 : SM :=
    (sSeq (sAsg 5 (eIf (eAnd (eOp oNeX (eVarB 3) (eLst eNil)) (eOp oEqX (eCall D__law_draw (eCons (eVar 0) (eCons (eC (.int 2)) eNil))) (eC (.int 0)))) (eOp oIxX (eVarB 3) (eCall D__law_draw (eCons (eVar 0) (eCons (eB bLen (eCons (eVarB 3) eNil)) eNil)))) (eC (.str ""))))
    (sSeq (sAsg 6 (eSl (eOp oAdd (eVarB 5) (eCall D__law_bits (eCons (eVar 0) (eCons (eB bMin2 (eCons (eVarB 1) (eCons (eC (.int 5)) eNil))) eNil)))) (eC .non) (eInt (eVar 1))))
    (sIf (eOp oNotIn (eVarB 6) (eVarB 3)) (sApp 3 (eVar 6)) sSkip)))
def m__law_prefixes : SM :=
    (sSeq (sNew 3 (eLst eNil))
    (sSeq (sFor (eRng1 (eCons (eCall D__law_draw (eCons (eVar 0) (eCons (eOp oAdd (eVarB 2) (eC (.int 1))) eNil))) eNil)) (gN 4)
    B__law_prefixes_1)
    (sFrzX 3 (sRet (eVar 3)))))
def D__law_prefixes : DF := run ["pen", "size", "most", "found", "turn", "start", "prefix"] ["pen", "size", "most"] m__law_prefixes
theorem bd__law_prefixes (T : Txt K mg) (c__law_draw : Fn P wd K mg base 2 "_law_draw" D__law_draw) (c__law_bits : Fn P wd K mg base 3 "_law_bits" D__law_bits) (W : WX) : PSl P wd K mg base 3 ["pen", "size", "most", "found", "turn", "start", "prefix"] ⟨defScope s__law_prefixes, fun _ => true, none⟩ W (defBody s__law_prefixes) m__law_prefixes :=
    (ps_cons' (ps_new' 3 sc__law_prefixes.nd (pn_lst pa_nil'))
    (ps_cons' (ps_for' (pi_rng1 T.b_range (pa_cons' (pr_call c__law_draw (pa_cons' (pr_var 0) (pa_cons' (pr_add (pb_var 2) (PR.b pr_int)) pa_nil')) (hk := by omega)) pa_nil')) (pg_name' 4 sc__law_prefixes.nd)
    (ps_cons' (ps_asg' 5 sc__law_prefixes.nd (pr_if (pt_w (pw_and' (pt_neX (pb_var 3) (PR.b (pr_lst pa_nil'))) (pw_and1' (pt_eqX (PR.b (pr_call c__law_draw (pa_cons' (pr_var 0) (pa_cons' pr_int pa_nil')) (hk := by omega))) (PR.b pr_int))))) (pr_ixx (pb_var 3) (PR.b (pr_call c__law_draw (pa_cons' (pr_var 0) (pa_cons' (pr_len T.b_len (pb_cons (pb_var 3) pb_nil)) pa_nil')) (hk := by omega)))) pr_str))
    (ps_cons' (ps_asg' 6 sc__law_prefixes.nd (pr_sl (PR.b (pr_add (pb_var 5) (PR.b (pr_call c__law_bits (pa_cons' (pr_var 0) (pa_cons' (pr_min2 T.b_min (pb_cons (pb_var 1) (pb_cons (PR.b pr_int) pb_nil))) pa_nil')) (hk := by omega))))) po_none' (po_some' (pr_var 1))))
    (ps_one' (ps_if' (pt_notin (pb_var 6) (pb_var 3)) (ps_one' (ps_app' 3 (pr_var 6) {})) ps_nil')))))
    (ps_frzX 3 (ps_one' (ps_ret' (pr_var 3))))))
theorem fn__law_prefixes (T : Txt K mg) (h : HF K mg "_law_prefixes" s__law_prefixes) (c__law_draw : Fn P wd K mg base 2 "_law_draw" D__law_draw) (c__law_bits : Fn P wd K mg base 3 "_law_bits" D__law_bits) : Fn P wd K mg base 4 "_law_prefixes" D__law_prefixes :=
  fn_ok h sc__law_prefixes (fun _ _ _ _ _ _ us hl => match us, hl with | [_, _, _], _ => rfl) (fun W => bd__law_prefixes T c__law_draw c__law_bits W)

/-! _law_lines -/
abbrev s__law_lines : Stmt := top 22
theorem sc__law_lines : FnScope ["pen", "size", "most", "names_used", "prefix"] ["pen", "size", "most"] (defScope s__law_lines) := ⟨rfl, rfl, rfl, by decide +kernel, rfl, by decide +kernel, by decide +kernel⟩
def C__law_lines_1 : EM :=
    (eLc [4] (eIterX (eCall D__law_prefixes (eCons (eVar 0) (eCons (eVar 1) (eCons (eVar 2) eNil))))) (gN 4) eYes (eTup (eCons (eVar 4) (eCons (eOp oIxX (eVarB 3) (eCall D__law_draw (eCons (eVar 0) (eCons (eC (.int 4)) eNil)))) eNil))))
def m__law_lines : SM :=
    (sSeq (sAsg 3 (eLst (eCons (eC (.str "a")) (eCons (eC (.str "ab")) (eCons (eC (.str "b")) (eCons (eC (.str "any")) eNil))))))
    (sRet (eB bDictX (eCons C__law_lines_1 eNil))))
def D__law_lines : DF := run ["pen", "size", "most", "names_used", "prefix"] ["pen", "size", "most"] m__law_lines
theorem bd__law_lines (T : Txt K mg) (c__law_prefixes : Fn P wd K mg base 4 "_law_prefixes" D__law_prefixes) (c__law_draw : Fn P wd K mg base 2 "_law_draw" D__law_draw) (W : WX) : PSl P wd K mg base 4 ["pen", "size", "most", "names_used", "prefix"] ⟨defScope s__law_lines, fun _ => true, none⟩ W (defBody s__law_lines) m__law_lines :=
    (ps_cons' (ps_asg' 3 sc__law_lines.nd (pr_lst (pa_cons' pr_str (pa_cons' pr_str (pa_cons' pr_str (pa_cons' pr_str pa_nil'))))))
    (ps_one' (ps_ret' (pr_dictx T.b_dict (pb_cons (PR.b (pr_lc (own := [("prefix", 4)]) sc__law_lines.nd (blkOk_by (by decide +kernel)) (pi_anyx (pr_call c__law_prefixes (pa_cons' (pr_var 0) (pa_cons' (pr_var 1) (pa_cons' (pr_var 2) pa_nil'))) (hk := by omega))) (pg_name' 4 sc__law_lines.nd) pj_nil (pr_tup (pa_cons' (pr_var 4) (pa_cons' (pr_ixx (pb_var 3) (PR.b (pr_call c__law_draw (pa_cons' (pr_var 0) (pa_cons' pr_int pa_nil')) (hk := by omega)))) pa_nil'))))) pb_nil)))))
theorem fn__law_lines (T : Txt K mg) (h : HF K mg "_law_lines" s__law_lines) (c__law_prefixes : Fn P wd K mg base 4 "_law_prefixes" D__law_prefixes) (c__law_draw : Fn P wd K mg base 2 "_law_draw" D__law_draw) : Fn P wd K mg base 5 "_law_lines" D__law_lines :=
  fn_ok h sc__law_lines (fun _ _ _ _ _ _ us hl => match us, hl with | [_, _, _], _ => rfl) (fun W => bd__law_lines T c__law_prefixes c__law_draw W)

/-! Table_targets -/
abbrev s_Table_targets : Stmt := inClass (top 14) 7
theorem sc_Table_targets : FnScope ["self"] ["self"] (defScope s_Table_targets) := ⟨rfl, rfl, rfl, by decide +kernel, rfl, by decide +kernel, by decide +kernel⟩
def m_Table_targets : SM :=
    (sRet (eSortSet (eVals (eFld ["PrefixMap", "Table"] "held" (eVarB 0)))))
def D_Table_targets : DF := run ["self"] ["self"] m_Table_targets
theorem bd_Table_targets (T : Txt K mg)  (W : WX) : PSl P wd K mg base 0 ["self"] ⟨defScope s_Table_targets, fun _ => true, none⟩ W (defBody s_Table_targets) m_Table_targets :=
    (ps_one' (ps_ret' (pr_sortset T.b_sorted T.b_set (PR.b (pr_listVals T.b_list (PR.b (pr_fld (fld_cons ⟨T.cls_PrefixMap, T.na_PrefixMap_held⟩ (fld_cons ⟨T.cls_Table, T.na_Table_held⟩ fld_nil)) (pb_var 0))))))))
theorem fn_Table_targets (T : Txt K mg) {fa : Addr} (h : HM K "targets" "Table.targets" s_Table_targets fa)  : FnA P wd K mg base 1 fa D_Table_targets :=
  fn_okM h sc_Table_targets (fun _ _ _ _ _ _ us hl => match us, hl with | [_], _ => rfl) (fun W => bd_Table_targets T  W)

/-! Table_targets_st -/
abbrev s_Table_targets_st : Stmt := inClass (top 14) 7
theorem sc_Table_targets_st : FnScope ["self"] ["self"] (defScope s_Table_targets_st) := ⟨rfl, rfl, rfl, by decide +kernel, rfl, by decide +kernel, by decide +kernel⟩
def m_Table_targets_st : SM :=
    (sRetSt (eSortSet (eVals (eFld ["PrefixMap", "Table"] "held" (eVarB 0)))))
def D_Table_targets_st : DF := run ["self"] ["self"] m_Table_targets_st
theorem bd_Table_targets_st (T : Txt K mg)  (W : WX) : PSl P wd K mg base 0 ["self"] ⟨defScope s_Table_targets_st, fun _ => true, none⟩ W (defBody s_Table_targets_st) m_Table_targets_st :=
    (ps_one' (ps_retSt (pn_sortset T.b_sorted T.b_set (PR.b (pr_listVals T.b_list (PR.b (pr_fld (fld_cons ⟨T.cls_PrefixMap, T.na_PrefixMap_held⟩ (fld_cons ⟨T.cls_Table, T.na_Table_held⟩ fld_nil)) (pb_var 0))))))))
theorem fn_Table_targets_st (T : Txt K mg) {fa : Addr} (h : HM K "targets" "Table.targets" s_Table_targets_st fa)  : FnA P wd K mg base 1 fa D_Table_targets_st :=
  fn_okM h sc_Table_targets_st (fun _ _ _ _ _ _ us hl => match us, hl with | [_], _ => rfl) (fun W => bd_Table_targets_st T  W)

/-! PrefixMap_made -/
abbrev s_PrefixMap_made : Stmt := inClass (top 10) 4
theorem sc_PrefixMap_made : FnScope ["self", "rows"] ["self", "rows"] (defScope s_PrefixMap_made) := ⟨rfl, rfl, rfl, by decide +kernel, rfl, by decide +kernel, by decide +kernel⟩
def m_PrefixMap_made : SM :=
    (sRet (eMake "PrefixMap" D_PrefixMap___init__ (eCons (eFld ["PrefixMap", "Table"] "bits" (eVarB 0)) (eCons (eVar 1) eNil))))
def D_PrefixMap_made : DF := run ["self", "rows"] ["self", "rows"] m_PrefixMap_made
theorem bd_PrefixMap_made (T : Txt K mg) (c_PrefixMap___init__ : FnA P wd K mg base 5 (cM K "PrefixMap" "__init__") D_PrefixMap___init__) (W : WX) : PSl P wd K mg base 6 ["self", "rows"] ⟨defScope s_PrefixMap_made, fun _ => true, none⟩ W (defBody s_PrefixMap_made) m_PrefixMap_made :=
    (ps_one' (ps_ret' (pr_make "PrefixMap" (makeOK (k := 5) T.mk_PrefixMap T.mi_PrefixMap c_PrefixMap___init__) (pa_cons' (pr_fld (fld_cons ⟨T.cls_PrefixMap, T.na_PrefixMap_bits⟩ (fld_cons ⟨T.cls_Table, T.na_Table_bits⟩ fld_nil)) (pb_var 0)) (pa_cons' (pr_var 1) pa_nil')))))
theorem fn_PrefixMap_made (T : Txt K mg) {fa : Addr} (h : HM K "made" "PrefixMap.made" s_PrefixMap_made fa) (c_PrefixMap___init__ : FnA P wd K mg base 5 (cM K "PrefixMap" "__init__") D_PrefixMap___init__) : FnA P wd K mg base 7 fa D_PrefixMap_made :=
  fn_okM h sc_PrefixMap_made (fun _ _ _ _ _ _ us hl => match us, hl with | [_, _], _ => rfl) (fun W => bd_PrefixMap_made T c_PrefixMap___init__ W)

/-! Table_made -/
abbrev s_Table_made : Stmt := inClass (top 14) 4
theorem sc_Table_made : FnScope ["self", "rows"] ["self", "rows"] (defScope s_Table_made) := ⟨rfl, rfl, rfl, by decide +kernel, rfl, by decide +kernel, by decide +kernel⟩
def m_Table_made : SM :=
    (sRet (eMake "Table" D_PrefixMap___init__ (eCons (eFld ["PrefixMap", "Table"] "bits" (eVarB 0)) (eCons (eVar 1) eNil))))
def D_Table_made : DF := run ["self", "rows"] ["self", "rows"] m_Table_made
theorem bd_Table_made (T : Txt K mg) (c_PrefixMap___init__ : FnA P wd K mg base 5 (cM K "PrefixMap" "__init__") D_PrefixMap___init__) (W : WX) : PSl P wd K mg base 6 ["self", "rows"] ⟨defScope s_Table_made, fun _ => true, none⟩ W (defBody s_Table_made) m_Table_made :=
    (ps_one' (ps_ret' (pr_make "Table" (makeOK (k := 5) T.mk_Table T.mi_Table c_PrefixMap___init__) (pa_cons' (pr_fld (fld_cons ⟨T.cls_PrefixMap, T.na_PrefixMap_bits⟩ (fld_cons ⟨T.cls_Table, T.na_Table_bits⟩ fld_nil)) (pb_var 0)) (pa_cons' (pr_var 1) pa_nil')))))
theorem fn_Table_made (T : Txt K mg) {fa : Addr} (h : HM K "made" "Table.made" s_Table_made fa) (c_PrefixMap___init__ : FnA P wd K mg base 5 (cM K "PrefixMap" "__init__") D_PrefixMap___init__) : FnA P wd K mg base 7 fa D_Table_made :=
  fn_okM h sc_Table_made (fun _ _ _ _ _ _ us hl => match us, hl with | [_, _], _ => rfl) (fun W => bd_Table_made T c_PrefixMap___init__ W)

/-! PrefixMap_with_row -/
abbrev s_PrefixMap_with_row : Stmt := inClass (top 10) 9
theorem sc_PrefixMap_with_row : FnScope ["self", "prefix", "value"] ["self", "prefix", "value"] (defScope s_PrefixMap_with_row) := ⟨rfl, rfl, rfl, by decide +kernel, rfl, by decide +kernel, by decide +kernel⟩
def m_PrefixMap_with_row : SM :=
    (sSeq (sIf (eNot (eCall D_is_prefix (eCons (eVar 1) (eCons (eFld ["PrefixMap", "Table"] "bits" (eVarB 0)) eNil)))) sNo sSkip)
    (sRet (eMeth [("PrefixMap", D_PrefixMap_made), ("Table", D_Table_made)] "made" (eVar 0) (eCons (eDupd (eFld ["PrefixMap", "Table"] "held" (eVarB 0)) (eVar 1) (eVar 2)) eNil))))
def D_PrefixMap_with_row : DF := run ["self", "prefix", "value"] ["self", "prefix", "value"] m_PrefixMap_with_row
theorem bd_PrefixMap_with_row (T : Txt K mg) (c_is_prefix : Fn P wd K mg base 1 "is_prefix" D_is_prefix) (c_Table_made : FnA P wd K mg base 7 (cM K "Table" "made") D_Table_made) (c_PrefixMap_made : FnA P wd K mg base 7 (cM K "PrefixMap" "made") D_PrefixMap_made) (W : WX) : PSl P wd K mg base 8 ["self", "prefix", "value"] ⟨defScope s_PrefixMap_with_row, fun _ => true, none⟩ W (defBody s_PrefixMap_with_row) m_PrefixMap_with_row :=
    (ps_cons' (ps_if' (pt_not'' (pt_val' (pr_call c_is_prefix (pa_cons' (pr_var 1) (pa_cons' (pr_fld (fld_cons ⟨T.cls_PrefixMap, T.na_PrefixMap_bits⟩ (fld_cons ⟨T.cls_Table, T.na_Table_bits⟩ fld_nil)) (pb_var 0)) pa_nil')) (hk := by omega)))) (ps_one' ps_no) ps_nil')
    (ps_one' (ps_ret' (pr_meth (j := 7) (all_cons (methOK T.cls_PrefixMap T.me_PrefixMap_made c_PrefixMap_made) (all_cons (methOK T.cls_Table T.me_Table_made c_Table_made) all_nil)) (pr_var 0) (pa_cons' (pr_dupd (pr_fld (fld_cons ⟨T.cls_PrefixMap, T.na_PrefixMap_held⟩ (fld_cons ⟨T.cls_Table, T.na_Table_held⟩ fld_nil)) (pb_var 0)) (pr_var 1) (pr_var 2)) pa_nil')))))
theorem fn_PrefixMap_with_row (T : Txt K mg) {fa : Addr} (h : HM K "with_row" "PrefixMap.with_row" s_PrefixMap_with_row fa) (c_is_prefix : Fn P wd K mg base 1 "is_prefix" D_is_prefix) (c_Table_made : FnA P wd K mg base 7 (cM K "Table" "made") D_Table_made) (c_PrefixMap_made : FnA P wd K mg base 7 (cM K "PrefixMap" "made") D_PrefixMap_made) : FnA P wd K mg base 9 fa D_PrefixMap_with_row :=
  fn_okM h sc_PrefixMap_with_row (fun _ _ _ _ _ _ us hl => match us, hl with | [_, _, _], _ => rfl) (fun W => bd_PrefixMap_with_row T c_is_prefix c_Table_made c_PrefixMap_made W)

/-! PrefixMap_without -/
abbrev s_PrefixMap_without : Stmt := inClass (top 10) 10
theorem sc_PrefixMap_without : FnScope ["self", "prefix", "other"] ["self", "prefix"] (defScope s_PrefixMap_without) := ⟨rfl, rfl, rfl, by decide +kernel, rfl, by decide +kernel, by decide +kernel⟩
def C_PrefixMap_without_1 : EM :=
    (eDc [2] (eIterX (eFld ["PrefixMap", "Table"] "held" (eVarB 0))) (gN 2) (eOp oNeX (eVarB 2) (eVarB 1)) (eVar 2) (eOp oIxX (eFld ["PrefixMap", "Table"] "held" (eVarB 0)) (eVarB 2)))
def m_PrefixMap_without : SM :=
    (sSeq (sIf (eOr (eNot (eB bIsi (eCons (eVarB 1) (eCons (eC (.ty "str")) eNil)))) (eOp oNotIn (eVarB 1) (eFld ["PrefixMap", "Table"] "held" (eVarB 0)))) sNo sSkip)
    (sRet (eMeth [("PrefixMap", D_PrefixMap_made), ("Table", D_Table_made)] "made" (eVar 0) (eCons C_PrefixMap_without_1 eNil))))
def D_PrefixMap_without : DF := run ["self", "prefix", "other"] ["self", "prefix"] m_PrefixMap_without
theorem bd_PrefixMap_without (T : Txt K mg) (c_Table_made : FnA P wd K mg base 7 (cM K "Table" "made") D_Table_made) (c_PrefixMap_made : FnA P wd K mg base 7 (cM K "PrefixMap" "made") D_PrefixMap_made) (W : WX) : PSl P wd K mg base 8 ["self", "prefix", "other"] ⟨defScope s_PrefixMap_without, fun _ => true, none⟩ W (defBody s_PrefixMap_without) m_PrefixMap_without :=
    (ps_cons' (ps_if' (pt_w (pw_or' (pt_not'' (pt_val' (pr_isi T.b_isinstance (pb_cons (pb_var 1) (pb_cons (PR.b (pr_ty T.b_str)) pb_nil))))) (pw_or1' (pt_notin (pb_var 1) (PR.b (pr_fld (fld_cons ⟨T.cls_PrefixMap, T.na_PrefixMap_held⟩ (fld_cons ⟨T.cls_Table, T.na_Table_held⟩ fld_nil)) (pb_var 0))))))) (ps_one' ps_no) ps_nil')
    (ps_one' (ps_ret' (pr_meth (j := 7) (all_cons (methOK T.cls_PrefixMap T.me_PrefixMap_made c_PrefixMap_made) (all_cons (methOK T.cls_Table T.me_Table_made c_Table_made) all_nil)) (pr_var 0) (pa_cons' (pr_dc (own := [("other", 2)]) sc_PrefixMap_without.nd (blkOk_by (by decide +kernel)) (pi_anyx (pr_fld (fld_cons ⟨T.cls_PrefixMap, T.na_PrefixMap_held⟩ (fld_cons ⟨T.cls_Table, T.na_Table_held⟩ fld_nil)) (pb_var 0))) (pg_name' 2 sc_PrefixMap_without.nd) (pj_one (pt_neX (pb_var 2) (pb_var 1))) (pr_var 2) (pr_ixx (PR.b (pr_fld (fld_cons ⟨T.cls_PrefixMap, T.na_PrefixMap_held⟩ (fld_cons ⟨T.cls_Table, T.na_Table_held⟩ fld_nil)) (pb_var 0))) (pb_var 2))) pa_nil')))))
theorem fn_PrefixMap_without (T : Txt K mg) {fa : Addr} (h : HM K "without" "PrefixMap.without" s_PrefixMap_without fa) (c_Table_made : FnA P wd K mg base 7 (cM K "Table" "made") D_Table_made) (c_PrefixMap_made : FnA P wd K mg base 7 (cM K "PrefixMap" "made") D_PrefixMap_made) : FnA P wd K mg base 9 fa D_PrefixMap_without :=
  fn_okM h sc_PrefixMap_without (fun _ _ _ _ _ _ us hl => match us, hl with | [_, _], _ => rfl) (fun W => bd_PrefixMap_without T c_Table_made c_PrefixMap_made W)

/-! PrefixMap_rows -/
abbrev s_PrefixMap_rows : Stmt := inClass (top 10) 6
theorem sc_PrefixMap_rows : FnScope ["self"] ["self"] (defScope s_PrefixMap_rows) := ⟨rfl, rfl, rfl, by decide +kernel, rfl, by decide +kernel, by decide +kernel⟩
def m_PrefixMap_rows : SM :=
    (sRet (eB bDictX (eCons (eFld ["PrefixMap", "Table"] "held" (eVarB 0)) eNil)))
def D_PrefixMap_rows : DF := run ["self"] ["self"] m_PrefixMap_rows
theorem bd_PrefixMap_rows (T : Txt K mg)  (W : WX) : PSl P wd K mg base 0 ["self"] ⟨defScope s_PrefixMap_rows, fun _ => true, none⟩ W (defBody s_PrefixMap_rows) m_PrefixMap_rows :=
    (ps_one' (ps_ret' (pr_dictx T.b_dict (pb_cons (PR.b (pr_fld (fld_cons ⟨T.cls_PrefixMap, T.na_PrefixMap_held⟩ (fld_cons ⟨T.cls_Table, T.na_Table_held⟩ fld_nil)) (pb_var 0))) pb_nil))))
theorem fn_PrefixMap_rows (T : Txt K mg) {fa : Addr} (h : HM K "rows" "PrefixMap.rows" s_PrefixMap_rows fa)  : FnA P wd K mg base 1 fa D_PrefixMap_rows :=
  fn_okM h sc_PrefixMap_rows (fun _ _ _ _ _ _ us hl => match us, hl with | [_], _ => rfl) (fun W => bd_PrefixMap_rows T  W)

/-! PrefixMap_rows_st -/
abbrev s_PrefixMap_rows_st : Stmt := inClass (top 10) 6
theorem sc_PrefixMap_rows_st : FnScope ["self"] ["self"] (defScope s_PrefixMap_rows_st) := ⟨rfl, rfl, rfl, by decide +kernel, rfl, by decide +kernel, by decide +kernel⟩
def m_PrefixMap_rows_st : SM :=
    (sRetSt (eB bDictX (eCons (eFld ["PrefixMap", "Table"] "held" (eVarB 0)) eNil)))
def D_PrefixMap_rows_st : DF := run ["self"] ["self"] m_PrefixMap_rows_st
theorem bd_PrefixMap_rows_st (T : Txt K mg)  (W : WX) : PSl P wd K mg base 0 ["self"] ⟨defScope s_PrefixMap_rows_st, fun _ => true, none⟩ W (defBody s_PrefixMap_rows_st) m_PrefixMap_rows_st :=
    (ps_one' (ps_retSt (pn_dictx T.b_dict (pb_cons (PR.b (pr_fld (fld_cons ⟨T.cls_PrefixMap, T.na_PrefixMap_held⟩ (fld_cons ⟨T.cls_Table, T.na_Table_held⟩ fld_nil)) (pb_var 0))) pb_nil))))
theorem fn_PrefixMap_rows_st (T : Txt K mg) {fa : Addr} (h : HM K "rows" "PrefixMap.rows" s_PrefixMap_rows_st fa)  : FnA P wd K mg base 1 fa D_PrefixMap_rows_st :=
  fn_okM h sc_PrefixMap_rows_st (fun _ _ _ _ _ _ us hl => match us, hl with | [_], _ => rfl) (fun W => bd_PrefixMap_rows_st T  W)

/-! PrefixMap_width -/
abbrev s_PrefixMap_width : Stmt := inClass (top 10) 5
theorem sc_PrefixMap_width : FnScope ["self"] ["self"] (defScope s_PrefixMap_width) := ⟨rfl, rfl, rfl, by decide +kernel, rfl, by decide +kernel, by decide +kernel⟩
def m_PrefixMap_width : SM :=
    (sRet (eFld ["PrefixMap", "Table"] "bits" (eVarB 0)))
def D_PrefixMap_width : DF := run ["self"] ["self"] m_PrefixMap_width
theorem bd_PrefixMap_width (T : Txt K mg)  (W : WX) : PSl P wd K mg base 0 ["self"] ⟨defScope s_PrefixMap_width, fun _ => true, none⟩ W (defBody s_PrefixMap_width) m_PrefixMap_width :=
    (ps_one' (ps_ret' (pr_fld (fld_cons ⟨T.cls_PrefixMap, T.na_PrefixMap_bits⟩ (fld_cons ⟨T.cls_Table, T.na_Table_bits⟩ fld_nil)) (pb_var 0))))
theorem fn_PrefixMap_width (T : Txt K mg) {fa : Addr} (h : HM K "width" "PrefixMap.width" s_PrefixMap_width fa)  : FnA P wd K mg base 1 fa D_PrefixMap_width :=
  fn_okM h sc_PrefixMap_width (fun _ _ _ _ _ _ us hl => match us, hl with | [_], _ => rfl) (fun W => bd_PrefixMap_width T  W)

/-! PrefixMap_walk -/
abbrev s_PrefixMap_walk : Stmt := inClass (top 10) 7
theorem sc_PrefixMap_walk : GScope ["self", "prefix"] ["self"] (defScope s_PrefixMap_walk) := ⟨rfl, rfl, rfl, by decide +kernel, rfl, by decide +kernel, by decide +kernel⟩
def m_PrefixMap_walk : YM :=
    (ySeq (yFor (eIterX (eFld ["PrefixMap", "Table"] "held" (eVarB 0))) (gN 1)
    (ySeq (yYield (eTup (eCons (eVar 1) (eCons (eOp oIxX (eFld ["PrefixMap", "Table"] "held" (eVarB 0)) (eVarB 1)) eNil))))
    yNil))
    yNil)
def D_PrefixMap_walk : List D → Option (List D) := runY ["self", "prefix"] ["self"] m_PrefixMap_walk
theorem bd_PrefixMap_walk (T : Txt K mg)  : GQl P wd K mg base 0 ["self", "prefix"] ⟨defScope s_PrefixMap_walk, fun _ => true, none⟩ (defBody s_PrefixMap_walk) m_PrefixMap_walk :=
    (gq_cons (gq_for (pi_anyx (pr_fld (fld_cons ⟨T.cls_PrefixMap, T.na_PrefixMap_held⟩ (fld_cons ⟨T.cls_Table, T.na_Table_held⟩ fld_nil)) (pb_var 0))) (pg_name' 1 sc_PrefixMap_walk.nd)
    (gq_cons (gq_yield (pr_tup (pa_cons' (pr_var 1) (pa_cons' (pr_ixx (PR.b (pr_fld (fld_cons ⟨T.cls_PrefixMap, T.na_PrefixMap_held⟩ (fld_cons ⟨T.cls_Table, T.na_Table_held⟩ fld_nil)) (pb_var 0))) (pb_var 1)) pa_nil'))))
    gq_nil))
    gq_nil)
theorem fn_PrefixMap_walk (T : Txt K mg) {fa : Addr} (h : HM K "walk" "PrefixMap.walk" s_PrefixMap_walk fa)  : FnAY P wd K mg base 0 fa D_PrefixMap_walk :=
  fn_okY h sc_PrefixMap_walk (by decide +kernel) (by decide +kernel) (fun _ _ _ _ _ _ us hl => match us, hl with | [_], _ => rfl) (bd_PrefixMap_walk T )

/-! _law_right -/
abbrev s__law_right : Stmt := top 23
theorem sc__law_right : FnScope ["some", "size", "lines", "due", "again", "found", "prefix"] ["some", "size", "lines"] (defScope s__law_right) := ⟨rfl, rfl, rfl, by decide +kernel, rfl, by decide +kernel, by decide +kernel⟩
def C__law_right_1 : EM :=
    (eLc [6] (eIterX (eB bSortedX (eCons (eVarB 2) eNil))) (gN 6) eYes (eTup (eCons (eVar 6) (eCons (eOp oIxX (eVarB 2) (eVarB 6)) eNil))))
def B__law_right_1 : SM :=
    (sSeq (sAsg 5 (eProp [("Table", D_Table_targets_st)] (eVar 0)))
    (sSeq (sIf (eOp oNeX (eB bRepr (eCons (eVarB 5) eNil)) (eB bRepr (eCons (eSortSet (eVals (eVarB 2))) eNil))) (sRet (eC (.bl false))) sSkip)
    (sSeq (sIf (eOr (eOp oNeX (eB bRepr (eCons (eProp [("PrefixMap", D_PrefixMap_rows_st), ("Table", D_PrefixMap_rows_st)] (eVar 0)) eNil)) (eB bRepr (eCons (eVarB 3) eNil))) (eOp oNeX (eProp [("PrefixMap", D_PrefixMap_width), ("Table", D_PrefixMap_width)] (eVar 0)) (eVarB 1))) (sRet (eC (.bl false))) sSkip)
    (sSeq (sAppR (eVar 5) (eC (.str "zz")))
    (sSubX (eProp [("PrefixMap", D_PrefixMap_rows_st), ("Table", D_PrefixMap_rows_st)] (eVar 0)) (eC (.str "0")) (eC (.str "zz")))))))
def m__law_right : SM :=
    (sSeq (sAsg 3 (eB bDictX (eCons C__law_right_1 eNil)))
    (sSeq (sFor (eRng1 (eCons (eC (.int 2)) eNil)) (gN 4)
    B__law_right_1)
    (sRet (eAnd (eB (bIsiO [("Table", [("PrefixMap", false), ("Table", true)])]) (eCons (eVarB 0) (eCons (eC (.cls "Table")) eNil))) (eAnd (eB (bIsiO [("PrefixMap", [("PrefixMap", true), ("Table", true)])]) (eCons (eVarB 0) (eCons (eC (.cls "PrefixMap")) eNil))) (eOp oEqX (eListY (eGen0 ["PrefixMap", "Table"] "walk" D_PrefixMap_walk (eVar 0))) (eItems (eVarB 3))))))))
def D__law_right : DF := run ["some", "size", "lines", "due", "again", "found", "prefix"] ["some", "size", "lines"] m__law_right
theorem bd__law_right (T : Txt K mg) (c_Table_targets_st : FnA P wd K mg base 1 (cG K "Table" "targets") D_Table_targets_st) (c_PrefixMap_rows_st : FnA P wd K mg base 1 (cG K "PrefixMap" "rows") D_PrefixMap_rows_st) (c_PrefixMap_width : FnA P wd K mg base 1 (cG K "PrefixMap" "width") D_PrefixMap_width) (c_PrefixMap_walk : FnAY P wd K mg base 0 (cM K "PrefixMap" "walk") D_PrefixMap_walk) (W : WX) : PSl P wd K mg base 2 ["some", "size", "lines", "due", "again", "found", "prefix"] ⟨defScope s__law_right, fun _ => true, none⟩ W (defBody s__law_right) m__law_right :=
    (ps_cons' (ps_asg' 3 sc__law_right.nd (pr_dictx T.b_dict (pb_cons (PR.b (pr_lc (own := [("prefix", 6)]) sc__law_right.nd (blkOk_by (by decide +kernel)) (pi_anyx (pr_sortedX T.b_sorted (pb_cons (pb_var 2) pb_nil))) (pg_name' 6 sc__law_right.nd) pj_nil (pr_tup (pa_cons' (pr_var 6) (pa_cons' (pr_ixx (pb_var 2) (pb_var 6)) pa_nil'))))) pb_nil)))
    (ps_cons' (ps_for' (pi_rng1 T.b_range (pa_cons' pr_int pa_nil')) (pg_name' 4 sc__law_right.nd)
    (ps_cons' (ps_asg' 5 sc__law_right.nd (pr_prop (j := 1) (all_cons (propOK T.cls_Table T.pr_Table_targets c_Table_targets_st) all_nil) (pr_var 0)))
    (ps_cons' (ps_if' (pt_neX (PR.b (pr_repr T.b_repr (pb_cons (pb_var 5) pb_nil))) (PR.b (pr_repr T.b_repr (pb_cons (PR.b (pr_sortset T.b_sorted T.b_set (PR.b (pr_listVals T.b_list (pb_var 2))))) pb_nil)))) (ps_one' (ps_ret' pr_bl)) ps_nil')
    (ps_cons' (ps_if' (pt_w (pw_or' (pt_neX (PR.b (pr_repr T.b_repr (pb_cons (PR.b (pr_prop (j := 1) (all_cons (propOK T.cls_PrefixMap T.pr_PrefixMap_rows c_PrefixMap_rows_st) (all_cons (propOK T.cls_Table T.pr_Table_rows c_PrefixMap_rows_st) all_nil)) (pr_var 0))) pb_nil))) (PR.b (pr_repr T.b_repr (pb_cons (pb_var 3) pb_nil)))) (pw_or1' (pt_neX (PR.b (pr_prop (j := 1) (all_cons (propOK T.cls_PrefixMap T.pr_PrefixMap_width c_PrefixMap_width) (all_cons (propOK T.cls_Table T.pr_Table_width c_PrefixMap_width) all_nil)) (pr_var 0))) (pb_var 1))))) (ps_one' (ps_ret' pr_bl)) ps_nil')
    (ps_cons' (ps_appR (pr_var 5) pr_str {})
    (ps_one' (ps_subX pr_str (pr_prop (j := 1) (all_cons (propOK T.cls_PrefixMap T.pr_PrefixMap_rows c_PrefixMap_rows_st) (all_cons (propOK T.cls_Table T.pr_Table_rows c_PrefixMap_rows_st) all_nil)) (pr_var 0)) pr_str)))))))
    (ps_one' (ps_ret' (pr_and (pr_isiO (all_consI ⟨T.ask_Table, T.nb_Table, (all_consB ⟨T.iq_PrefixMap, T.sb_PrefixMap_Table⟩ (all_consB ⟨T.iq_Table, T.sb_Table_Table⟩ all_nilB))⟩ all_nilI) T.b_isinstance (pb_cons (pb_var 0) (pb_cons (PR.b (pr_cls T.mk_Table)) pb_nil))) (pr_and (pr_isiO (all_consI ⟨T.ask_PrefixMap, T.nb_PrefixMap, (all_consB ⟨T.iq_PrefixMap, T.sb_PrefixMap_PrefixMap⟩ (all_consB ⟨T.iq_Table, T.sb_Table_PrefixMap⟩ all_nilB))⟩ all_nilI) T.b_isinstance (pb_cons (pb_var 0) (pb_cons (PR.b (pr_cls T.mk_PrefixMap)) pb_nil))) (pr_one (pr_eqX (PR.b (pr_listY (py_meth0 (j := 0) (fld_cons (methYOK T.cls_PrefixMap T.me_PrefixMap_walk c_PrefixMap_walk) (fld_cons (methYOK T.cls_Table T.me_Table_walk c_PrefixMap_walk) fld_nil)) (pr_var 0)) T.b_list)) (PR.b (pr_listItems T.b_list (pb_var 3)))))))))))
theorem fn__law_right (T : Txt K mg) (h : HF K mg "_law_right" s__law_right) (c_Table_targets_st : FnA P wd K mg base 1 (cG K "Table" "targets") D_Table_targets_st) (c_PrefixMap_rows_st : FnA P wd K mg base 1 (cG K "PrefixMap" "rows") D_PrefixMap_rows_st) (c_PrefixMap_width : FnA P wd K mg base 1 (cG K "PrefixMap" "width") D_PrefixMap_width) (c_PrefixMap_walk : FnAY P wd K mg base 0 (cM K "PrefixMap" "walk") D_PrefixMap_walk) : Fn P wd K mg base 3 "_law_right" D__law_right :=
  fn_ok h sc__law_right (fun _ _ _ _ _ _ us hl => match us, hl with | [_, _, _], _ => rfl) (fun W => bd__law_right T c_Table_targets_st c_PrefixMap_rows_st c_PrefixMap_width c_PrefixMap_walk W)

/-! _law_copies -/
abbrev s__law_copies : Stmt := top 24
theorem sc__law_copies : FnScope ["size", "lines", "given", "some", "prefix"] ["size", "lines"] (defScope s__law_copies) := ⟨rfl, rfl, rfl, by decide +kernel, rfl, by decide +kernel, by decide +kernel⟩
def C__law_copies_1 : EM :=
    (eLc [4] (eIterX (eB bSortedX (eCons (eVarB 1) eNil))) (gN 4) eYes (eTup (eCons (eVar 4) (eCons (eOp oIxX (eVarB 1) (eVarB 4)) eNil))))
def B__law_copies_1 : SM :=
    (sSeq (sAsg 3 (eMake "Table" D_PrefixMap___init__ (eCons (eVar 0) (eCons (eVar 2) eNil))))
    (sSeq (sSubX (eVar 2) (eC (.str "1")) (eC (.str "zz")))
    (sSeq (sDPopR (eVar 2) (eOp oIxX (eB bSortedX (eCons (eVarB 2) eNil)) (eC (.int 0))))
    (sIf (eNot (eCall D__law_right (eCons (eVar 3) (eCons (eVar 0) (eCons (eVar 1) eNil))))) (sRet (eC (.bl false))) sSkip))))
def m__law_copies : SM :=
    (sSeq (sFor (eIterX (eTup (eCons (eSt (eB bDictX (eCons (eVarB 1) eNil))) (eCons (eSt (eB bDictX (eCons C__law_copies_1 eNil))) eNil)))) (gN 2)
    B__law_copies_1)
    (sRet (eC (.bl true))))
def D__law_copies : DF := run ["size", "lines", "given", "some", "prefix"] ["size", "lines"] m__law_copies
theorem bd__law_copies (T : Txt K mg) (c__law_right : Fn P wd K mg base 3 "_law_right" D__law_right) (c_PrefixMap___init__ : FnA P wd K mg base 5 (cM K "PrefixMap" "__init__") D_PrefixMap___init__) (W : WX) : PSl P wd K mg base 6 ["size", "lines", "given", "some", "prefix"] ⟨defScope s__law_copies, fun _ => true, none⟩ W (defBody s__law_copies) m__law_copies :=
    (ps_cons' (ps_for' (pi_anyx (pr_tup (pa_cons' (pr_st (pn_dictx T.b_dict (pb_cons (pb_var 1) pb_nil))) (pa_cons' (pr_st (pn_dictx T.b_dict (pb_cons (PR.b (pr_lc (own := [("prefix", 4)]) sc__law_copies.nd (blkOk_by (by decide +kernel)) (pi_anyx (pr_sortedX T.b_sorted (pb_cons (pb_var 1) pb_nil))) (pg_name' 4 sc__law_copies.nd) pj_nil (pr_tup (pa_cons' (pr_var 4) (pa_cons' (pr_ixx (pb_var 1) (pb_var 4)) pa_nil'))))) pb_nil))) pa_nil')))) (pg_name' 2 sc__law_copies.nd)
    (ps_cons' (ps_asg' 3 sc__law_copies.nd (pr_make "Table" (makeOK (k := 5) T.mk_Table T.mi_Table c_PrefixMap___init__) (pa_cons' (pr_var 0) (pa_cons' (pr_var 2) pa_nil'))))
    (ps_cons' (ps_subX pr_str (pr_var 2) pr_str)
    (ps_cons' (ps_dpopR (pr_var 2) (pr_ixx (PR.b (pr_sortedX T.b_sorted (pb_cons (pb_var 2) pb_nil))) (PR.b pr_int)))
    (ps_one' (ps_if' (pt_not'' (pt_val' (pr_call c__law_right (pa_cons' (pr_var 3) (pa_cons' (pr_var 0) (pa_cons' (pr_var 1) pa_nil'))) (hk := by omega)))) (ps_one' (ps_ret' pr_bl)) ps_nil'))))))
    (ps_one' (ps_ret' pr_bl)))
theorem fn__law_copies (T : Txt K mg) (h : HF K mg "_law_copies" s__law_copies) (c__law_right : Fn P wd K mg base 3 "_law_right" D__law_right) (c_PrefixMap___init__ : FnA P wd K mg base 5 (cM K "PrefixMap" "__init__") D_PrefixMap___init__) : Fn P wd K mg base 7 "_law_copies" D__law_copies :=
  fn_ok h sc__law_copies (fun _ _ _ _ _ _ us hl => match us, hl with | [_, _], _ => rfl) (fun W => bd__law_copies T c__law_right c_PrefixMap___init__ W)

/-! PrefixMap_longest -/
abbrev s_PrefixMap_longest : Stmt := inClass (top 10) 8
theorem sc_PrefixMap_longest : FnScope ["self", "prefix", "size"] ["self", "prefix"] (defScope s_PrefixMap_longest) := ⟨rfl, rfl, rfl, by decide +kernel, rfl, by decide +kernel, by decide +kernel⟩
def B_PrefixMap_longest_1 : SM :=
    (sIf (eOp oIn (eSl (eVarB 1) (eC .non) (eInt (eVar 2))) (eFld ["PrefixMap", "Table"] "held" (eVarB 0))) (sRet (eSl (eVarB 1) (eC .non) (eInt (eVar 2)))) sSkip)
def m_PrefixMap_longest : SM :=
    (sSeq (sIf (eNot (eCall D_is_prefix (eCons (eVar 1) (eCons (eFld ["PrefixMap", "Table"] "bits" (eVarB 0)) eNil)))) sNo sSkip)
    (sSeq (sFor (eRngD (eCons (eB bLen (eCons (eVarB 1) eNil)) (eCons (eNeg (eC (.int 1))) (eCons (eNeg (eC (.int 1))) eNil)))) (gN 2)
    B_PrefixMap_longest_1)
    (sRet (eC .non))))
def D_PrefixMap_longest : DF := run ["self", "prefix", "size"] ["self", "prefix"] m_PrefixMap_longest
theorem bd_PrefixMap_longest (T : Txt K mg) (c_is_prefix : Fn P wd K mg base 1 "is_prefix" D_is_prefix) (W : WX) : PSl P wd K mg base 1 ["self", "prefix", "size"] ⟨defScope s_PrefixMap_longest, fun _ => true, none⟩ W (defBody s_PrefixMap_longest) m_PrefixMap_longest :=
    (ps_cons' (ps_if' (pt_not'' (pt_val' (pr_call c_is_prefix (pa_cons' (pr_var 1) (pa_cons' (pr_fld (fld_cons ⟨T.cls_PrefixMap, T.na_PrefixMap_bits⟩ (fld_cons ⟨T.cls_Table, T.na_Table_bits⟩ fld_nil)) (pb_var 0)) pa_nil')) (hk := by omega)))) (ps_one' ps_no) ps_nil')
    (ps_cons' (ps_for' (pi_rngD T.b_range (pa_cons' (pr_len T.b_len (pb_cons (pb_var 1) pb_nil)) (pa_cons' (pr_neg pr_int) (pa_cons' (pr_neg pr_int) pa_nil')))) (pg_name' 2 sc_PrefixMap_longest.nd)
    (ps_one' (ps_if' (pt_in (PR.b (pr_sl (pb_var 1) po_none' (po_some' (pr_var 2)))) (PR.b (pr_fld (fld_cons ⟨T.cls_PrefixMap, T.na_PrefixMap_held⟩ (fld_cons ⟨T.cls_Table, T.na_Table_held⟩ fld_nil)) (pb_var 0)))) (ps_one' (ps_ret' (pr_sl (pb_var 1) po_none' (po_some' (pr_var 2))))) ps_nil')))
    (ps_one' (ps_ret' pr_non))))
theorem fn_PrefixMap_longest (T : Txt K mg) {fa : Addr} (h : HM K "longest" "PrefixMap.longest" s_PrefixMap_longest fa) (c_is_prefix : Fn P wd K mg base 1 "is_prefix" D_is_prefix) : FnA P wd K mg base 2 fa D_PrefixMap_longest :=
  fn_okM h sc_PrefixMap_longest (fun _ _ _ _ _ _ us hl => match us, hl with | [_, _], _ => rfl) (fun W => bd_PrefixMap_longest T c_is_prefix W)

/-! Table_target_of -/
abbrev s_Table_target_of : Stmt := inClass (top 14) 6
theorem sc_Table_target_of : FnScope ["self", "prefix", "found"] ["self", "prefix"] (defScope s_Table_target_of) := ⟨rfl, rfl, rfl, by decide +kernel, rfl, by decide +kernel, by decide +kernel⟩
def m_Table_target_of : SM :=
    (sSeq (sAsg 2 (eMeth [("PrefixMap", D_PrefixMap_longest), ("Table", D_PrefixMap_longest)] "longest" (eVar 0) (eCons (eVar 1) eNil)))
    (sRet (eIf (eOp oIsN (eVarB 2) (eC .non)) (eC .non) (eOp oIxX (eFld ["PrefixMap", "Table"] "held" (eVarB 0)) (eVarB 2)))))
def D_Table_target_of : DF := run ["self", "prefix", "found"] ["self", "prefix"] m_Table_target_of
theorem bd_Table_target_of (T : Txt K mg) (c_PrefixMap_longest : FnA P wd K mg base 2 (cM K "PrefixMap" "longest") D_PrefixMap_longest) (W : WX) : PSl P wd K mg base 3 ["self", "prefix", "found"] ⟨defScope s_Table_target_of, fun _ => true, none⟩ W (defBody s_Table_target_of) m_Table_target_of :=
    (ps_cons' (ps_asg' 2 sc_Table_target_of.nd (pr_meth (j := 2) (all_cons (methOK T.cls_PrefixMap T.me_PrefixMap_longest c_PrefixMap_longest) (all_cons (methOK T.cls_Table T.me_Table_longest c_PrefixMap_longest) all_nil)) (pr_var 0) (pa_cons' (pr_var 1) pa_nil')))
    (ps_one' (ps_ret' (pr_if (pt_isN (pb_var 2) (PR.b pr_non)) pr_non (pr_ixx (PR.b (pr_fld (fld_cons ⟨T.cls_PrefixMap, T.na_PrefixMap_held⟩ (fld_cons ⟨T.cls_Table, T.na_Table_held⟩ fld_nil)) (pb_var 0))) (pb_var 2))))))
theorem fn_Table_target_of (T : Txt K mg) {fa : Addr} (h : HM K "target_of" "Table.target_of" s_Table_target_of fa) (c_PrefixMap_longest : FnA P wd K mg base 2 (cM K "PrefixMap" "longest") D_PrefixMap_longest) : FnA P wd K mg base 4 fa D_Table_target_of :=
  fn_okM h sc_Table_target_of (fun _ _ _ _ _ _ us hl => match us, hl with | [_, _], _ => rfl) (fun W => bd_Table_target_of T c_PrefixMap_longest W)

/-! Table_lookup -/
abbrev s_Table_lookup : Stmt := inClass (top 14) 5
theorem sc_Table_lookup : FnScope ["self", "address"] ["self", "address"] (defScope s_Table_lookup) := ⟨rfl, rfl, rfl, by decide +kernel, rfl, by decide +kernel, by decide +kernel⟩
def m_Table_lookup : SM :=
    (sSeq (sIf (eOr (eNot (eCall D_is_prefix (eCons (eVar 1) (eCons (eFld ["PrefixMap", "Table"] "bits" (eVarB 0)) eNil)))) (eOp oNeX (eB bLen (eCons (eVarB 1) eNil)) (eFld ["PrefixMap", "Table"] "bits" (eVarB 0)))) sNo sSkip)
    (sRet (eMeth [("Table", D_Table_target_of)] "target_of" (eVar 0) (eCons (eVar 1) eNil))))
def D_Table_lookup : DF := run ["self", "address"] ["self", "address"] m_Table_lookup
theorem bd_Table_lookup (T : Txt K mg) (c_is_prefix : Fn P wd K mg base 1 "is_prefix" D_is_prefix) (c_Table_target_of : FnA P wd K mg base 4 (cM K "Table" "target_of") D_Table_target_of) (W : WX) : PSl P wd K mg base 5 ["self", "address"] ⟨defScope s_Table_lookup, fun _ => true, none⟩ W (defBody s_Table_lookup) m_Table_lookup :=
    (ps_cons' (ps_if' (pt_w (pw_or' (pt_not'' (pt_val' (pr_call c_is_prefix (pa_cons' (pr_var 1) (pa_cons' (pr_fld (fld_cons ⟨T.cls_PrefixMap, T.na_PrefixMap_bits⟩ (fld_cons ⟨T.cls_Table, T.na_Table_bits⟩ fld_nil)) (pb_var 0)) pa_nil')) (hk := by omega)))) (pw_or1' (pt_neX (PR.b (pr_len T.b_len (pb_cons (pb_var 1) pb_nil))) (PR.b (pr_fld (fld_cons ⟨T.cls_PrefixMap, T.na_PrefixMap_bits⟩ (fld_cons ⟨T.cls_Table, T.na_Table_bits⟩ fld_nil)) (pb_var 0))))))) (ps_one' ps_no) ps_nil')
    (ps_one' (ps_ret' (pr_meth (j := 4) (all_cons (methOK T.cls_Table T.me_Table_target_of c_Table_target_of) all_nil) (pr_var 0) (pa_cons' (pr_var 1) pa_nil')))))
theorem fn_Table_lookup (T : Txt K mg) {fa : Addr} (h : HM K "lookup" "Table.lookup" s_Table_lookup fa) (c_is_prefix : Fn P wd K mg base 1 "is_prefix" D_is_prefix) (c_Table_target_of : FnA P wd K mg base 4 (cM K "Table" "target_of") D_Table_target_of) : FnA P wd K mg base 6 fa D_Table_lookup :=
  fn_okM h sc_Table_lookup (fun _ _ _ _ _ _ us hl => match us, hl with | [_, _], _ => rfl) (fun W => bd_Table_lookup T c_is_prefix c_Table_target_of W)

/-! law -/
abbrev s_law : Stmt := top 25
theorem sc_law : FnScope ["script", "pen", "turn", "size", "lines", "step", "back", "prefix", "pairs", "made", "due", "letters", "given", "k", "wide", "many", "half"] ["script"] (defScope s_law) := ⟨rfl, rfl, rfl, by decide +kernel, rfl, by decide +kernel, by decide +kernel⟩
def B_law_1 : SM :=
    (sAsg 5 (eMeth [("PrefixMap", D_PrefixMap_with_row), ("Table", D_PrefixMap_with_row)] "with_row" (eVar 5) (eCons (eVar 7) (eCons (eOp oIxX (eVarB 4) (eVarB 7)) eNil))))
def B_law_2 : SM :=
    (sAsg 6 (eMeth [("PrefixMap", D_PrefixMap_without), ("Table", D_PrefixMap_without)] "without" (eVar 6) (eCons (eVar 7) eNil)))
def C_law_1 : EM :=
    (eLc [13] (eRng1 (eCons (eC (.int 3)) eNil)) (gN 13) eYes (eCall D__law_right (eCons (eOp oIxX (eVarB 9) (eVarB 13)) (eCons (eVar 3) (eCons (eOp oIxX (eVarB 10) (eVarB 13)) eNil)))))
def B_law_3 : SM :=
    (sSeq (sAsg 3 (eCall D__law_size (eCons (eVar 1) eNil)))
    (sSeq (sAsg 4 (eCall D__law_lines (eCons (eVar 1) (eCons (eVar 3) (eCons (eC (.int 7)) eNil)))))
    (sSeq (sPar 5 6 (eCons (eMake "Table" D_PrefixMap___init__ (eCons (eVar 3) (eCons eDnew eNil))) (eCons (eMake "Table" D_PrefixMap___init__ (eCons (eVar 3) (eCons (eVar 4) eNil))) eNil)))
    (sSeq (sFor (eIterX (eVar 4)) (gN 7)
    B_law_1)
    (sSeq (sFor (eIterX (eVar 4)) (gN 7)
    B_law_2)
    (sSeq (sIf (eOr (eNot (eCall D__law_right (eCons (eMake "Table" D_PrefixMap___init__ (eCons (eVar 3) (eCons (eVar 4) eNil))) (eCons (eVar 3) (eCons (eVar 4) eNil))))) (eNot (eCall D__law_right (eCons (eVar 5) (eCons (eVar 3) (eCons (eVar 4) eNil)))))) (sRet (eC (.bl false))) sSkip)
    (sSeq (sIf (eOr (eEqO true [("PrefixMap", ["PrefixMap"], D_PrefixMap___eq__), ("Table", ["PrefixMap", "Table"], D_PrefixMap___eq__)] (eVar 5) (eMake "Table" D_PrefixMap___init__ (eCons (eVar 3) (eCons (eVar 4) eNil)))) (eOr (eOp oNeX (eLenO [("PrefixMap", D_PrefixMap___len__), ("Table", D_PrefixMap___len__)] (eCons (eVar 6) eNil)) (eC (.int 0))) (eEqO true [("PrefixMap", ["PrefixMap"], D_PrefixMap___eq__), ("Table", ["PrefixMap", "Table"], D_PrefixMap___eq__)] (eVar 6) (eCall (starD 2 D_Table_of) (eCons (eC (.cls "Table")) (eCons (eVar 3) eNil)))))) (sRet (eC (.bl false))) sSkip)
    (sSeq (sIf (eNot (eCall D__law_copies (eCons (eVar 3) (eCons (eVar 4) eNil)))) (sRet (eC (.bl false))) sSkip)
    (sSeq (sAsg 8 (eItems (eVarB 4)))
    (sIf (eOp oGt (eB bLen (eCons (eVarB 8) eNil)) (eC (.int 2))) (sSeq (sNew 9 (eLst (eCons (eCall (starD 2 D_Table_of) (eCons (eC (.cls "Table")) (eCons (eVar 3) (eCons (eOp oIxX (eVarB 8) (eC (.int 1))) eNil)))) (eCons (eCall (starD 2 D_Table_of) (eCons (eC (.cls "Table")) (eCons (eVar 3) (eCons (eOp oIxX (eVarB 8) (eC (.int 2))) (eCons (eOp oIxX (eVarB 8) (eC (.int 0))) eNil))))) eNil))))
    (sSeq (sApp 9 (eCall (starD 2 D_Table_of) (eCons (eC (.cls "Table")) (eCons (eVar 3) (eCons (eOp oIxX (eVarB 8) (eC (.int 1))) (eCons (eOp oIxX (eVarB 8) (eC (.int 2))) (eCons (eOp oIxX (eVarB 8) (eC (.int 0))) eNil)))))))
    (sSeq (sAsg 10 (eLst (eCons (eB bDictX (eCons (eSl (eVarB 8) (eInt (eC (.int 1))) (eInt (eC (.int 2)))) eNil)) (eCons (eB bDictX (eCons (eLst (eCons (eOp oIxX (eVarB 8) (eC (.int 0))) (eCons (eOp oIxX (eVarB 8) (eC (.int 2))) eNil))) eNil)) (eCons (eB bDictX (eCons (eSl (eVarB 8) (eC .non) (eInt (eC (.int 3)))) eNil)) eNil)))))
    (sIf (eNot (eB bAll (eCons C_law_1 eNil))) (sRet (eC (.bl false))) sSkip)))) sSkip))))))))))
def C_law_2 : EM :=
    (eLc [16] (eIterX (eTup (eCons (eC (.int 16)) (eCons (eC (.int 8)) (eCons (eC (.int 4)) (eCons (eC (.int 2)) (eCons (eC (.int 1)) eNil))))))) (gN 16) eYes (eOp oIxX (eC (.str "01")) (eOp oMod (eOp oFdiv (eVarB 13) (eVarB 16)) (eC (.int 2)))))
def B_law_4 : SM :=
    (sSubO 12 (eM1 oJoin (eC (.str "")) C_law_2) (eSl (eVarB 11) (eInt (eVar 13)) (eInt (eOp oAdd (eVarB 13) (eC (.int 3))))))
def C_law_3 : EM :=
    (eLc [13] (eRng1 (eCons (eC (.int 26)) eNil)) (gN 13) eYes (eSl (eVarB 11) (eInt (eVar 13)) (eInt (eOp oAdd (eVarB 13) (eC (.int 3))))))
def m_law : SM :=
    (sSeq (sAsg 1 (eCall D__law_pen (eCons (eVar 0) eNil)))
    (sSeq (sFor (eRng1 (eCons (eC (.int 4)) eNil)) (gN 2)
    B_law_3)
    (sSeq (sAsg 11 (eC (.str "abcdefghijklmnopqrstuvwxyz")))
    (sSeq (sNew 12 eDnew)
    (sSeq (sFor (eRng1 (eCons (eC (.int 26)) eNil)) (gN 13)
    B_law_4)
    (sFrzX 12 (sSeq (sAsg 14 (eMake "Table" D_PrefixMap___init__ (eCons (eC (.int 5)) (eCons (eVar 12) eNil))))
    (sSeq (sIf (eOr (eOp oNeX (eProp [("Table", D_Table_targets)] (eVar 14)) (eB bSortedX (eCons C_law_3 eNil))) (eOp oNeX (eMeth [("Table", D_Table_lookup)] "lookup" (eVar 14) (eCons (eC (.str "11001")) eNil)) (eC (.str "z")))) (sRet (eC (.bl false))) sSkip)
    (sSeq (sAsg 15 (eCall (starD 2 D_Table_of) (eCons (eC (.cls "Table")) (eCons (eC (.int 3)) (eCons (eTup (eCons (eC (.str "")) (eCons (eC (.str "a")) eNil))) (eCons (eTup (eCons (eC (.str "0")) (eCons (eC (.str "b")) eNil))) (eCons (eTup (eCons (eC (.str "1")) (eCons (eC (.str "c")) eNil))) (eCons (eTup (eCons (eC (.str "00")) (eCons (eC (.str "d")) eNil))) (eCons (eTup (eCons (eC (.str "01")) (eCons (eC (.str "e")) eNil))) (eCons (eTup (eCons (eC (.str "10")) (eCons (eC (.str "f")) eNil))) (eCons (eTup (eCons (eC (.str "11")) (eCons (eC (.str "g")) eNil))) eNil)))))))))))
    (sRet (eAnd (eOp oEqX (eProp [("Table", D_Table_targets)] (eVar 15)) (eLst (eCons (eC (.str "a")) (eCons (eC (.str "b")) (eCons (eC (.str "c")) (eCons (eC (.str "d")) (eCons (eC (.str "e")) (eCons (eC (.str "f")) (eCons (eC (.str "g")) eNil))))))))) (eOp oEqX (eLenO [("PrefixMap", D_PrefixMap___len__), ("Table", D_PrefixMap___len__)] (eCons (eVar 15) eNil)) (eC (.int 7))))))))))))))
def D_law : DF := run ["script", "pen", "turn", "size", "lines", "step", "back", "prefix", "pairs", "made", "due", "letters", "given", "k", "wide", "many", "half"] ["script"] m_law
theorem bd_law (T : Txt K mg) (c__law_pen : Fn P wd K mg base 1 "_law_pen" D__law_pen) (c__law_size : Fn P wd K mg base 3 "_law_size" D__law_size) (c__law_lines : Fn P wd K mg base 5 "_law_lines" D__law_lines) (c__law_right : Fn P wd K mg base 3 "_law_right" D__law_right) (c__law_copies : Fn P wd K mg base 7 "_law_copies" D__law_copies) (c_PrefixMap___init__ : FnA P wd K mg base 5 (cM K "PrefixMap" "__init__") D_PrefixMap___init__) (c_PrefixMap_with_row : FnA P wd K mg base 9 (cM K "PrefixMap" "with_row") D_PrefixMap_with_row) (c_PrefixMap_without : FnA P wd K mg base 9 (cM K "PrefixMap" "without") D_PrefixMap_without) (c_PrefixMap___eq__ : FnA P wd K mg base 3 (cM K "PrefixMap" "__eq__") D_PrefixMap___eq__) (c_PrefixMap___len__ : FnA P wd K mg base 1 (cM K "PrefixMap" "__len__") D_PrefixMap___len__) (c_Table_of : FnSA P wd K mg base 7 (cC K "Table" "of") (starD 2 D_Table_of)) (c_Table_targets : FnA P wd K mg base 1 (cG K "Table" "targets") D_Table_targets) (c_Table_lookup : FnA P wd K mg base 6 (cM K "Table" "lookup") D_Table_lookup) (W : WX) : PSl P wd K mg base 10 ["script", "pen", "turn", "size", "lines", "step", "back", "prefix", "pairs", "made", "due", "letters", "given", "k", "wide", "many", "half"] ⟨defScope s_law, fun _ => true, none⟩ W (defBody s_law) m_law :=
    (ps_cons' (ps_asg' 1 sc_law.nd (pr_call c__law_pen (pa_cons' (pr_var 0) pa_nil') (hk := by omega)))
    (ps_cons' (ps_for' (pi_rng1 T.b_range (pa_cons' pr_int pa_nil')) (pg_name' 2 sc_law.nd)
    (ps_cons' (ps_asg' 3 sc_law.nd (pr_call c__law_size (pa_cons' (pr_var 1) pa_nil') (hk := by omega)))
    (ps_cons' (ps_asg' 4 sc_law.nd (pr_call c__law_lines (pa_cons' (pr_var 1) (pa_cons' (pr_var 3) (pa_cons' pr_int pa_nil'))) (hk := by omega)))
    (ps_cons' (ps_par' 5 6 sc_law.nd (pa_cons' (pr_make "Table" (makeOK (k := 5) T.mk_Table T.mi_Table c_PrefixMap___init__) (pa_cons' (pr_var 3) (pa_cons' pr_dnew pa_nil'))) (pa_cons' (pr_make "Table" (makeOK (k := 5) T.mk_Table T.mi_Table c_PrefixMap___init__) (pa_cons' (pr_var 3) (pa_cons' (pr_var 4) pa_nil'))) pa_nil')) (hw := (fun env h => by obtain ⟨_, _, _, _, _, _, _, _, _⟩ := env; cases h; rfl)))
    (ps_cons' (ps_for' (pi_anyx (pr_var 4)) (pg_name' 7 sc_law.nd)
    (ps_one' (ps_asg' 5 sc_law.nd (pr_meth (j := 9) (all_cons (methOK T.cls_PrefixMap T.me_PrefixMap_with_row c_PrefixMap_with_row) (all_cons (methOK T.cls_Table T.me_Table_with_row c_PrefixMap_with_row) all_nil)) (pr_var 5) (pa_cons' (pr_var 7) (pa_cons' (pr_ixx (pb_var 4) (pb_var 7)) pa_nil'))))))
    (ps_cons' (ps_for' (pi_anyx (pr_var 4)) (pg_name' 7 sc_law.nd)
    (ps_one' (ps_asg' 6 sc_law.nd (pr_meth (j := 9) (all_cons (methOK T.cls_PrefixMap T.me_PrefixMap_without c_PrefixMap_without) (all_cons (methOK T.cls_Table T.me_Table_without c_PrefixMap_without) all_nil)) (pr_var 6) (pa_cons' (pr_var 7) pa_nil')))))
    (ps_cons' (ps_if' (pt_w (pw_or' (pt_not'' (pt_val' (pr_call c__law_right (pa_cons' (pr_make "Table" (makeOK (k := 5) T.mk_Table T.mi_Table c_PrefixMap___init__) (pa_cons' (pr_var 3) (pa_cons' (pr_var 4) pa_nil'))) (pa_cons' (pr_var 3) (pa_cons' (pr_var 4) pa_nil'))) (hk := by omega)))) (pw_or1' (pt_not'' (pt_val' (pr_call c__law_right (pa_cons' (pr_var 5) (pa_cons' (pr_var 3) (pa_cons' (pr_var 4) pa_nil'))) (hk := by omega))))))) (ps_one' (ps_ret' pr_bl)) ps_nil')
    (ps_cons' (ps_if' (pt_w (pw_or' (pt_eqO true (j := 3) (all_consE (eqOK T.eq_PrefixMap T.en_PrefixMap T.eo_PrefixMap (fld_cons T.nf_PrefixMap_PrefixMap fld_nil) c_PrefixMap___eq__) (all_consE (eqOK T.eq_Table T.en_Table T.eo_Table (fld_cons T.nf_Table_PrefixMap (fld_cons T.nf_Table_Table fld_nil)) c_PrefixMap___eq__) all_nilE)) (pr_var 5) (pr_make "Table" (makeOK (k := 5) T.mk_Table T.mi_Table c_PrefixMap___init__) (pa_cons' (pr_var 3) (pa_cons' (pr_var 4) pa_nil')))) (pw_or' (pt_neX (PR.b (pr_lenO (j := 1) (all_cons (lenOK T.me_PrefixMap___len__ c_PrefixMap___len__) (all_cons (lenOK T.me_Table___len__ c_PrefixMap___len__) all_nil)) T.b_len (pa_cons' (pr_var 6) pa_nil'))) (PR.b pr_int)) (pw_or1' (pt_eqO true (j := 3) (all_consE (eqOK T.eq_PrefixMap T.en_PrefixMap T.eo_PrefixMap (fld_cons T.nf_PrefixMap_PrefixMap fld_nil) c_PrefixMap___eq__) (all_consE (eqOK T.eq_Table T.en_Table T.eo_Table (fld_cons T.nf_Table_PrefixMap (fld_cons T.nf_Table_Table fld_nil)) c_PrefixMap___eq__) all_nilE)) (pr_var 6) (pr_cmethS T.mk_Table (clsOKS (k := 7) T.cm_Table_of c_Table_of) (pa_cons' (pr_var 3) pa_nil'))))))) (ps_one' (ps_ret' pr_bl)) ps_nil')
    (ps_cons' (ps_if' (pt_not'' (pt_val' (pr_call c__law_copies (pa_cons' (pr_var 3) (pa_cons' (pr_var 4) pa_nil')) (hk := by omega)))) (ps_one' (ps_ret' pr_bl)) ps_nil')
    (ps_cons' (ps_asg' 8 sc_law.nd (pr_listItems T.b_list (pb_var 4)))
    (ps_one' (ps_if' (pt_gt (PR.b (pr_len T.b_len (pb_cons (pb_var 8) pb_nil))) (PR.b pr_int)) (ps_cons' (ps_new' 9 sc_law.nd (pn_lst (pa_cons' (pr_cmethS T.mk_Table (clsOKS (k := 7) T.cm_Table_of c_Table_of) (pa_cons' (pr_var 3) (pa_cons' (pr_ixx (pb_var 8) (PR.b pr_int)) pa_nil'))) (pa_cons' (pr_cmethS T.mk_Table (clsOKS (k := 7) T.cm_Table_of c_Table_of) (pa_cons' (pr_var 3) (pa_cons' (pr_ixx (pb_var 8) (PR.b pr_int)) (pa_cons' (pr_ixx (pb_var 8) (PR.b pr_int)) pa_nil')))) pa_nil'))))
    (ps_cons' (ps_app' 9 (pr_cmethS T.mk_Table (clsOKS (k := 7) T.cm_Table_of c_Table_of) (pa_cons' (pr_var 3) (pa_cons' (pr_ixx (pb_var 8) (PR.b pr_int)) (pa_cons' (pr_ixx (pb_var 8) (PR.b pr_int)) (pa_cons' (pr_ixx (pb_var 8) (PR.b pr_int)) pa_nil'))))) {})
    (ps_cons' (ps_asg' 10 sc_law.nd (pr_lst (pa_cons' (pr_dictx T.b_dict (pb_cons (PR.b (pr_sl (pb_var 8) (po_some' pr_int) (po_some' pr_int))) pb_nil)) (pa_cons' (pr_dictx T.b_dict (pb_cons (PR.b (pr_lst (pa_cons' (pr_ixx (pb_var 8) (PR.b pr_int)) (pa_cons' (pr_ixx (pb_var 8) (PR.b pr_int)) pa_nil')))) pb_nil)) (pa_cons' (pr_dictx T.b_dict (pb_cons (PR.b (pr_sl (pb_var 8) po_none' (po_some' pr_int))) pb_nil)) pa_nil')))))
    (ps_one' (ps_if' (pt_not'' (pt_val' (pr_all T.b_all (pb_cons (PR.b (pr_lc (own := [("k", 13)]) sc_law.nd (blkOk_by (by decide +kernel)) (pi_rng1 T.b_range (pa_cons' pr_int pa_nil')) (pg_name' 13 sc_law.nd) pj_nil (pr_call c__law_right (pa_cons' (pr_ixx (pb_var 9) (pb_var 13)) (pa_cons' (pr_var 3) (pa_cons' (pr_ixx (pb_var 10) (pb_var 13)) pa_nil'))) (hk := by omega)))) pb_nil)))) (ps_one' (ps_ret' pr_bl)) ps_nil'))))) ps_nil'))))))))))))
    (ps_cons' (ps_asg' 11 sc_law.nd pr_str)
    (ps_cons' (ps_new' 12 sc_law.nd pn_dnew)
    (ps_cons' (ps_for' (pi_rng1 T.b_range (pa_cons' pr_int pa_nil')) (pg_name' 13 sc_law.nd)
    (ps_one' (ps_subO 12 (pr_sl (pb_var 11) (po_some' (pr_var 13)) (po_some' (pr_add (pb_var 13) (PR.b pr_int)))) (pr_join pr_str (PR.b (pr_lc (own := [("half", 16)]) sc_law.nd (blkOk_by (by decide +kernel)) (pi_anyx (pr_tup (pa_cons' pr_int (pa_cons' pr_int (pa_cons' pr_int (pa_cons' pr_int (pa_cons' pr_int pa_nil'))))))) (pg_name' 16 sc_law.nd) pj_nil (pr_ixx (PR.b pr_str) (PR.b (pr_mod (PR.b (pr_fdiv (pb_var 13) (pb_var 16))) (PR.b pr_int))))))))))
    (ps_frzX 12 (ps_cons' (ps_asg' 14 sc_law.nd (pr_make "Table" (makeOK (k := 5) T.mk_Table T.mi_Table c_PrefixMap___init__) (pa_cons' pr_int (pa_cons' (pr_var 12) pa_nil'))))
    (ps_cons' (ps_if' (pt_w (pw_or' (pt_neX (PR.b (pr_prop (j := 1) (all_cons (propOK T.cls_Table T.pr_Table_targets c_Table_targets) all_nil) (pr_var 14))) (PR.b (pr_sortedX T.b_sorted (pb_cons (PR.b (pr_lc (own := [("k", 13)]) sc_law.nd (blkOk_by (by decide +kernel)) (pi_rng1 T.b_range (pa_cons' pr_int pa_nil')) (pg_name' 13 sc_law.nd) pj_nil (pr_sl (pb_var 11) (po_some' (pr_var 13)) (po_some' (pr_add (pb_var 13) (PR.b pr_int)))))) pb_nil)))) (pw_or1' (pt_neX (PR.b (pr_meth (j := 6) (all_cons (methOK T.cls_Table T.me_Table_lookup c_Table_lookup) all_nil) (pr_var 14) (pa_cons' pr_str pa_nil'))) (PR.b pr_str))))) (ps_one' (ps_ret' pr_bl)) ps_nil')
    (ps_cons' (ps_asg' 15 sc_law.nd (pr_cmethS T.mk_Table (clsOKS (k := 7) T.cm_Table_of c_Table_of) (pa_cons' pr_int (pa_cons' (pr_tup (pa_cons' pr_str (pa_cons' pr_str pa_nil'))) (pa_cons' (pr_tup (pa_cons' pr_str (pa_cons' pr_str pa_nil'))) (pa_cons' (pr_tup (pa_cons' pr_str (pa_cons' pr_str pa_nil'))) (pa_cons' (pr_tup (pa_cons' pr_str (pa_cons' pr_str pa_nil'))) (pa_cons' (pr_tup (pa_cons' pr_str (pa_cons' pr_str pa_nil'))) (pa_cons' (pr_tup (pa_cons' pr_str (pa_cons' pr_str pa_nil'))) (pa_cons' (pr_tup (pa_cons' pr_str (pa_cons' pr_str pa_nil'))) pa_nil'))))))))))
    (ps_one' (ps_ret' (pr_and (pr_eqX (PR.b (pr_prop (j := 1) (all_cons (propOK T.cls_Table T.pr_Table_targets c_Table_targets) all_nil) (pr_var 15))) (PR.b (pr_lst (pa_cons' pr_str (pa_cons' pr_str (pa_cons' pr_str (pa_cons' pr_str (pa_cons' pr_str (pa_cons' pr_str (pa_cons' pr_str pa_nil')))))))))) (pr_one (pr_eqX (PR.b (pr_lenO (j := 1) (all_cons (lenOK T.me_PrefixMap___len__ c_PrefixMap___len__) (all_cons (lenOK T.me_Table___len__ c_PrefixMap___len__) all_nil)) T.b_len (pa_cons' (pr_var 15) pa_nil'))) (PR.b pr_int)))))))))))))))

end
end DL
/-! plain: wishes -/
namespace DL
open PySem L2
/-- an expression gives what is wished -/
def Ev (r : ER) (Q : D → Store → Prop) : Prop := ∃ d s, r = .ok d s ∧ Q d s
theorem Ev.of {r : ER} {Q : D → Store → Prop} {d : D} {s : Store} (h : r = .ok d s) (q : Q d s) : Ev r Q := ⟨d, s, h, q⟩
theorem Ev.imp {r : ER} {P Q : D → Store → Prop} (h : Ev r P) (q : ∀ d s, P d s → Q d s) : Ev r Q := let ⟨d, s, e, p⟩ := h; ⟨d, s, e, q d s p⟩
@[simp] theorem Ev.ok {d : D} {s : Store} {Q : D → Store → Prop} : Ev (.ok d s) Q ↔ Q d s := ⟨fun ⟨_, _, e, q⟩ => by cases e; exact q, fun q => ⟨_, _, rfl, q⟩⟩
@[simp] theorem Ev.bind {r : ER} {f : D → Store → ER} {Q : D → Store → Prop} : Ev (r.bind f) Q ↔ Ev r fun d s => Ev (f d s) Q := by
  constructor
  · intro h
    cases r with
    | ok d s => exact Ev.ok.mpr h
    | err x s => obtain ⟨d, s', e, _⟩ := h; cases e
    | no => obtain ⟨d, s', e, _⟩ := h; cases e
  · intro h
    obtain ⟨d, s, rfl, q⟩ := h; exact q
/-- what is wished behind a statement -/
structure Ws where
  nx : DEnv → Store → Prop := fun _ _ => False
  rt : D → Store → Prop := fun _ _ => False
  bk : DEnv → Store → Prop := fun _ _ => False
  ct : DEnv → Store → Prop := fun _ _ => False
  er : Xn → DEnv → Store → Prop := fun _ _ _ => False
inductive Rn : SR → Ws → Prop
  | nx {Γ : DEnv} {s : Store} {w : Ws} (h : w.nx Γ s) : Rn (.nx Γ s) w
  | ret {d : D} {s : Store} {w : Ws} (h : w.rt d s) : Rn (.ret d s) w
  | bk {Γ : DEnv} {s : Store} {w : Ws} (h : w.bk Γ s) : Rn (.bk Γ s) w
  | ct {Γ : DEnv} {s : Store} {w : Ws} (h : w.ct Γ s) : Rn (.ct Γ s) w
  | err {x : Xn} {Γ : DEnv} {s : Store} {w : Ws} (h : w.er x Γ s) : Rn (.err x Γ s) w
section
variable {Γ : DEnv} {st s : Store} {w : Ws} {a b : SM} {m mi mc me mo mt : EM} {i j : Nat}
theorem Rn.imp {r : SR} {w' : Ws} (h : Rn r w) (h1 : ∀ Γ s, w.nx Γ s → w'.nx Γ s) (h2 : ∀ d s, w.rt d s → w'.rt d s) (h3 : ∀ Γ s, w.bk Γ s → w'.bk Γ s) (h4 : ∀ Γ s, w.ct Γ s → w'.ct Γ s) (h5 : ∀ x Γ s, w.er x Γ s → w'.er x Γ s) : Rn r w' := by
  cases h with
  | nx h => exact .nx (h1 _ _ h)
  | ret h => exact .ret (h2 _ _ h)
  | bk h => exact .bk (h3 _ _ h)
  | ct h => exact .ct (h4 _ _ h)
  | err h => exact .err (h5 _ _ _ h)
theorem Rn.of {r : SR} (h : r = .nx Γ s) (q : w.nx Γ s) : Rn r w := by subst h; exact .nx q
theorem w_seq (h : Rn (a Γ st) { w with nx := fun Γ' s => Rn (b Γ' s) w }) : Rn (sSeq a b Γ st) w := by
  show Rn ((a Γ st).bind b) w
  generalize a Γ st = r at h
  cases h with
  | nx h => exact h
  | ret h => exact .ret h
  | bk h => exact .bk h
  | ct h => exact .ct h
  | err h => exact .err h
theorem w_skip (h : w.nx Γ st) : Rn (sSkip Γ st) w := .nx h
theorem w_ev {f : D → Store → SR} (h : Ev (m Γ st) fun d s => Rn (f d s) w) : Rn ((m Γ st).bs Γ f) w := by
  obtain ⟨d, s, e, q⟩ := h
  rw [e]; exact q
theorem w_asg (h : Ev (m Γ st) fun d s => w.nx (Γ.set i (.sh d)) s) : Rn (sAsg i m Γ st) w := w_ev (h.imp fun _ _ q => .nx q)
theorem w_new (h : Ev (m Γ st) fun d s => w.nx (Γ.set i (.ow d)) s) : Rn (sNew i m Γ st) w := w_ev (h.imp fun _ _ q => .nx q)
theorem w_ret (h : Ev (m Γ st) fun d s => w.rt d s) : Rn (sRet m Γ st) w := w_ev (h.imp fun _ _ q => .ret q)
/-- assignment of a value that is known, then the rest -/
theorem w_as {d : D} (e : m Γ st = .ok d s) (h : Rn (b (Γ.set i (.sh d)) s) w) : Rn (sSeq (sAsg i m) b Γ st) w := w_seq (w_asg (Ev.of e h))
theorem w_if {c : Bool} (hc : mc Γ st = .ok (.bl c) s) (h : Rn ((if c = true then a else b) Γ s) w) : Rn (sIf mc a b Γ st) w := by
  refine w_ev (Ev.of hc ?_)
  cases c with
  | true => exact h
  | false => exact h
theorem w_ifT (hc : mc Γ st = .ok (.bl true) s) (h : Rn (a Γ s) w) : Rn (sIf mc a b Γ st) w := w_if hc h
theorem w_ifF (hc : mc Γ st = .ok (.bl false) s) (h : Rn (b Γ s) w) : Rn (sIf mc a b Γ st) w := w_if hc h
theorem w_frzX (h : Rn (a (frzX i Γ) st) w) : Rn (sFrzX i a Γ st) w := h
theorem w_app {xs : List D} (hi : Γ[i]? = some (.ow (.lst xs))) (hl : xs.length < 16777216) (h : Ev (m Γ st) fun d s => w.nx (Γ.set i (.ow (.lst (xs ++ [d])))) s) : Rn (sApp i m Γ st) w := by
  obtain ⟨d, s, e, q⟩ := h
  unfold sApp
  rw [hi, e]
  show Rn (if xs.length < 16777216 then .nx (Γ.set i (.ow (.lst (xs ++ [d])))) s else .no) w
  rw [if_pos hl]; exact .nx q
@[simp] theorem eKw_ap {n k : Nat} {ix : List Nat} {dl : List D} {ms mk : EM} : eKw n k ix dl ms mk Γ st = (ms Γ st).bind fun d s => match d with
  | .tup ds => (mk Γ s).bind fun e s2 => match e with
    | .tup es => if ds.length = n ∧ es.length = k then .ok (.tup (pk ix (ds ++ es ++ dl))) s2 else .no
    | _ => .no
  | _ => .no := rfl
@[simp] theorem pk_n {α : Type} (l : List α) : pk [] l = [] := rfl
@[simp] theorem pk_c {α : Type} {i : Nat} {ix : List Nat} {l : List α} : pk (i :: ix) l = match l[i]? with | some x => x :: pk ix l | none => pk ix l := by
  cases h : l[i]? with
  | none => exact pk_cons_none h
  | some x => exact pk_cons_some h
@[simp] theorem sFrzX_ap : sFrzX i a Γ st = a (frzX i Γ) st := rfl
@[simp] theorem frzX_own {d : D} (h : Γ[i]? = some (.ow d)) : frzX i Γ = Γ.set i (.sh d) := by unfold frzX; rw [h]
/-- a for by an invariant -/
theorem forL_w {α : Type} {ι : α → D} {g : GM} {l : List α} {w : Ws} (I : Nat → DEnv → Store → Prop)
    (hs : ∀ (j : Nat) (x : α), l[j]? = some x → ∀ Γ st, I j Γ st → ∃ Γ1, g (ι x) Γ = some Γ1 ∧ Rn (b Γ1 st) { nx := I (j + 1), ct := I (j + 1), bk := w.nx, rt := w.rt, er := w.er })
    (hd : ∀ Γ st, I l.length Γ st → w.nx Γ st) : ∀ (es : List α) (j : Nat) (Γ : DEnv) (st : Store), l.drop j = es → j + es.length = l.length → I j Γ st → Rn (forL g b (es.map ι) Γ st) w := by
  intro es
  induction es with
  | nil =>
    intro j Γ st e q i
    have : j = l.length := by simpa using q
    subst this; exact .nx (hd _ _ i)
  | cons d es ih =>
    intro j Γ st e q i
    have hj : l[j]? = some d := by
      have := congrArg List.head? e
      simpa [List.head?_drop] using this
    obtain ⟨Γ1, g1, r⟩ := hs j d hj Γ st i
    have e2 : l.drop (j + 1) = es := by rw [← List.drop_drop, e]; rfl
    have q2 : j + 1 + es.length = l.length := by simp at q; omega
    rw [List.map_cons]
    unfold forL
    rw [g1]
    dsimp only
    generalize b Γ1 st = rb at r
    cases r with
    | nx r => exact ih (j + 1) _ _ e2 q2 r
    | ct r => exact ih (j + 1) _ _ e2 q2 r
    | bk r => exact .nx (by exact r)
    | ret r => exact .ret r
    | err r => exact .err r
theorem w_for {α : Type} (ι : α → D) (l : List α) {g : GM} (I : Nat → DEnv → Store → Prop) (hm : mi Γ st = .ok (.tup (l.map ι)) s) (h0 : I 0 Γ s)
    (hs : ∀ (j : Nat) (x : α), l[j]? = some x → ∀ Γ st, I j Γ st → ∃ Γ1, g (ι x) Γ = some Γ1 ∧ Rn (b Γ1 st) { nx := I (j + 1), ct := I (j + 1), bk := w.nx, rt := w.rt, er := w.er })
    (hd : ∀ Γ st, I l.length Γ st → w.nx Γ st) : Rn (sFor mi g b Γ st) w :=
  w_ev (Ev.of hm (forL_w I hs hd l 0 Γ s rfl (by simp) h0))
theorem rng_upto (n : Nat) : rng 0 1 n = (List.range n).map fun j : Nat => D.int (j : Int) := by
  refine List.ext_getElem? fun j => ?_
  by_cases h : j < n
  · rw [rng_get h, List.getElem?_map, List.getElem?_range h]; simp
  · rw [List.getElem?_eq_none (by rw [rng_length]; omega), List.getElem?_eq_none (by simp; omega)]
theorem rng1 {ma : EM} {n : Nat} (h : ma Γ st = .ok (.tup [.int n]) s) (hn : n < 4294967296 := by omega) : eRng1 ma Γ st = .ok (.tup ((List.range n).map fun j : Nat => D.int (j : Int))) s := by
  rw [eRng1_n h hn, rng_upto]
/-- for k in range(n) -/
theorem w_rng {g : GM} {ma : EM} (n : Nat) (I : Nat → DEnv → Store → Prop) (hm : ma Γ st = .ok (.tup [.int n]) s) (hn : n < 4294967296) (h0 : I 0 Γ s)
    (hs : ∀ (j : Nat), j < n → ∀ Γ st, I j Γ st → ∃ Γ1, g (.int j) Γ = some Γ1 ∧ Rn (b Γ1 st) { nx := I (j + 1), ct := I (j + 1), bk := w.nx, rt := w.rt, er := w.er })
    (hd : ∀ Γ st, I n Γ st → w.nx Γ st) : Rn (sFor (eRng1 ma) g b Γ st) w :=
  w_for (fun j : Nat => .int (j : Int)) (List.range n) I (rng1 hm hn) h0 (fun j x hx Γ st i => by
    have hj : j < n := by have := getElem?_lt hx; simpa using this
    rw [List.getElem?_range hj] at hx
    cases hx; exact hs j hj Γ st i) (fun Γ st i => hd Γ st (by simpa using i))
/-- a comprehension with a test, that changes nothing -/
theorem lcL_filt {α : Type} {ι : α → D} {g : GM} {mt me : EM} {p : α → Bool} {f : α → D} : ∀ {l : List α}, (∀ x ∈ l, ∃ Γ1, g (ι x) Γ = some Γ1 ∧ mt Γ1 st = .ok (.bl (p x)) st ∧ (p x = true → me Γ1 st = .ok (f x) st)) →
    ∀ acc, acc.length + l.length ≤ 16777216 → lcL g mt me (l.map ι) Γ st acc = .ok (.lst (acc ++ (l.filter p).map f)) st
  | [], _, acc, _ => by simp [lcL]
  | x :: l, h, acc, hl => by
    obtain ⟨Γ1, h1, h2, h3⟩ := h x List.mem_cons_self
    have hlt : acc.length < 16777216 := by simp at hl; omega
    have ih := fun acc q => lcL_filt (l := l) (fun y hy => h y (List.mem_cons_of_mem _ hy)) acc q
    rw [List.map_cons]
    unfold lcL
    rw [h1]
    dsimp only
    rw [h2]
    cases hp : p x with
    | true =>
      dsimp only
      rw [h3 hp]
      dsimp only
      rw [if_pos hlt, ih (acc ++ [f x]) (by simp at hl ⊢; omega)]
      simp [List.filter_cons, hp]
    | false =>
      dsimp only
      rw [ih acc (by simp at hl ⊢; omega)]
      simp [List.filter_cons, hp]
theorem lc_filt {α : Type} (ι : α → D) (l : List α) (p : α → Bool) (f : α → D) {vs : List Nat} {g : GM} (hm : mi Γ st = .ok (.tup (l.map ι)) s) (hl : l.length ≤ 16777216)
    (h : ∀ x ∈ l, ∃ Γ1, g (ι x) (wipeE Γ vs) = some Γ1 ∧ mt Γ1 s = .ok (.bl (p x)) s ∧ (p x = true → me Γ1 s = .ok (f x) s)) : eLc vs mi g mt me Γ st = .ok (.lst ((l.filter p).map f)) s := by
  rw [eLc_of hm, lcL_filt h [] (by simpa using hl)]; rfl
theorem lc_map {α : Type} (ι : α → D) (l : List α) (f : α → D) {vs : List Nat} {g : GM} (hm : mi Γ st = .ok (.tup (l.map ι)) s) (hl : l.length ≤ 16777216)
    (h : ∀ x ∈ l, ∃ Γ1, g (ι x) (wipeE Γ vs) = some Γ1 ∧ me Γ1 s = .ok (f x) s) : eLc vs mi g eYes me Γ st = .ok (.lst (l.map f)) s := by
  have := lc_filt ι l (fun _ => true) f (mt := eYes) (me := me) (vs := vs) (g := g) hm hl (fun x hx => let ⟨Γ1, a, b⟩ := h x hx; ⟨Γ1, a, rfl, fun _ => b⟩)
  rw [this, List.filter_eq_self.mpr (fun _ _ => rfl)]
/-- a comprehension that draws -/
theorem lcL_gen {α β : Type} {ι : α → D} {κ : β → D} {R : α → β → Prop} {g : GM} {me : EM} : ∀ {l : List α} (I : Nat → Store → Prop), (∀ (j : Nat) (x : α), l[j]? = some x → ∀ st, I j st → ∃ Γ1, g (ι x) Γ = some Γ1 ∧ Ev (me Γ1 st) fun d s => ∃ y, d = κ y ∧ R x y ∧ I (j + 1) s) →
    ∀ st acc, I 0 st → acc.length + l.length ≤ 16777216 → ∃ ys st', lcL g eYes me (l.map ι) Γ st acc = .ok (.lst (acc ++ ys.map κ)) st' ∧ I l.length st' ∧ Paired R l ys
  | [], I, _, st, acc, i, _ => ⟨[], st, by simp [lcL], i, .nil⟩
  | x :: l, I, h, st, acc, i, hl => by
    obtain ⟨Γ1, h1, d, st2, h2, y, rfl, r, i2⟩ := h 0 x rfl st i
    obtain ⟨ys, st', h3, i3, e3⟩ := lcL_gen (l := l) (fun j => I (j + 1)) (fun j d hd => h (j + 1) d hd) st2 (acc ++ [κ y]) i2 (by simp at hl ⊢; omega)
    have hlt : acc.length < 16777216 := by simp at hl; omega
    refine ⟨y :: ys, st', ?_, i3, .cons r e3⟩
    rw [List.map_cons]
    unfold lcL
    rw [h1]
    show (match me Γ1 st with | .ok x s2 => (if acc.length < 16777216 then lcL g eYes me (l.map ι) Γ s2 (acc ++ [x]) else .no) | _ => .no) = _
    rw [h2]
    show (if acc.length < 16777216 then lcL g eYes me (l.map ι) Γ st2 (acc ++ [κ y]) else .no) = _
    rw [if_pos hlt, h3]; simp
theorem e_lc {α β : Type} (ι : α → D) (κ : β → D) (l : List α) (R : α → β → Prop) (I : Nat → Store → Prop) {vs : List Nat} {g : GM} {Q : D → Store → Prop} (hm : mi Γ st = .ok (.tup (l.map ι)) s) (hl : l.length ≤ 16777216) (h0 : I 0 s)
    (h : ∀ (j : Nat) (x : α), l[j]? = some x → ∀ st, I j st → ∃ Γ1, g (ι x) (wipeE Γ vs) = some Γ1 ∧ Ev (me Γ1 st) fun d s => ∃ y, d = κ y ∧ R x y ∧ I (j + 1) s)
    (hq : ∀ ys s', Paired R l ys → I l.length s' → Q (.lst (ys.map κ)) s') : Ev (eLc vs mi g eYes me Γ st) Q := by
  obtain ⟨ys, s', e, i, r⟩ := lcL_gen I h s [] h0 (by simpa using hl)
  exact ⟨_, _, by rw [eLc_of hm, e]; rfl, hq ys s' r i⟩
theorem e_rng {β : Type} {ma : EM} (κ : β → D) (n : Nat) (R : Nat → β → Prop) (I : Nat → Store → Prop) {vs : List Nat} {g : GM} {Q : D → Store → Prop} (hm : ma Γ st = .ok (.tup [.int n]) s) (hl : n ≤ 16777216) (h0 : I 0 s)
    (h : ∀ (j : Nat), j < n → ∀ st, I j st → ∃ Γ1, g (.int (j : Int)) (wipeE Γ vs) = some Γ1 ∧ Ev (me Γ1 st) fun d s => ∃ y, d = κ y ∧ R j y ∧ I (j + 1) s)
    (hq : ∀ ys s', Paired R (List.range n) ys → I n s' → Q (.lst (ys.map κ)) s') : Ev (eLc vs (eRng1 ma) g eYes me Γ st) Q :=
  e_lc (fun j : Nat => .int (j : Int)) κ (List.range n) R I (rng1 hm (by omega)) (by simpa using hl) h0 (fun j x hx st i => by
    have hj : j < n := by have := getElem?_lt hx; simpa using this
    rw [List.getElem?_range hj] at hx
    cases hx; exact h j hj st i) (fun ys s' r i => hq ys s' r (by simpa using i))
theorem pd_len {α β : Type} {R : α → β → Prop} {l : List α} {ys : List β} (h : Paired R l ys) : ys.length = l.length := by
  induction h with
  | nil => rfl
  | cons _ _ ih => simp [ih]
theorem pd_all {α β : Type} {R : α → β → Prop} {l : List α} {ys : List β} (h : Paired R l ys) : ∀ y ∈ ys, ∃ x ∈ l, R x y := by
  induction h with
  | nil => intro y hy; simp at hy
  | cons r _ ih =>
    intro y hy
    rcases List.mem_cons.mp hy with rfl | hy
    · exact ⟨_, List.mem_cons_self, r⟩
    · obtain ⟨x, hx, r⟩ := ih y hy
      exact ⟨x, List.mem_cons_of_mem _ hx, r⟩
theorem pd_map {α β γ : Type} {R : α → β → Prop} {f : β → γ} {h : α → γ} {l : List α} {ys : List β} (p : Paired R l ys) (q : ∀ x y, R x y → f y = h x) : ys.map f = l.map h := by
  induction p with
  | nil => rfl
  | cons r _ ih => simp [ih, q _ _ r]
theorem e_b1 {f : List D → Store → ER} {Q : D → Store → Prop} (h : Ev (m Γ st) fun d s => Ev (f [deref s d] s) Q) : Ev (eB f (eCons m eNil) Γ st) Q := by
  obtain ⟨d, s, e, q⟩ := h
  show Ev (((m Γ st).bind fun d s => (eNil Γ s).bind fun r s2 => match r with | .tup ds => .ok (.tup (d :: ds)) s2 | _ => .no).bind fun d s => match d with | .tup ds => f (ds.map (deref s)) s | _ => .no) Q
  rw [e]; exact q
/-- a call -/
theorem fin_rt {r : SR} {Q : D → Store → Prop} (h : Rn r { rt := Q, nx := fun _ s => Q .non s }) : Ev (fin r) Q := by
  cases h with
  | nx h => exact ⟨_, _, rfl, h⟩
  | ret h => exact ⟨_, _, rfl, h⟩
  | bk h => exact h.elim
  | ct h => exact h.elim
  | err h => exact h.elim
/-- a call, its first frame written out -/
theorem e_runΓ {N ps : List Str} {m : SM} {ds : List D} {Q : D → Store → Prop} (Γ : DEnv) (hi : initE N ds = Γ) (hl : ds.length = ps.length) (h : Rn (m Γ st) { rt := Q, nx := fun _ s => Q .non s }) : Ev (run N ps m ds st) Q := by
  subst hi
  unfold run
  rw [if_pos hl]
  exact fin_rt h
theorem e_run {N ps : List Str} {m : SM} {ds : List D} {Q : D → Store → Prop} (hl : ds.length = ps.length) (h : Rn (m (initE N ds) st) { rt := Q, nx := fun _ s => Q .non s }) : Ev (run N ps m ds st) Q := by
  unfold run
  rw [if_pos hl]
  exact fin_rt h
end
end DL
/-! plain: dicts of texts -/
namespace DL
open PySem L2
abbrev KV := List (Str × D)
def Fd (l : KV) : List (Key × D) := l.map fun p => (.inr p.1, p.2)
def ks (l : KV) : List Str := l.map (·.1)
def valS (l : KV) (k : Str) : Option D := (l.find? fun p => decide (p.1 = k)).map (·.2)
def putS (l : KV) (k : Str) (v : D) : KV := if k ∈ ks l then l.map (fun p => if p.1 = k then (p.1, v) else p) else l ++ [(k, v)]
def mergeS (l m : KV) : KV := m.foldl (fun a p => putS a p.1 p.2) l
theorem inr_eq {a b : Str} : ((.inr a : Key) = .inr b) ↔ a = b := ⟨fun h => by cases h; rfl, fun h => by rw [h]⟩
theorem mem_ks {l : KV} {k : Str} : k ∈ ks l ↔ ∃ v, (k, v) ∈ l := by unfold ks; simp
theorem Fd_any (l : KV) (k : Str) : ((Fd l).any fun kv => decide (kv.1 = (.inr k : Key))) = decide (k ∈ ks l) := by
  unfold Fd ks
  rw [List.any_map, Bool.eq_iff_iff]
  simp only [List.any_eq_true, Function.comp, decide_eq_true_eq, List.mem_map]
  constructor
  · rintro ⟨p, h, e⟩; exact ⟨p, h, inr_eq.mp e⟩
  · rintro ⟨p, h, e⟩; exact ⟨p, h, inr_eq.mpr e⟩
theorem Fd_has (l : KV) (k : Str) : hasK (Fd l) (.inr k) = decide (k ∈ ks l) := Fd_any l k
theorem Fd_put (l : KV) (k : Str) (v : D) : putD (Fd l) (.inr k) v = Fd (putS l k v) := by
  unfold putD putS
  rw [Fd_any]
  by_cases h : k ∈ ks l
  · rw [if_pos (by simpa using h), if_pos h]
    unfold Fd
    rw [List.map_map, List.map_map]
    refine List.map_congr_left fun p _ => ?_
    by_cases e : p.1 = k
    · simp [e]
    · simp [e, inr_eq]
  · rw [if_neg (by simpa using h), if_neg h]
    unfold Fd
    simp
theorem Fd_merge : ∀ (m l : KV), mergeD (Fd l) (Fd m) = Fd (mergeS l m)
  | [], l => rfl
  | p :: m, l => by
    show mergeD (putD (Fd l) (.inr p.1) p.2) (Fd m) = _
    rw [Fd_put, Fd_merge m]; rfl
theorem Fd_val (l : KV) (k : Str) : valD (Fd l) (.inr k) = valS l k := by
  unfold valD valS Fd
  induction l with
  | nil => rfl
  | cons p l ih =>
    rw [List.map_cons, List.find?_cons, List.find?_cons]
    by_cases e : p.1 = k
    · simp [e]
    · simp only [inr_eq, e, decide_false]; exact ih
theorem Fd_keys (l : KV) : (Fd l).map (fun p => kD p.1) = (ks l).map .str := by unfold Fd ks; rw [List.map_map, List.map_map]; rfl
theorem keyTs_Fd : ∀ l : KV, keyTs (Fd l) = some (ks l)
  | [] => rfl
  | p :: l => by
    show (keyTs (Fd l)).map (p.1 :: ·) = _
    rw [keyTs_Fd l]; rfl
def pD (p : Str × D) : D := .tup [.str p.1, p.2]
theorem pairsD_Fd : ∀ l : KV, pairsD (l.map pD) = some (Fd l)
  | [] => rfl
  | p :: l => by
    show (match keyD (.str p.1), pairsD (l.map pD) with | some k, some ps => some ((k, p.2) :: ps) | _, _ => none) = _
    rw [pairsD_Fd l]; rfl
theorem Fd_len (l : KV) : (Fd l).length = l.length := by unfold Fd; simp
theorem ks_len (l : KV) : (ks l).length = l.length := by unfold ks; simp
/-! putting -/
theorem putS_ks (l : KV) (k : Str) (v : D) : ks (putS l k v) = if k ∈ ks l then ks l else ks l ++ [k] := by
  unfold putS
  by_cases h : k ∈ ks l
  · rw [if_pos h, if_pos h]
    unfold ks
    rw [List.map_map]
    refine List.map_congr_left fun p _ => ?_
    by_cases e : p.1 = k <;> simp [e]
  · rw [if_neg h, if_neg h]
    unfold ks; simp
theorem putS_mem (l : KV) (k q : Str) (v : D) : q ∈ ks (putS l k v) ↔ q = k ∨ q ∈ ks l := by
  rw [putS_ks]
  by_cases h : k ∈ ks l
  · rw [if_pos h]; exact ⟨.inr, fun e => e.elim (fun e => e ▸ h) id⟩
  · rw [if_neg h]; simp; exact ⟨fun e => e.symm, fun e => e.symm⟩
theorem putS_nd {l : KV} (h : (ks l).Nodup) (k : Str) (v : D) : (ks (putS l k v)).Nodup := by
  rw [putS_ks]
  by_cases q : k ∈ ks l
  · rw [if_pos q]; exact h
  · rw [if_neg q]; exact List.nodup_append.mpr ⟨h, by simp, fun a ha b hb => by simp at hb; subst hb; exact fun z => q (z ▸ ha)⟩
theorem putS_len (l : KV) (k : Str) (v : D) : (putS l k v).length ≤ l.length + 1 := by
  unfold putS
  split <;> simp
theorem putS_all {P : Str × D → Prop} {l : KV} {k : Str} {v : D} (h : ∀ p ∈ l, P p) (q : P (k, v)) : ∀ p ∈ putS l k v, P p := by
  unfold putS
  split
  · intro p hp
    obtain ⟨r, hr, rfl⟩ := List.mem_map.mp hp
    by_cases e : r.1 = k
    · rw [if_pos e, e]; exact q
    · rw [if_neg e]; exact h r hr
  · intro p hp
    rcases List.mem_append.mp hp with hp | hp
    · exact h p hp
    · simp at hp; subst hp; exact q
theorem putS_new {l : KV} {k : Str} {v : D} (h : k ∉ ks l) : putS l k v = l ++ [(k, v)] := if_neg h
theorem valS_none {l : KV} {k : Str} : valS l k = none ↔ k ∉ ks l := by
  unfold valS ks
  rw [Option.map_eq_none_iff, List.find?_eq_none]
  simp only [decide_eq_true_eq, List.mem_map, not_exists, not_and]
theorem valS_some {l : KV} {k : Str} (h : k ∈ ks l) : ∃ v, valS l k = some v ∧ (k, v) ∈ l := by
  unfold valS
  cases e : l.find? fun p => decide (p.1 = k) with
  | none =>
    rw [List.find?_eq_none] at e
    obtain ⟨v, hv⟩ := mem_ks.mp h
    exact absurd (e _ hv) (by simp)
  | some p =>
    have h1 := List.mem_of_find?_eq_some e
    have h2 : p.1 = k := by simpa using List.find?_some e
    subst h2
    exact ⟨p.2, rfl, h1⟩
theorem valS_of {l : KV} (nd : (ks l).Nodup) {k : Str} {v : D} (h : (k, v) ∈ l) : valS l k = some v := by
  obtain ⟨u, e, m⟩ := valS_some (mem_ks.mpr ⟨v, h⟩)
  rw [e]
  have : ∀ {l : KV}, (ks l).Nodup → (k, u) ∈ l → (k, v) ∈ l → u = v := by
    intro l
    induction l with
    | nil => intro _ h; simp at h
    | cons p l ih =>
      intro nd a b
      have nd' : p.1 ∉ ks l ∧ (ks l).Nodup := List.nodup_cons.mp nd
      rcases List.mem_cons.mp a with rfl | a'
      · rcases List.mem_cons.mp b with e | b'
        · cases e; rfl
        · exact absurd (mem_ks.mpr ⟨_, b'⟩) nd'.1
      · rcases List.mem_cons.mp b with rfl | b'
        · exact absurd (mem_ks.mpr ⟨_, a'⟩) nd'.1
        · exact ih nd'.2 a' b'
  rw [this nd m h]
theorem valS_put (l : KV) (k q : Str) (v : D) : valS (putS l k v) q = if q = k then some v else valS l q := by
  unfold putS
  by_cases h : k ∈ ks l
  · rw [if_pos h]
    unfold valS
    induction l with
    | nil => simp [ks] at h
    | cons p l ih =>
      rw [List.map_cons, List.find?_cons, List.find?_cons]
      by_cases e : p.1 = k
      · rw [if_pos e]
        by_cases e2 : q = k
        · subst e2; simp [e]
        · have n1 : ¬ p.1 = q := fun z => e2 (z.symm.trans e)
          simp only [n1, decide_false, if_neg e2]
          by_cases h' : k ∈ ks l
          · rw [ih h', if_neg e2]
          · congr 2
            have : ∀ p ∈ l, (if p.1 = k then (p.1, v) else p) = p := fun r hr => if_neg fun z => h' (mem_ks.mpr ⟨r.2, by rw [← z]; exact hr⟩)
            rw [List.map_congr_left this]; simp
      · rw [if_neg e]
        have h' : k ∈ ks l := by
          rcases List.mem_cons.mp h with z | z
          · exact absurd z.symm e
          · exact z
        by_cases e3 : p.1 = q
        · have n2 : ¬ q = k := fun z => e (e3.trans z)
          simp [e3, n2]
        · simp only [e3, decide_false]; exact ih h'
  · rw [if_neg h]
    unfold valS
    rw [List.find?_append]
    by_cases e : q = k
    · subst e
      have : valS l q = none := valS_none.mpr h
      unfold valS at this
      rw [Option.map_eq_none_iff] at this
      rw [this]; simp
    · have n : ¬ k = q := fun z => e z.symm
      rw [if_neg e]
      cases l.find? fun p => decide (p.1 = q) <;> simp [n]
/-! merging -/
theorem mergeS_new : ∀ {m l : KV}, (ks (l ++ m)).Nodup → mergeS l m = l ++ m
  | [], l, _ => by simp [mergeS]
  | p :: m, l, h => by
    have e : ks (l ++ p :: m) = ks l ++ p.1 :: ks m := by simp [ks]
    have hn : p.1 ∉ ks l := fun z => by
      rw [e] at h
      exact (List.nodup_append.mp h).2.2 _ z _ List.mem_cons_self rfl
    show mergeS (putS l p.1 p.2) m = _
    rw [putS_new hn, mergeS_new (by rw [List.append_assoc]; exact h)]; simp
theorem mergeS_nil {m : KV} (h : (ks m).Nodup) : mergeS [] m = m := mergeS_new h
/-! in order -/
def ordS (l : KV) : KV := (srtS (ks l)).map fun k => (k, (valS l k).getD .non)
theorem ordS_ks (l : KV) : ks (ordS l) = srtS (ks l) := by
  have : ks (ordS l) = (srtS (ks l)).map id := by unfold ordS ks; rw [List.map_map]; rfl
  rw [this, List.map_id]
theorem ordS_mem (l : KV) (k : Str) : k ∈ ks (ordS l) ↔ k ∈ ks l := by rw [ordS_ks]; exact (srtS_perm _).mem_iff
theorem ordS_nd {l : KV} (h : (ks l).Nodup) : (ks (ordS l)).Nodup := by rw [ordS_ks]; exact (srtS_perm _).nodup_iff.mpr h
theorem ordS_len (l : KV) : (ordS l).length = l.length := by
  unfold ordS
  rw [List.length_map, (srtS_perm _).length_eq, ks_len]
theorem ordS_val {l : KV} (h : (ks l).Nodup) (k : Str) : valS (ordS l) k = valS l k := by
  by_cases q : k ∈ ks l
  · obtain ⟨v, e, m⟩ := valS_some q
    rw [e]
    refine valS_of (ordS_nd h) (List.mem_map.mpr ⟨k, (srtS_perm _).mem_iff.mpr q, by rw [e]; rfl⟩)
  · rw [valS_none.mpr q, valS_none.mpr fun z => q ((ordS_mem l k).mp z)]
theorem ordS_all {P : Str × D → Prop} {l : KV} (h : ∀ p ∈ l, P p) : ∀ p ∈ ordS l, P p := fun p hp => by
  obtain ⟨k, hk, rfl⟩ := List.mem_map.mp hp
  obtain ⟨v, e, m⟩ := valS_some ((srtS_perm _).mem_iff.mp hk)
  rw [e]; exact h _ m
/-! dict comprehensions over texts -/
section
variable {Γ : DEnv} {st s : Store} {mi mt mk me : EM} {vs : List Nat} {g : GM}
theorem dcL_filt {α : Type} {ι : α → D} {p : α → Bool} {kf : α → Str} {f : α → D} : ∀ {l : List α}, (∀ x ∈ l, ∃ Γ1, g (ι x) Γ = some Γ1 ∧ mt Γ1 st = .ok (.bl (p x)) st ∧ (p x = true → mk Γ1 st = .ok (.str (kf x)) st ∧ me Γ1 st = .ok (f x) st)) →
    ∀ acc : KV, acc.length + l.length ≤ 16777216 → dcL g mt mk me (l.map ι) Γ st (Fd acc) = .ok (.dct (Fd (mergeS acc ((l.filter p).map fun x => (kf x, f x))))) st
  | [], _, acc, _ => by simp [dcL, mergeS]
  | x :: l, h, acc, hl => by
    obtain ⟨Γ1, h1, h2, h3⟩ := h x List.mem_cons_self
    have hlt : (Fd acc).length < 16777216 := by rw [Fd_len]; simp at hl; omega
    have ih := fun acc q => dcL_filt (l := l) (fun y hy => h y (List.mem_cons_of_mem _ hy)) acc q
    rw [List.map_cons]
    unfold dcL
    rw [h1]
    dsimp only
    rw [h2]
    cases hp : p x with
    | true =>
      obtain ⟨h4, h5⟩ := h3 hp
      have := putS_len acc (kf x) (f x)
      dsimp only
      rw [h4]
      dsimp only [keyD]
      rw [h5]
      dsimp only
      rw [if_pos hlt, Fd_put, ih _ (by simp at hl ⊢; omega), List.filter_cons_of_pos hp]; rfl
    | false =>
      dsimp only
      rw [ih acc (by simp at hl ⊢; omega), List.filter_cons_of_neg (by simp [hp])]
theorem dc_filt {α : Type} (ι : α → D) (l : List α) (p : α → Bool) (kf : α → Str) (f : α → D) (hm : mi Γ st = .ok (.tup (l.map ι)) s) (hl : l.length ≤ 16777216)
    (h : ∀ x ∈ l, ∃ Γ1, g (ι x) (wipeE Γ vs) = some Γ1 ∧ mt Γ1 s = .ok (.bl (p x)) s ∧ (p x = true → mk Γ1 s = .ok (.str (kf x)) s ∧ me Γ1 s = .ok (f x) s)) : eDc vs mi g mt mk me Γ st = .ok (.dct (Fd (mergeS [] ((l.filter p).map fun x => (kf x, f x))))) s := by
  rw [eDc_of hm]
  exact dcL_filt h [] (by simpa using hl)
/-- over texts that differ -/
theorem dc_keys (l : List Str) (f : Str → D) (nd : l.Nodup) (hm : mi Γ st = .ok (.tup (l.map .str)) s) (hl : l.length ≤ 16777216)
    (h : ∀ x ∈ l, ∃ Γ1, g (.str x) (wipeE Γ vs) = some Γ1 ∧ mk Γ1 s = .ok (.str x) s ∧ me Γ1 s = .ok (f x) s) : eDc vs mi g eYes mk me Γ st = .ok (.dct (Fd (l.map fun x => (x, f x)))) s := by
  rw [dc_filt .str l (fun _ => true) id f (mt := eYes) hm hl (fun x hx => let ⟨Γ1, a, b, c⟩ := h x hx; ⟨Γ1, a, rfl, fun _ => ⟨b, c⟩⟩)]
  rw [List.filter_eq_self.mpr (fun _ _ => rfl), mergeS_nil]
  · rfl
  · have : ks (l.map fun x => (id x, f x)) = l.map id := by unfold ks; rw [List.map_map]; rfl
    rw [this, List.map_id]; exact nd
end
theorem eSortSet_dd {m : EM} {Γ : DEnv} {st s : Store} {xs : List Str} (h : m Γ st = .ok (.lst (xs.map .str)) s) (hl : (ddp xs).length + 1 < 4096) : eSortSet m Γ st = .ok (.lst ((sset xs).map .str)) s := by
  unfold eSortSet
  rw [h, ok_bind]
  obtain ⟨ys, e1, e2⟩ := strs_of (xs := xs.map .str) (fun x hx => let ⟨y, _, e⟩ := List.mem_map.mp hx; ⟨y, e.symm⟩)
  have : ys = xs := by
    have := e2.symm
    exact (List.map_inj_right fun a b h => by cases h; rfl).mp this
  subst this
  simp only [deref_lst, e1]
  exact if_pos hl
theorem eSortSet_strs {m : EM} {Γ : DEnv} {st s : Store} {xs : List Str} (h : m Γ st = .ok (.lst (xs.map .str)) s) (hl : xs.length + 1 < 4096) : eSortSet m Γ st = .ok (.lst ((sset xs).map .str)) s := eSortSet_dd h (by have := ddp_le xs; omega)
theorem strsOf_strs : ∀ xs : List Str, strsOf (xs.map .str) = some xs
  | [] => rfl
  | x :: xs => by simp [strsOf, strsOf_strs xs]
@[simp] theorem bSortedX_s {xs : List Str} {st : Store} : bSortedX [.lst (xs.map .str)] st = .ok (.lst ((srtS xs).map .str)) st := by
  show (match strsOf (xs.map .str) with | some ys => ER.ok (.lst ((srtS ys).map .str)) st | none => .no) = _
  rw [strsOf_strs]
@[simp] theorem bSortedX_F {l : KV} {st : Store} : bSortedX [.dct (Fd l)] st = .ok (.lst ((srtS (ks l)).map .str)) st := by
  show (match keyTs (Fd l) with | some ys => ER.ok (.lst ((srtS ys).map .str)) st | none => .no) = _
  rw [keyTs_Fd]
theorem ddp_len : ∀ (xs : List Str), (ddp xs).length ≤ xs.length := fun xs => by
  suffices h : ∀ (l acc : List Str), (l.foldl ddpS acc).length ≤ acc.length + l.length by simpa [ddp] using h xs []
  intro l
  induction l with
  | nil => intro acc; simp
  | cons x l ih =>
    intro acc
    rw [List.foldl_cons]
    have := ih (ddpS acc x)
    have : (ddpS acc x).length ≤ acc.length + 1 := by unfold ddpS; split <;> simp
    simp only [List.length_cons]; omega
theorem sset_len (xs : List Str) : (sset xs).length ≤ xs.length := by
  unfold sset
  rw [(srtS_perm _).length_eq]; exact ddp_len xs
end DL
/-! plain: pens, bits -/
namespace DL
open PySem L2
/-- a pen -/
def penD (ns : List Int) (i n : Int) (ext : List D) : D := .lst (.lst (ns.map .int) :: .int i :: .int n :: ext)
theorem pyL_ints : ∀ ns : List Int, D.pyL (ns.map .int) = some (ns.map PyData.int)
  | [] => rfl
  | n :: ns => by simp [D.pyL, D.py, pyL_ints ns]
theorem shaped_ints (ns : List Int) : SeqAt.shaped (.list (ns.map PyData.int)) = true := by
  have h1 : ∀ ns : List Int, PyData.canLayAll0 (ns.map PyData.int) = true := fun ns => by induction ns with | nil => rfl | cons n ns ih => simp [PyData.canLayAll0, PyData.canLay0, ih]
  have h2 : ∀ ns : List Int, PyData.depthAll (ns.map PyData.int) = 0 := fun ns => by induction ns with | nil => rfl | cons n ns ih => simp [PyData.depthAll, PyData.depth, ih]
  simp [SeqAt.shaped, PyData.canLay0, h1, PyData.depth, h2]
theorem dEq_ints_nil (ns : List Int) : dEq (.lst (ns.map .int)) (.lst []) = some ns.isEmpty := by
  have h := shaped_ints ns
  have h0 : SeqAt.shaped (.list []) = true := by decide
  cases ns with
  | nil => simp [dEq, sclEq, pyEq, D.py, D.pyL, h0, PyData.eqv, PyData.eqvAll]
  | cons n ns => 
    rw [List.map_cons] at h
    simp [dEq, sclEq, pyEq, D.py, D.pyL, pyL_ints, h, h0, PyData.eqv, PyData.eqvAll]
theorem atI_int (ns : List Int) (j : Int) (h0 : 0 ≤ j) (h1 : j < ns.length) : ∃ c, L2.atI (ns.map D.int) j = some (.int c) := by
  have h2 : j < ((ns.map D.int).length : Nat) := by simpa using h1
  have h3 : j.toNat < (ns.map D.int).length := by omega
  refine ⟨(ns[j.toNat]'(by simpa using h3)), ?_⟩
  unfold L2.atI ixN
  simp [h0, h1]
theorem mod_lt {a b : Int} (h : 0 < b) : 0 ≤ a % b ∧ a % b < b := ⟨Int.emod_nonneg a (by omega), Int.emod_lt_of_pos a h⟩
/-- the pen stands at 0, its script ns; c bounds what was read, e what was appended -/
@[simp, reducible] def ExtOK (ext : List D) (e : Nat) : Prop := ext.length ≤ e ∧ ∀ d ∈ ext, ∃ i, d = .int i
def PenX (ns : List Int) (c : Int) (e : Nat) (r st : Store) : Prop := ∃ i n ext, 0 ≤ i ∧ i ≤ c ∧ ExtOK ext e ∧ st = penD ns i n ext :: r
theorem PenX.mono {ns : List Int} {c c' : Int} {e e' : Nat} {r st : Store} (h : PenX ns c e r st) (hc : c ≤ c') (he : e ≤ e' := by omega) : PenX ns c' e' r st := let ⟨i, n, x, a, b, d, q⟩ := h; ⟨i, n, x, a, Int.le_trans b hc, ⟨Nat.le_trans d.1 he, d.2⟩, q⟩
theorem cutL_60 {ns : List Int} (h : ns.length ≤ 63) : cutL (ns.map D.int) none (some 60) = (ns.take 60).map D.int := by
  unfold cutL HT.sIx
  simp [List.map_take, List.take_take]
theorem atI_01 {k : Int} (h0 : 0 ≤ k) (h1 : k < 2) : ∃ c, (c = 48 ∨ c = 49) ∧ L2.atI ("01" : Str).cps.toList k = some c := by
  have e : ("01" : Str).cps.toList = [48, 49] := by decide +kernel
  rw [e]
  obtain ⟨x, h, m⟩ := atI_of (l := [48, 49]) h0 (by show k < 2; exact h1)
  exact ⟨x, by simpa using m, h⟩

/-! ### texts of bits from the script -/
def Bt (x : Str) : Prop := ∀ c ∈ x.cps.toList, c = 48 ∨ c = 49
theorem Bt.cs {x : Str} (h : Bt x) : Cs x := fun c hc => by have := h c hc; omega
theorem Bt.ok {x : Str} (h : Bt x) : PyData.strOk x = true := strOk_of fun c hc => by have := h c hc; omega
theorem Bt.append {x y : Str} (h : Bt x) (h' : Bt y) : Bt (x ++ y) := fun c hc => by
  have e : (x ++ y).cps.toList = x.cps.toList ++ y.cps.toList := TL.tl_append x y
  rw [e, List.mem_append] at hc
  exact hc.elim (h c) (h' c)
theorem Bt.cut {x : Str} (h : Bt x) (lo hi : Option Int) : Bt (cutS x lo hi) := fun c hc => by
  unfold cutS at hc
  simp only at hc
  exact h c (List.mem_of_mem_drop (List.mem_of_mem_take hc))
instance (x : Str) : Decidable (Bt x) := inferInstanceAs (Decidable (∀ c ∈ x.cps.toList, c = 48 ∨ c = 49))
theorem join_bits {ys : List Str} (hy : ∀ y ∈ ys, ∃ c, (c = 48 ∨ c = 49) ∧ y = sgn c) : (Txt.join "" ys).length = ys.length ∧ Bt (Txt.join "" ys) ∧ (ys.map (·.length)).sum = ys.length := by
  have len1 : ∀ y ∈ ys, y.length = 1 := fun y h => by obtain ⟨c, _, rfl⟩ := hy y h; rfl
  have suml : ∀ zs : List Str, (∀ y ∈ zs, y.length = 1) → (zs.map (·.length)).sum = zs.length := fun zs => by
    induction zs with
    | nil => intro _; rfl
    | cons y zs ih => intro h; rw [List.map_cons, List.sum_cons, h y List.mem_cons_self, ih fun q hq => h q (List.mem_cons_of_mem _ hq), List.length_cons]; omega
  refine ⟨?_, ?_, suml ys len1⟩
  · rw [len_toList, join0, List.length_flatten, List.map_map]
    rw [show List.map (List.length ∘ fun y : Str => y.cps.toList) ys = ys.map (·.length) from List.map_congr_left fun y _ => (len_toList y).symm, suml ys len1]
  · intro c hc
    rw [join0] at hc
    obtain ⟨l, hl', hc⟩ := List.mem_flatten.mp hc
    obtain ⟨y, hy', rfl⟩ := List.mem_map.mp hl'
    obtain ⟨c', h, rfl⟩ := hy y hy'
    have : c = c' := by simpa [sgn] using hc
    omega
theorem kit_all : kitB "str" "str" = some true ∧ kitB "int" "int" = some true ∧ kitB "int" "bool" = some false ∧ kitB "dict" "dict" = some true := by decide +kernel
def bitD (d : D) : Bool := match d with | .str x => inV (.str x) [.str "0", .str "1"] | _ => false
theorem bitD_of {c : Nat} (h : c = 48 ∨ c = 49) : bitD (.str (sgn c)) = true := by
  rcases h with rfl | rfl <;> decide +kernel
theorem ne_fld : (("held" : Str) == ("bits" : Str)) = false ∧ ¬ (("bits" : Str) = ("held" : Str)) := by decide +kernel
/-! ### a size -/
def sizesD : List D := [.int 1, .int 2, .int 3, .int 3, .int 4, .int 32]
/-! ### different prefixes -/
end DL
/-! plain: maps and tables -/
namespace DL
open PySem L2
def bestS (spot : Str) (l : List Str) : Option Str := l.foldl (stepB spot) none
theorem bestS_ok (spot : Str) (l : List Str) : Best spot l (bestS spot l) := by
  have := best_fold spot l [] none (fun k h => by simp at h)
  rw [List.nil_append] at this
  exact this
theorem bestS_mem {spot : Str} {l : List Str} {p : Str} (h : bestS spot l = some p) : p ∈ l := by
  have := bestS_ok spot l
  rw [h] at this
  exact this.1
theorem bestS_eq {spot : Str} {l : List Str} {r : Option Str} (h : Best spot l r) : r = bestS spot l := h.uniq (bestS_ok spot l)
theorem bestS_perm (spot : Str) {l m : List Str} (e : ∀ k, k ∈ l ↔ k ∈ m) : bestS spot l = bestS spot m := bestS_eq ((bestS_ok spot l).perm fun k => (e k).symm)
/-- the value of the longest beginning -/
def leadS (l : KV) (spot : Str) : D := match bestS spot (ks l) with | some p => (valS l p).getD .non | none => .non
def namesD : List D := [.str "a", .str "ab", .str "b", .str "any"]
def Name (d : D) : Prop := d ∈ namesD
def lettersS : Str := "abcdefghijklmnopqrstuvwxyz"
def ltB (c : Nat) : Bool := decide (c ∈ lettersS.cps.toList)
/-- a target's text -/
def Tg (x : Str) : Prop := 1 ≤ x.length ∧ x.length ≤ 8 ∧ ∀ c ∈ x.cps.toList, c ∈ lettersS.cps.toList
theorem Name.tg {d : D} (h : Name d) : ∃ x, d = .str x ∧ Tg x := by
  have h1 : Tg ("a" : Str) ∧ Tg ("ab" : Str) ∧ Tg ("b" : Str) ∧ Tg ("any" : Str) := by
    unfold Tg; decide +kernel
  simp only [Name, namesD, List.mem_cons, List.not_mem_nil, or_false] at h
  rcases h with rfl | rfl | rfl | rfl
  · exact ⟨_, rfl, h1.1⟩
  · exact ⟨_, rfl, h1.2.1⟩
  · exact ⟨_, rfl, h1.2.2.1⟩
  · exact ⟨_, rfl, h1.2.2.2⟩
def TgD (d : D) : Prop := ∃ x, d = .str x ∧ Tg x
def IntD (d : D) : Prop := ∃ i, d = .int i
theorem bls_gen {α : Type} (f : α → Bool) : ∀ l : List α, blsD (l.map fun d => D.bl (f d)) = some (l.map f)
  | [] => rfl
  | d :: l => by simp [blsD, bls_gen f l]
theorem leadS_ord {l : KV} (nd : (ks l).Nodup) (spot : Str) : leadS (ordS l) spot = leadS l spot := by
  unfold leadS
  rw [bestS_perm spot (l := ks (ordS l)) (m := ks l) fun k => ordS_mem l k]
  cases bestS spot (ks l) with
  | none => rfl
  | some p => show (valS (ordS l) p).getD .non = _; rw [ordS_val nd]
def mapD (C : String) (z : Int) (l : KV) : D := .ins C [("bits", .int z), ("held", .dct (Fd l))]
theorem fldS : (("held" : Str) == ("bits" : Str)) = false ∧ (("bits" : Str) == ("held" : Str)) = false := by decide +kernel
theorem fld_bits (a b : D) : ([(("bits" : Str), a), (("held" : Str), b)] : List (Str × D)).lookup ("bits" : Str) = some a := by simp [List.lookup]
theorem fld_held (a b : D) : ([(("bits" : Str), a), (("held" : Str), b)] : List (Str × D)).lookup ("held" : Str) = some b := by simp [List.lookup, fldS.1]
theorem fld_no (a b : D) (m : Str) (h : (m == ("bits" : Str)) = false ∧ (m == ("held" : Str)) = false) : ([(("bits" : Str), a), (("held" : Str), b)] : List (Str × D)).lookup m = none := by simp [List.lookup, h.1, h.2]
theorem Bt.gd {x : Str} (h : Bt x) (hl : x.length ≤ 32) : Gd 0 1000 (.str x) := gd_str h.cs (by omega)
theorem Tg.cs {x : Str} (h : Tg x) : Cs x := fun c hc => by
  have h1 : ∀ c ∈ lettersS.cps.toList, c < 4294967296 := by decide +kernel
  exact h1 c (h.2.2 c hc)
theorem Tg.gd {x : Str} (h : Tg x) : Gd 0 1000 (.str x) := gd_str h.cs (by have := h.2.1; omega)
theorem gdM {n L : Nat} {d : D} (n' L' : Nat) (h : Gd n L d) (h1 : n ≤ n' := by decide) (h2 : L ≤ L' := by decide) : Gd n' L' d := h.mono h1 h2
theorem gd_Fd {n L : Nat} {l : KV} (hk : ∀ y ∈ ks l, Gd 0 L (.str y)) (hv : ∀ p ∈ l, Gd n L p.2) : Gd (n + 1) (l.length * (2 * L + 4) + 3) (.dct (Fd l)) := by
  have := gd_dct (n := n) (L := L) (xs := Fd l) (fun p hp => by
    obtain ⟨q, hq, rfl⟩ := List.mem_map.mp hp
    exact ⟨hk q.1 (List.mem_map_of_mem hq), hv q hq⟩)
  rwa [Fd_len] at this
end DL
/-! plain: the algebra of dicts in order -/
namespace DL
open PySem L2
theorem srtS_ext {a b : List Str} (na : a.Nodup) (nb : b.Nodup) (h : ∀ k, k ∈ a ↔ k ∈ b) : srtS a = srtS b :=
  List.Perm.eq_of_pairwise (fun x y _ _ p q => leS_anti x y p q) (srtS_sorted a) (srtS_sorted b) ((srtS_perm a).trans (((List.perm_ext_iff_of_nodup na nb).mpr h).trans (srtS_perm b).symm))
theorem ks_iff_val {l m : KV} (h : ∀ k, valS l k = valS m k) (k : Str) : k ∈ ks l ↔ k ∈ ks m := by
  constructor
  · intro q
    refine Classical.byContradiction fun z => ?_
    obtain ⟨v, e, _⟩ := valS_some q
    rw [h k, valS_none.mpr z] at e; cases e
  · intro q
    refine Classical.byContradiction fun z => ?_
    obtain ⟨v, e, _⟩ := valS_some q
    rw [← h k, valS_none.mpr z] at e; cases e
theorem ordS_ext {l m : KV} (nl : (ks l).Nodup) (nm : (ks m).Nodup) (h : ∀ k, valS l k = valS m k) : ordS l = ordS m := by
  unfold ordS
  rw [srtS_ext nl nm (ks_iff_val h)]
  exact List.map_congr_left fun k _ => by rw [h k]
theorem ks_filter (l : KV) (p : Str → Bool) : ks (l.filter fun q => p q.1) = (ks l).filter p := by
  unfold ks
  rw [List.filter_map]; rfl
theorem valS_filter (l : KV) (p : Str → Bool) (k : Str) : valS (l.filter fun q => p q.1) k = if p k = true then valS l k else none := by
  unfold valS
  induction l with
  | nil => simp
  | cons q l ih =>
    have e1 : (q :: l).filter (fun q => p q.1) = if p q.1 = true then q :: l.filter (fun q => p q.1) else l.filter (fun q => p q.1) := by
      rw [List.filter_cons]
    rw [e1]
    by_cases hq : p q.1 = true
    · rw [if_pos hq, List.find?_cons, List.find?_cons]
      by_cases e : q.1 = k
      · subst e; simp [hq]
      · simp only [e, decide_false]; exact ih
    · rw [if_neg hq, ih, List.find?_cons]
      by_cases e : q.1 = k
      · subst e; simp [hq]
      · simp only [e, decide_false]
theorem nd_filter {l : KV} (h : (ks l).Nodup) (p : Str → Bool) : (ks (l.filter fun q => p q.1)).Nodup := by
  rw [ks_filter]; exact h.filter _
/-! dicts compared -/
def Flat (d : D) : Prop := pyEq d d = some true
theorem pyEq_str {x : Str} (h : PyData.strOk x = true) : pyEq (.str x) (.str x) = some true := by
  have hs : SeqAt.shaped (.str x) = true := by simp [SeqAt.shaped, PyData.canLay0, h, PyData.depth]
  simp [pyEq, D.py, hs, PyData.eqv]
theorem Tg.ok {x : Str} (h : Tg x) : PyData.strOk x = true := strOk_of fun c hc => by
  have h1 : ∀ c ∈ lettersS.cps.toList, c < 1114112 := by decide +kernel
  exact h1 c (h.2.2 c hc)
theorem TgD.flat {d : D} (h : TgD d) : Flat d := by obtain ⟨x, rfl, t⟩ := h; exact pyEq_str t.ok
theorem dctEq_self {l : KV} (nd : (ks l).Nodup) (h : ∀ p ∈ l, Flat p.2) : dctEq (Fd l) (Fd l) = some true := by
  suffices q : ∀ m : KV, (∀ p ∈ m, p ∈ l) → dctEq (Fd l) (Fd m) = some true from q l fun _ h => h
  intro m
  induction m with
  | nil => intro _; rfl
  | cons p m ih =>
    intro hm
    have hp := hm p List.mem_cons_self
    show (match valD (Fd l) (.inr p.1) with | none => some false | some u => match pyEq p.2 u, dctEq (Fd l) (Fd m) with | some e, some b => some (e && b) | _, _ => none) = _
    rw [Fd_val, valS_of nd (show (p.1, p.2) ∈ l from hp)]
    dsimp only
    rw [h p hp, ih fun q hq => hm q (List.mem_cons_of_mem _ hq)]; rfl
theorem dEqX_self {l : KV} (nd : (ks l).Nodup) (h : ∀ p ∈ l, Flat p.2) : dEqX (.dct (Fd l)) (.dct (Fd l)) = some true := by
  rw [dEqX_d, if_pos rfl]; exact dctEq_self nd h
theorem dupd_Fd {mo mk mv : EM} {Γ : DEnv} {st s1 s2 s3 : Store} {l : KV} {k : Str} {v : D} (h1 : Ev (mo Γ st) fun d s => deref s d = .dct (Fd l) ∧ s = s1) (h2 : mk Γ s1 = .ok (.str k) s2) (h3 : mv Γ s2 = .ok v s3) (nd : (ks l).Nodup) (hl : l.length < 16777216) :
    eDupd mo mk mv Γ st = .ok (.dct (Fd (putS l k v))) s3 := by
  obtain ⟨d, s, e, hd, rfl⟩ := h1
  unfold eDupd
  rw [e, ok_bind]
  have hm : mergeD [] (Fd l) = Fd l := (Fd_merge l []).trans (by rw [mergeS_nil nd])
  simp only [hd, h2, h3, ok_bind, keyD, hm]
  rw [if_pos (by rw [Fd_len]; omega), Fd_put]
end DL
namespace DL
open PySem L2
/-- rows that a map takes -/
structure MapOK (V : D → Prop) (z : Nat) (n : Nat) (l : KV) : Prop where
  hz : 1 ≤ z ∧ z ≤ 32
  nd : (ks l).Nodup
  len : l.length ≤ n
  key : ∀ y ∈ ks l, Bt y ∧ y.length ≤ z
  val : ∀ p ∈ l, V p.2
theorem MapOK.mono {V : D → Prop} {z n m : Nat} {l : KV} (h : MapOK V z n l) (hm : n ≤ m) : MapOK V z m l := ⟨h.hz, h.nd, Nat.le_trans h.len hm, h.key, h.val⟩
theorem MapOK.ord {V : D → Prop} {z n : Nat} {l : KV} (h : MapOK V z n l) : MapOK V z n (ordS l) :=
  ⟨h.hz, ordS_nd h.nd, by rw [ordS_len]; exact h.len, fun y hy => h.key y ((ordS_mem l y).mp hy), ordS_all (P := fun p => V p.2) h.val⟩
theorem MapOK.put {V : D → Prop} {z n : Nat} {l : KV} (h : MapOK V z n l) {k : Str} {v : D} (hk : Bt k ∧ k.length ≤ z) (hv : V v) : MapOK V z (n + 1) (putS l k v) :=
  ⟨h.hz, putS_nd h.nd k v, Nat.le_trans (putS_len l k v) (Nat.succ_le_succ h.len), fun y hy => by
    rcases (putS_mem l k y v).mp hy with rfl | hy
    · exact hk
    · exact h.key y hy, putS_all (P := fun p => V p.2) h.val hv⟩
theorem MapOK.filter {V : D → Prop} {z n : Nat} {l : KV} (h : MapOK V z n l) (p : Str → Bool) : MapOK V z n (l.filter fun q => p q.1) :=
  ⟨h.hz, nd_filter h.nd p, Nat.le_trans (List.length_filter_le _ _) h.len, fun y hy => by
    rw [ks_filter] at hy
    exact h.key y (List.mem_filter.mp hy).1, fun q hq => h.val q (List.mem_filter.mp hq).1⟩
theorem nb_made : (("made" : Str) == ("bits" : Str)) = false ∧ (("made" : Str) == ("held" : Str)) = false := by decide +kernel
theorem nb_with : (("with_row" : Str) == ("bits" : Str)) = false ∧ (("with_row" : Str) == ("held" : Str)) = false := by decide +kernel
theorem nb_without : (("without" : Str) == ("bits" : Str)) = false ∧ (("without" : Str) == ("held" : Str)) = false := by decide +kernel
theorem nb_sort : (("sort_of_map" : Str) == ("bits" : Str)) = false ∧ (("sort_of_map" : Str) == ("held" : Str)) = false := by decide +kernel
theorem nb_same : (("is_same" : Str) == ("bits" : Str)) = false ∧ (("is_same" : Str) == ("held" : Str)) = false := by decide +kernel
end DL
namespace DL
open PySem L2
section
variable {Γ : DEnv} {st : Store} {mo mi me ms : EM} {i j l n : Nat}
@[simp] theorem sSubX_ap : sSubX mo mi me Γ st = (me Γ st).bs Γ fun x s1 => (mo Γ s1).bs Γ fun o s2 => (mi Γ s2).bs Γ fun i s3 => match o with
  | .ref l => match s3[l]? with
    | some d => match setX d i x with
      | some d' => .nx Γ (s3.set l d')
      | none => .no
    | none => .no
  | _ => .no := rfl
@[simp] theorem sSubO_ap : sSubO n mi me Γ st = (me Γ st).bs Γ fun x s1 => match Γ[n]? with
  | some (.ow d) => (mi Γ s1).bs Γ fun i s2 => match setX d i x with
    | some d' => .nx (Γ.set n (.ow d')) s2
    | none => .no
  | _ => .no := rfl
@[simp] theorem sPar3_ap : sPar3 i j l ms Γ st = (ms Γ st).bs Γ fun d s => match d with
  | .tup [x, y, z] => .nx (((Γ.set i (.sh x)).set j (.sh y)).set l (.sh z)) s
  | _ => .no := rfl
end
theorem setX_Fd {l : KV} {k : Str} {x : D} (h : l.length < 16777216) : setX (.dct (Fd l)) (.str k) x = some (.dct (Fd (putS l k x))) := by
  unfold setX keyD
  dsimp only
  rw [if_pos (by rw [Fd_len]; exact h), Fd_put]
end DL
namespace DL
open PySem L2
theorem setLast (s : Store) (x y : D) : (s ++ [x]).set s.length y = s ++ [y] := by simp
theorem getLast1 (s : Store) (x : D) : (s ++ [x])[s.length]? = some x := by simp
end DL
/-! plain rules: try kept, len of a set comprehension, two fors -/
namespace DL
open PySem L2
section
variable {Γ : DEnv} {st s : Store} {w : Ws} {m mi mi1 me mt : EM} {i j : Nat}
end
end DL
/-! plain: closures of texts, their ends -/
namespace DL
open PySem L2
def kids (p : Str) : List Str := (List.range p.length).flatMap fun j => [pfx p j ++ ("0" : Str), pfx p j ++ ("1" : Str)]
def clS (ps : List Str) : List Str := sset (("" : Str) :: ps.flatMap kids)
def lvS (ns : List Str) : List Str := ns.filter fun n => !decide (n ++ ("0" : Str) ∈ ns)
theorem sset_ext {a b : List Str} (h : ∀ k, k ∈ a ↔ k ∈ b) : sset a = sset b :=
  srtS_ext (ddp_nd a) (ddp_nd b) fun k => by rw [ddp_mem, ddp_mem]; exact h k
theorem srt_sset {l : List Str} {xs : List Str} (nd : l.Nodup) (h : ∀ k, k ∈ l ↔ k ∈ xs) : srtS l = sset xs :=
  srtS_ext nd (ddp_nd xs) fun k => by rw [ddp_mem]; exact h k
/-- what a table's rows and closures are bounded by -/
structure PfxOK (z n : Nat) (ps : List Str) : Prop where
  key : ∀ p ∈ ps, Bt p ∧ p.length ≤ z
  len : ps.length ≤ n
/-! a target's text or None -/
def NS (d : D) : Prop := d = .non ∨ ∃ x, d = .str x
def eqB (a b : D) : Bool := match a, b with
  | .non, .non => true
  | .str x, .str y => decide (x = y)
  | _, _ => false
theorem eqB_iff {a b : D} (ha : NS a) (hb : NS b) : eqB a b = true ↔ a = b := by
  rcases ha with rfl | ⟨x, rfl⟩ <;> rcases hb with rfl | ⟨y, rfl⟩ <;> simp [eqB]
theorem eqB_self {a : D} (ha : NS a) : eqB a a = true := (eqB_iff ha ha).mpr rfl
theorem dEqX_ns {a b : D} (ha : NS a) (hb : NS b) : dEqX a b = some (eqB a b) := by
  rcases ha with rfl | ⟨x, rfl⟩ <;> rcases hb with rfl | ⟨y, rfl⟩ <;> simp [eqB, dEq, sclEq]
/-- a text filled up to a width -/
def padS (z : Nat) (p c : Str) : Str := p ++ repS c ((z : Int) - (p.length : Int))
section
variable {Γ : DEnv} {st s : Store} {w : Ws} {b : SM} {mi : EM}
end
def bothS (a b : List Str) : List Str := a ++ b.filter fun k => !decide (k ∈ a)
section
variable {Γ : DEnv} {st s : Store} {mi mt me : EM}
end
theorem dict_pairs {l : KV} (nd : (ks l).Nodup) (st : Store) : bDictX [.lst (l.map pD)] st = .ok (.dct (Fd l)) st := by
  simp -implicitDefEqProofs [pairsD_Fd, show mergeD [] (Fd l) = Fd l from (Fd_merge l []).trans (by rw [mergeS_nil nd])]
/-! rows of names -/
/-! sorted items -/
def txtL : KV → Option (List (Str × Str))
  | [] => some []
  | (k, .str x) :: r => (txtL r).map ((k, x) :: ·)
  | _ => none
end DL
/-! leaves of a closure: each address has exactly one leaf; order of leaves -/
namespace DL
open PySem L2
section
variable {ps : List Str}
end
/-! ### weights of lists of texts -/
/-! ### order of texts -/
end DL
/-! plain data: == of nested lists and tuples -/
namespace DL
open PySem L2
def Py (n : Nat) (d : D) : Prop := ∃ e, d.py = some e ∧ e.canLay0 = true ∧ e.depth ≤ n
theorem py_str {x : Str} (h : PyData.strOk x = true) : Py 0 (.str x) := ⟨.str x, rfl, by simp [PyData.canLay0, h], Nat.le_refl _⟩
theorem py_all {n : Nat} : ∀ {xs : List D}, (∀ x ∈ xs, Py n x) → ∃ es, D.pyL xs = some es ∧ PyData.canLayAll0 es = true ∧ PyData.depthAll es ≤ n
  | [], _ => ⟨[], rfl, rfl, Nat.zero_le _⟩
  | x :: xs, h => by
    obtain ⟨e, a, b, c⟩ := h x List.mem_cons_self
    obtain ⟨es, a', b', c'⟩ := py_all fun y hy => h y (List.mem_cons_of_mem _ hy)
    refine ⟨e :: es, by simp [D.pyL, a, a'], by simp [PyData.canLayAll0, b, b'], ?_⟩
    simp only [PyData.depthAll]
    omega
theorem py_lst {n : Nat} {xs : List D} (h : ∀ x ∈ xs, Py n x) : Py (n + 1) (.lst xs) := by
  obtain ⟨es, a, b, c⟩ := py_all h
  exact ⟨.list es, by simp [D.py, a], by simp [PyData.canLay0, b], by simp only [PyData.depth]; omega⟩
theorem py_tup {n : Nat} {xs : List D} (h : ∀ x ∈ xs, Py n x) : Py (n + 1) (.tup xs) := by
  obtain ⟨es, a, b, c⟩ := py_all h
  exact ⟨.tuple es, by simp [D.py, a], by simp [PyData.canLay0, b], by simp only [PyData.depth]; omega⟩
theorem Py.shaped {n : Nat} {d : D} (h : Py n d) (q : n ≤ 64) : ∃ e, d.py = some e ∧ SeqAt.shaped e = true ∧ e.canLay0 = true := by
  obtain ⟨e, a, b, c⟩ := h
  exact ⟨e, a, by simp [SeqAt.shaped, b]; omega, b⟩
theorem Py.flat {n : Nat} {d : D} (h : Py n d) (q : n ≤ 64) : Flat d := by
  obtain ⟨e, a, b, c⟩ := h.shaped q
  unfold Flat pyEq
  rw [a]
  simp [b, SeqAt.eqv_refl e c]
theorem Py.eq_self {n : Nat} {xs : List D} (h : Py n (.lst xs)) (q : n ≤ 64) : dEqX (.lst xs) (.lst xs) = some true := h.flat q
end DL
/-! plain rules: generators, len of an instance, a locked dict -/
namespace DL
open PySem L2
section
variable {Γ : DEnv} {st s : Store} {w : Ws} {m mi me mt mo : EM} {i j : Nat} {g : GM} {mb : SM}
/-- a generator's items, as an iterator's -/
def lstT (m : EM) : EM := fun Γ st => match m Γ st with
  | .ok (.lst ds) s => .ok (.tup ds) s
  | _ => .no
theorem e_gen0 {C : List String} {nm : Str} {F : List D → Option (List D)} {C' : String} {fs : List (Str × D)} {ys : List D} (h : mo Γ st = .ok (.ins C' fs) s) (hC : C' ∈ C) (hl : (fs.lookup nm).isNone = true) (hn : noRef (.ins C' fs) = true) (hF : F [.ins C' fs] = some ys) :
    eGen0 C nm F mo Γ st = .ok (.lst ys) s := by
  unfold eGen0
  rw [h]
  dsimp only
  rw [if_pos ⟨hC, hl, hn⟩, hF]
/-- for x in l: yield f x -/
theorem forY_map {T : List String} {α : Type} (ι : α → D) (f : α → D) (I : DEnv → Prop) {yb : YM} : ∀ (l : List α) (Γ : DEnv) (ys : List D), (∀ x ∈ l, ∀ Γ ys, I Γ → ∃ Γ1 Γ2, g (ι x) Γ = some Γ1 ∧ yb T Γ1 st ys = .nx Γ2 st (ys ++ [f x]) ∧ I Γ2) → I Γ →
    ∃ Γ', I Γ' ∧ forY g yb (l.map ι) T Γ st ys = .nx Γ' st (ys ++ l.map f)
  | [], Γ, ys, _, hI => ⟨Γ, hI, by simp [forY]⟩
  | x :: l, Γ, ys, h, hI => by
    obtain ⟨Γ1, Γ2, a, b, c⟩ := h x List.mem_cons_self Γ ys hI
    obtain ⟨Γ', d, e⟩ := forY_map ι f I l Γ2 (ys ++ [f x]) (fun y hy => h y (List.mem_cons_of_mem _ hy)) c
    refine ⟨Γ', d, ?_⟩
    rw [List.map_cons]
    unfold forY
    rw [a]
    dsimp only
    rw [b]
    dsimp only
    rw [e]
    simp
/-- the dict at the store's slot l is locked while m is read -/
theorem e_lock {l : Nat} {kvs : List (Key × D)} {b : Bool} {st' : Store} (hi : Γ[i]? = some (.sh (.ref l))) (hl : st[l]? = some (.dct kvs)) (h : m (Γ.set i (.sh (.dct kvs))) (st.set l .tomb) = .ok (.bl b) st') (hf : st'.all flatO = true) :
    eLock i m Γ st = .ok (.bl b) (st'.set l (.dct kvs)) := by
  unfold eLock
  rw [hi]
  dsimp only
  rw [hl]
  dsimp only
  rw [h]
  dsimp only
  rw [if_pos hf]
theorem e_lockN {d : D} (hi : Γ[i]? = some (.sh d)) (hd : ∀ l, d ≠ .ref l) : eLock i m Γ st = m Γ st := by
  unfold eLock
  rw [hi]
  cases d <;> first | rfl | exact absurd rfl (hd _)
theorem e_lenO {tab : List (String × DF)} {ms : EM} {C : String} {fs : List (Str × D)} {F : DF} {n : Int} {x : D} {s2 : Store} (h : ms Γ st = .ok (.tup [x]) s) (hx : deref s x = .ins C fs) (hF : tab.lookup C = some F) (hn : F [x] s = .ok (.int n) s2) (h0 : 0 ≤ n) (h1 : n < 2 ^ 63) :
    eLenO tab ms Γ st = .ok (.int n) s2 := by
  unfold eLenO
  rw [h]
  show (match deref s x with | .ins C _ => _ | _ => _) = _
  rw [hx]
  dsimp only
  rw [hF]
  dsimp only
  rw [hn]
  dsimp only
  rw [if_pos ⟨h0, h1⟩]
end
end DL
/-! plain: the changes from one table's rows to another's -/
namespace DL
open PySem L2
structure TT (l m : KV) : Prop where
  nl : (ks l).Nodup
  nm : (ks m).Nodup
  hl : ∀ p ∈ l, TgD p.2
  hm : ∀ p ∈ m, TgD p.2
end DL
namespace DL
open PySem L2
theorem next_spec {st : Store} {l : Nat} {ns : List Int} {i n : Int} {ext : List D} (h : st[l]? = some (penD ns i n ext)) (h0 : 0 ≤ i) (h1 : i < 1152921504606846976) :
    ∃ c, D__law_next [.ref l] st = .ok (.int c) (st.set l (penD ns (i + 1) n ext)) := by
  have hs : ∀ d, (st.set l d)[l]? = some d := fun d => List.getElem?_set_self (getElem?_lt h)
  unfold D__law_next run m__law_next
  cases ns with
  | nil =>
    have q : ¬ i < 0 := by omega
    simp (disch := omega) [-getElem?_pos, -List.getElem?_set_self, initE, h, hs, penD, dEq, sclEq, pyEq, D.py, D.pyL, PyData.eqv, PyData.eqvAll, show SeqAt.shaped (.list []) = true from by decide, q]
  | cons m ms =>
    have e := dEq_ints_nil (m :: ms)
    rw [List.map_cons] at e
    obtain ⟨c, hc⟩ := atI_int (m :: ms) (i % ((ms.length : Int) + 1)) (mod_lt (by omega)).1 (by have := (mod_lt (a := i) (b := (ms.length : Int) + 1) (by omega)).2; simpa using this)
    rw [List.map_cons] at hc
    by_cases q1 : i < (ms.length : Int) + 1
    · by_cases q2 : (1000000000000000000 : Int) ≤ c
      · simp (disch := omega) [-getElem?_pos, -List.getElem?_set_self, initE, h, hs, penD, e, hc, q1, q2]
      · simp (disch := omega) [-getElem?_pos, -List.getElem?_set_self, initE, h, hs, penD, e, hc, q1, q2]
    · simp (disch := omega) [-getElem?_pos, -List.getElem?_set_self, initE, h, hs, penD, e, hc, q1]
theorem draw_spec {st : Store} {l : Nat} {ns : List Int} {i n : Int} {ext : List D} (h : st[l]? = some (penD ns i n ext)) (h0 : 0 ≤ i) (h1 : i < 1152921504606846976) {b : Int} (hb : 0 < b ∧ b < 1073741824) :
    ∃ k i' n' : Int, 0 ≤ k ∧ k < b ∧ 0 ≤ i' ∧ i' ≤ i + 1 ∧ D__law_draw [.ref l, .int b] st = .ok (.int k) (st.set l (penD ns i' n' ext)) := by
  have hs : ∀ d, (st.set l d)[l]? = some d := fun d => List.getElem?_set_self (getElem?_lt h)
  unfold D__law_draw run m__law_draw
  by_cases q : n < b
  · obtain ⟨c, hc⟩ := next_spec h h0 h1
    refine ⟨c % b, i + 1, c / b, (mod_lt hb.1).1, (mod_lt hb.1).2, by omega, by omega, ?_⟩
    have h' : st[l]? = some (.lst (.lst (ns.map .int) :: .int i :: .int n :: ext)) := h
    simp only [penD] at hc
    simp (disch := omega) [-getElem?_pos, -List.getElem?_set_self, initE, h', hs, penD, q, hc]
  · refine ⟨n % b, i, n / b, (mod_lt hb.1).1, (mod_lt hb.1).2, h0, by omega, ?_⟩
    simp (disch := omega) [-getElem?_pos, -List.getElem?_set_self, initE, h, hs, penD, q]
theorem drawX {ns : List Int} {c : Int} {e : Nat} {r st : Store} (h : PenX ns c e r st) (hc : c < 1000000000) {b : Int} (hb : 0 < b ∧ b < 1073741824) : ∃ k st', 0 ≤ k ∧ k < b ∧ D__law_draw [.ref 0, .int b] st = .ok (.int k) st' ∧ PenX ns (c + 1) e r st' := by
  obtain ⟨i, n, ext, h0, h1, h2, rfl⟩ := h
  obtain ⟨k, i', n', a, b', c', d, q⟩ := draw_spec (st := penD ns i n ext :: r) (l := 0) (ext := ext) rfl h0 (by omega) hb
  exact ⟨k, _, a, b', q, i', n', ext, c', by omega, h2, rfl⟩
theorem pen_spec {ns : List Int} {st : Store} (h : ns.length ≤ 63) : D__law_pen [.scr ns] st = .ok (.ref st.length) (st ++ [penD (ns.take 60) 0 0 []]) := by
  unfold D__law_pen run m__law_pen
  simp -implicitDefEqProofs [-getElem?_pos, initE, oSl, cutL_60 h, penD]
theorem bitsX {ns : List Int} {c : Int} {e : Nat} {r st : Store} (hp : PenX ns c e r st) {z : Nat} (hz : z ≤ 100) (hc : c < 100000000) :
    ∃ x st', D__law_bits [.ref 0, .int z] st = .ok (.str x) st' ∧ x.length ≤ z ∧ Bt x ∧ PenX ns (c + 101) e r st' := by
  obtain ⟨t, st0, t0, t1, e0, hp0⟩ := drawX hp (by omega) (b := (z : Int) + 1) (by omega)
  obtain ⟨xs, st1, h1, hp1, hE, hl⟩ := lcL_ok (g := gN 2) (me := eOp oIxX (eC (.str "01")) (eCall D__law_draw (eCons (eVar 0) (eCons (eC (.int 2)) eNil)))) (Γ := wipeE [Sl.sh (.ref 0), .sh (.int z), .no] [2])
    (E := fun d => ∃ c, (c = 48 ∨ c = 49) ∧ d = .str (sgn c)) (ds := rng 0 1 t.toNat) (fun j s => PenX ns (c + 1 + j) e r s) (fun j d hd s hs => by
      have hj := (rng_at hd).1
      obtain ⟨k, s', k0, k1, ek, hs'⟩ := drawX hs (by omega) (b := 2) (by omega)
      obtain ⟨ch, hch, ea⟩ := atI_01 k0 k1
      refine ⟨_, rfl, .str (sgn ch), s', ?_, ⟨ch, hch, rfl⟩, hs'.mono (by omega)⟩
      simp -implicitDefEqProofs (disch := decide +kernel) [-getElem?_pos, wipeE, ek, ea]) st0 [] (hp0.mono (by omega)) (by rw [rng_length]; simp; omega)
  rw [rng_length] at hl hp1
  obtain ⟨ys, y1, y2⟩ := strs_of (fun x hx => let ⟨c, _, e⟩ := hE x hx; ⟨_, e⟩)
  have hy : ∀ y ∈ ys, ∃ c, (c = 48 ∨ c = 49) ∧ y = sgn c := fun y hy => by
    obtain ⟨c, h, e⟩ := hE (.str y) (by rw [y2]; exact List.mem_map_of_mem hy)
    exact ⟨c, h, by cases e; rfl⟩
  have hyl : ys.length = t.toNat := by rw [← hl, y2]; simp
  obtain ⟨j1, j2, j3⟩ := join_bits hy
  have hC : C__law_bits_1 [Sl.sh (.ref 0), .sh (.int z), .no] st = .ok (.lst xs) st1 := by
    unfold C__law_bits_1
    rw [eLc_of (eRng1_i (n := t) (s := st0) (by simp -implicitDefEqProofs [-getElem?_pos, e0]) (by omega))]
    simpa using h1
  refine ⟨Txt.join "" ys, st1, ?_, by omega, j2, hp1.mono (by omega)⟩
  have l0 : ("" : Str).length = 0 := by decide +kernel
  have hsz : (ys.map (·.length)).sum + ys.length * ("" : Str).length ≤ 16777216 := by rw [j3, l0]; omega
  have ej : oJoin (.str "") (.lst xs) st1 = .ok (.str (Txt.join "" ys)) st1 := by
    simp only [oJoin, y1]
    exact if_pos hsz
  unfold D__law_bits run m__law_bits
  simp -implicitDefEqProofs [-getElem?_pos, initE, hC, ej]

end DL
namespace DL
open PySem L2
theorem prefixesX {ns : List Int} {c : Int} {e : Nat} {r st : Store} (hp : PenX ns c e r st) {z m : Nat} (hz : 1 ≤ z ∧ z ≤ 32) (hm : m ≤ 60) (hc : c < 10000000) :
    ∃ (ys : List Str) (st' : Store), D__law_prefixes [.ref 0, .int z, .int m] st = .ok (.lst (ys.map .str)) st' ∧ ys.Nodup ∧ ys.length ≤ m ∧ (∀ y ∈ ys, Bt y ∧ y.length ≤ z) ∧ PenX ns (c + 10000) e r st' := by
  obtain ⟨t, st0, t0, t1, e0, hp0⟩ := drawX hp (by omega) (b := (m : Int) + 1) (by omega)
  obtain ⟨Γ', st', f1, ⟨ys, a4, a5, a6, rfl, nd, ln, gd, hp1⟩⟩ := forL_ok (g := gN 4) (mb := B__law_prefixes_1) (ds := rng 0 1 t.toNat)
    (fun j Γ s => ∃ (ys : List Str) (a4 a5 a6 : Sl), Γ = [.sh (.ref 0), .sh (.int z), .sh (.int m), .ow (.lst (ys.map .str)), a4, a5, a6] ∧ ys.Nodup ∧ ys.length ≤ j ∧ (∀ y ∈ ys, Bt y ∧ y.length ≤ z) ∧ PenX ns (c + 1 + 110 * j) e r s)
    (fun j d hd Γ s hi => by
      obtain ⟨hj, rfl⟩ := rng_at hd
      obtain ⟨ys, a4, a5, a6, rfl, nd, ln, gd, hs⟩ := hi
      -- start
      have hstart : ∃ (y0 : Str) (s1 : Store), (eIf (eAnd (eOp oNeX (eVarB 3) (eLst eNil)) (eOp oEqX (eCall D__law_draw (eCons (eVar 0) (eCons (eC (.int 2)) eNil))) (eC (.int 0)))) (eOp oIxX (eVarB 3) (eCall D__law_draw (eCons (eVar 0) (eCons (eB bLen (eCons (eVarB 3) eNil)) eNil)))) (eC (.str "")))
          [.sh (.ref 0), .sh (.int z), .sh (.int m), .ow (.lst (ys.map .str)), .sh (.int (0 + (j : Int) * 1)), a5, a6] s = .ok (.str y0) s1 ∧ Bt y0 ∧ y0.length ≤ z ∧ PenX ns (c + 1 + 110 * j + 2) e r s1 := by
        have e1 := dEq_strs_nil ys fun y hy => (gd y hy).1.ok
        have eb : Bt ("" : Str) := by decide +kernel
        have el : ("" : Str).length = 0 := by decide +kernel
        cases ys with
        | nil =>
          refine ⟨"", s, ?_, eb, by omega, hs.mono (by omega)⟩
          rw [List.map_nil] at e1
          simp -implicitDefEqProofs [-getElem?_pos, e1]
        | cons y ys =>
          obtain ⟨k, s1, k0, k1, ek, hs1⟩ := drawX hs (by omega) (b := 2) (by omega)
          rw [List.map_cons] at e1
          by_cases hk : k = 0
          · obtain ⟨k2, s2, k20, k21, ek2, hs2⟩ := drawX hs1 (by omega) (b := (((y :: ys).map D.str).length : Nat)) (by simp at ln ⊢; omega)
            obtain ⟨x, hx, hxm⟩ := atI_of (l := (y :: ys).map D.str) k20 k21
            obtain ⟨y0, hy0, rfl⟩ := List.mem_map.mp hxm
            refine ⟨y0, s2, ?_, (gd y0 hy0).1, (gd y0 hy0).2, hs2.mono (by omega)⟩
            rw [List.map_cons] at hx ek2
            rw [List.length_cons, List.length_map] at ek2
            simp -implicitDefEqProofs [-getElem?_pos, e1, ek, hk]
            simp -implicitDefEqProofs [-getElem?_pos] at ek2
            simp -implicitDefEqProofs [-getElem?_pos, ek2, hx]
          · refine ⟨"", s1, ?_, eb, by omega, hs1.mono (by omega)⟩
            simp -implicitDefEqProofs [-getElem?_pos, e1, ek, hk]
      obtain ⟨y0, s1, es, b0, l0, hs1⟩ := hstart
      have hmin : (if (5 : Int) < (z : Int) then (5 : Int) else (z : Int)) = ((min 5 z : Nat) : Int) := by
        by_cases q : (5 : Int) < (z : Int)
        · rw [if_pos q]; omega
        · rw [if_neg q]; omega
      obtain ⟨x1, s2, eb, bl, bb, hs2⟩ := bitsX hs1 (z := min 5 z) (by omega) (by omega)
      have hlen : y0.length + x1.length ≤ 16777216 := by omega
      have hlen2 : (y0 ++ x1).length ≤ 16777216 := by rw [strLen_append]; omega
      have bn : Bt (cutS (y0 ++ x1) none (some (z : Int))) := (b0.append bb).cut _ _
      have ln2 := cut_hi (y0 ++ x1) z
      have hin := inD_strs (cutS (y0 ++ x1) none (some (z : Int))) ys
      unfold B__law_prefixes_1
      refine ⟨_, rfl, ?_⟩
      show ∃ Γ2 st2, sSeq _ _ [.sh (.ref 0), .sh (.int z), .sh (.int m), .ow (.lst (ys.map .str)), .sh (.int (0 + (j : Int) * 1)), a5, a6] s = _ ∧ _
      rw [sSeq_ap, sAsg_ap, es]
      simp -implicitDefEqProofs only [ok_bs, nx_bind, List.set_cons_succ, List.set_cons_zero]
      by_cases hq : cutS (y0 ++ x1) none (some (z : Int)) ∈ ys
      · refine ⟨[.sh (.ref 0), .sh (.int z), .sh (.int m), .ow (.lst (ys.map .str)), .sh (.int (0 + (j : Int) * 1)), .sh (.str y0), .sh (.str (cutS (y0 ++ x1) none (some (z : Int))))], s2, ?_, ys, _, _, _, rfl, nd, by omega, gd, hs2.mono (by omega)⟩
        simp -implicitDefEqProofs (disch := assumption) [-getElem?_pos, hmin, eb, hin, hq]
      · refine ⟨[.sh (.ref 0), .sh (.int z), .sh (.int m), .ow (.lst ((ys ++ [cutS (y0 ++ x1) none (some (z : Int))]).map .str)), .sh (.int (0 + (j : Int) * 1)), .sh (.str y0), .sh (.str (cutS (y0 ++ x1) none (some (z : Int))))], s2, ?_, _, _, _, _, rfl, ?_, by simp; omega, ?_, hs2.mono (by omega)⟩
        · have hl3 : ys.length < 16777216 := by omega
          simp -implicitDefEqProofs (disch := assumption) [-getElem?_pos, hmin, eb, hin, hq, hl3]
        · exact List.nodup_append.mpr ⟨nd, by simp, fun a ha b hb => by simp at hb; subst hb; exact fun z => hq (z ▸ ha)⟩
        · intro y hy
          rcases List.mem_append.mp hy with hy | hy
          · exact gd y hy
          · simp at hy; subst hy; exact ⟨bn, ln2⟩)
    [.sh (.ref 0), .sh (.int z), .sh (.int m), .ow (.lst []), .no, .no, .no] st0 ⟨[], _, _, _, rfl, List.nodup_nil, Nat.le_refl _, by simp, hp0.mono (by omega)⟩
  rw [rng_length] at ln hp1
  refine ⟨ys, st', ?_, nd, by omega, gd, hp1.mono (by omega)⟩
  have hf := sFor_of (mi := eRng1 (eCons (eCall D__law_draw (eCons (eVar 0) (eCons (eOp oAdd (eVarB 2) (eC (.int 1))) eNil))) eNil)) (g := gN 4) (b := B__law_prefixes_1) (Γ := [.sh (.ref 0), .sh (.int z), .sh (.int m), .ow (.lst []), .no, .no, .no]) (st := st) (s := st0) (ds := rng 0 1 t.toNat) (eRng1_i (by simp -implicitDefEqProofs [-getElem?_pos, e0]) (by omega))
  unfold D__law_prefixes run m__law_prefixes
  simp -implicitDefEqProofs [-getElem?_pos, -sFor_ap, initE, hf, f1, frz, frzX]

theorem sizeX {ns : List Int} {c : Int} {e : Nat} {r st : Store} (hp : PenX ns c e r st) (he : e < 1000) (hc : c < 100000000) :
    ∃ (z : Nat) (st' : Store), D__law_size [.ref 0] st = .ok (.int z) st' ∧ 1 ≤ z ∧ z ≤ 32 ∧ PenX ns (c + 1) (e + 1) r st' := by
  obtain ⟨k, st1, k0, k1, e1, i, n, ext, i0, i1, hx, rfl⟩ := drawX hp (by omega) (b := 6) (by omega)
  obtain ⟨zd, hz1, hz2⟩ := atI_of (l := sizesD) k0 (by show k < 6; exact k1)
  have e' : sizesD = [.int 1, .int 2, .int 3, .int 3, .int 4, .int 32] := rfl
  rw [e'] at hz1
  have hq : (∃ z : Nat, zd = .int z ∧ 1 ≤ z ∧ z ≤ 4) ∨ zd = .int 32 := by
    simp only [sizesD, List.mem_cons, List.not_mem_nil, or_false] at hz2
    rcases hz2 with rfl | rfl | rfl | rfl | rfl | rfl
    · exact .inl ⟨1, rfl, by decide, by decide⟩
    · exact .inl ⟨2, rfl, by decide, by decide⟩
    · exact .inl ⟨3, rfl, by decide, by decide⟩
    · exact .inl ⟨3, rfl, by decide, by decide⟩
    · exact .inl ⟨4, rfl, by decide, by decide⟩
    · exact .inr rfl
  rcases hq with ⟨z, rfl, z1, z4⟩ | rfl
  · refine ⟨z, _, ?_, z1, by omega, i, n, ext, i0, i1, ⟨Nat.le_succ_of_le hx.1, hx.2⟩, rfl⟩
    have n32 : ¬ (z : Int) = 32 := by omega
    unfold D__law_size run m__law_size
    simp -implicitDefEqProofs [-getElem?_pos, initE, e1, hz1, n32, penD]
  · by_cases q : ext = []
    · subst q
      refine ⟨32, penD ns i n [.int 1] :: r, ?_, by decide, by decide, i, n, [.int 1], i0, i1, by simp, rfl⟩
      unfold D__law_size run m__law_size
      simp -implicitDefEqProofs [-getElem?_pos, initE, e1, hz1, penD]
    · refine ⟨5, _, ?_, by decide, by decide, i, n, ext, i0, i1, ⟨Nat.le_succ_of_le hx.1, hx.2⟩, rfl⟩
      have hl : (3 : Int) < (ext.length : Int) + 1 + 1 + 1 := by
        have := List.length_pos_iff.mpr q
        omega
      unfold D__law_size run m__law_size
      simp -implicitDefEqProofs [-getElem?_pos, initE, e1, hz1, penD, hl]

end DL
namespace DL
open PySem L2
/-- lines of names -/
theorem linesX {ns : List Int} {c : Int} {e : Nat} {r st : Store} (hp : PenX ns c e r st) {z m : Nat} (hz : 1 ≤ z ∧ z ≤ 32) (hm : m ≤ 60) (hc : c < 10000000) :
    ∃ (l : KV) (st' : Store), D__law_lines [.ref 0, .int z, .int m] st = .ok (.dct (Fd l)) st' ∧ (ks l).Nodup ∧ l.length ≤ m ∧ (∀ y ∈ ks l, Bt y ∧ y.length ≤ z) ∧ (∀ p ∈ l, Name p.2) ∧ PenX ns (c + 20000) e r st' := by
  obtain ⟨ys, st1, e1, nd, ln, gd, hp1⟩ := prefixesX hp hz hm hc
  have : Ev (D__law_lines [.ref 0, .int z, .int m] st) fun d st' => ∃ l : KV, d = .dct (Fd l) ∧ (ks l).Nodup ∧ l.length ≤ m ∧ (∀ y ∈ ks l, Bt y ∧ y.length ≤ z) ∧ (∀ p ∈ l, Name p.2) ∧ PenX ns (c + 20000) e r st' := by
    unfold D__law_lines
    refine e_run rfl ?_
    unfold m__law_lines
    refine w_as (d := .lst namesD) (s := st) (by simp -implicitDefEqProofs [-getElem?_pos, namesD]) (w_ret ?_)
    refine e_b1 ?_
    unfold C__law_lines_1
    refine e_lc .str pD ys (fun y p => y = p.1 ∧ Name p.2) (fun j s => PenX ns (c + 10000 + j) e r s) (s := st1) (by simp -implicitDefEqProofs [-getElem?_pos, initE, e1]) (by omega) (hp1.mono (by omega)) ?_ ?_
    · intro j y hy s hs
      have := getElem?_lt hy
      obtain ⟨k, s', k0, k1, ek, hs'⟩ := drawX hs (by omega) (b := 4) (by omega)
      obtain ⟨d, hd1, hd2⟩ := atI_of (l := namesD) k0 (by show k < 4; exact k1)
      refine ⟨_, rfl, Ev.of (d := .tup [.str y, d]) (s := s') ?_ ⟨(y, d), rfl, ⟨rfl, hd2⟩, hs'.mono (by omega)⟩⟩
      simp -implicitDefEqProofs [-getElem?_pos, wipeE, initE, ek, hd1]
    · intro l s' hR hs'
      have hl := pd_len hR
      have hk : ks l = ys := by
        have := pd_map hR (f := fun p => p.1) (h := fun y => y) (fun x y h => h.1.symm)
        simpa [ks] using this
      refine Ev.of (d := .dct (Fd l)) (s := s') ?_ ⟨l, rfl, by rw [hk]; exact nd, by omega, by rw [hk]; exact gd, fun p hp => (pd_all hR p hp).elim fun x h => h.2.2, hs'.mono (by omega)⟩
      simp -implicitDefEqProofs [-getElem?_pos, pairsD_Fd, show mergeD [] (Fd l) = Fd l from (Fd_merge l []).trans (by rw [mergeS_nil (by rw [hk]; exact nd)])]
  obtain ⟨d, st', e2, l, rfl, q⟩ := this
  exact ⟨l, st', e2, q⟩
end DL
namespace DL
open PySem L2
theorem preX {x : Str} (hb : Bt x) {m : Nat} (hl : x.length ≤ m) (hm : m ≤ 1000) (st : Store) : D_is_prefix [.str x, .int m] st = .ok (.bl true) st := by
  obtain ⟨k1, k2, k3, k4⟩ := kit_all
  have hx : x.length ≤ 16777216 := by omega
  have hl' : (x.length : Int) ≤ (m : Int) := by omega
  have hc : C_is_prefix_1 [.sh (.str x), .sh (.int m), .no] st = .ok (.lst (x.cps.toList.map fun c => .bl (bitD (.str (sgn c))))) st := by
    unfold C_is_prefix_1
    refine lc_map (fun c => .str (sgn c)) x.cps.toList _ (by simp -implicitDefEqProofs [-getElem?_pos, sgns]) (by rw [← len_toList]; exact hx) (fun c hc => ⟨_, rfl, ?_⟩)
    simp -implicitDefEqProofs [wipeE, inD, flD, flDs, bitD]
  have ha : (x.cps.toList.map fun c => bitD (.str (sgn c))).all id = true := by
    rw [List.all_map, List.all_eq_true]
    intro c hc
    exact bitD_of (hb c hc)
  have hbl : blsD (x.cps.toList.map fun c => .bl (bitD (.str (sgn c)))) = some (x.cps.toList.map fun c => bitD (.str (sgn c))) := bls_gen _ _
  unfold D_is_prefix run m_is_prefix
  simp -implicitDefEqProofs (disch := assumption) [-getElem?_pos, -List.all_map, initE, tyN, k1, hl', hc, hbl, ha]
theorem intX {i lo hi : Int} (h : lo ≤ i ∧ i ≤ hi) (st : Store) : D_is_integer [.int i, .int lo, .int hi] st = .ok (.bl true) st := by
  obtain ⟨k1, k2, k3, k4⟩ := kit_all
  unfold D_is_integer run m_is_integer
  simp -implicitDefEqProofs [-getElem?_pos, initE, tyN, k2, k3, h.1, h.2]
theorem targetX {x : Str} (h : Tg x) (st : Store) : D_Table_is_target [.str x] st = .ok (.bl true) st := by
  obtain ⟨k1, k2, k3, k4⟩ := kit_all
  have hx : x.length ≤ 16777216 := by have := h.2.1; omega
  have h1 : (1 : Int) ≤ (x.length : Int) := by have := h.1; omega
  have h2 : (x.length : Int) ≤ 8 := by have := h.2.1; omega
  have hc : C_Table_is_target_1 [.sh (.str x), .no] st = .ok (.lst (x.cps.toList.map fun c => .bl (ltB c))) st := by
    unfold C_Table_is_target_1
    refine lc_map (fun c => .str (sgn c)) x.cps.toList _ (by simp -implicitDefEqProofs [-getElem?_pos, sgns]) (by rw [← len_toList]; exact hx) (fun c hc => ⟨_, rfl, ?_⟩)
    have : inD (.str (sgn c)) (.str lettersS) = some (ltB c) := rfl
    simp -implicitDefEqProofs [wipeE]
    rw [show ("abcdefghijklmnopqrstuvwxyz" : Str) = lettersS from rfl, this]
  have ha : (x.cps.toList.map fun c => ltB c).all id = true := by
    rw [List.all_map, List.all_eq_true]
    intro c hc
    exact decide_eq_true (h.2.2 c hc)
  have hbl : blsD (x.cps.toList.map fun c => .bl (ltB c)) = some (x.cps.toList.map fun c => ltB c) := bls_gen _ _
  unfold D_Table_is_target run m_Table_is_target
  simp -implicitDefEqProofs (disch := assumption) [-getElem?_pos, -List.all_map, initE, tyN, k1, h1, h2, hc, hbl, ha]
theorem ivX_Table {v : D} (h : ∃ x, v = .str x ∧ Tg x) (o : D) (st : Store) : D_Table_is_value [o, v] st = .ok (.bl true) st := by
  obtain ⟨x, rfl, h⟩ := h
  have := targetX h st
  unfold D_Table_is_value run m_Table_is_value
  simp -implicitDefEqProofs [-getElem?_pos, initE, this]
theorem set_at {st : Store} {g : Nat} {d : D} (h : st[g]? = some d) : st.set g d = st := by
  apply List.ext_getElem?
  intro i
  by_cases q : g = i
  · subst q; rw [List.getElem?_set_self (getElem?_lt h), h]
  · rw [List.getElem?_set_ne q]
theorem flat_set {st : Store} {g : Nat} {d : D} (h : st.all flatO = true) (hd : flatO d = true) : (st.set g d).all flatO = true := by
  rw [List.all_eq_true] at h ⊢
  intro x hx
  rcases List.mem_or_eq_of_mem_set hx with hx | rfl
  · exact h x hx
  · exact hd
theorem flat_app {st ts : Store} (h : st.all flatO = true) (ht : ts.all flatO = true) : (st ++ ts).all flatO = true := by rw [List.all_append, h, ht]; rfl
theorem noDctL_ints : ∀ {ext : List D}, (∀ d ∈ ext, ∃ i, d = .int i) → noDctL ext = true
  | [], _ => rfl
  | d :: ext, h => by
    obtain ⟨i, rfl⟩ := h d List.mem_cons_self
    rw [noDctL, noDctL_ints fun d hd => h d (List.mem_cons_of_mem _ hd)]; rfl
theorem PenX.flat {ns : List Int} {c : Int} {e : Nat} {r st : Store} (h : PenX ns c e r st) (hr : r.all flatO = true) : st.all flatO = true := by
  obtain ⟨i, n, ext, h0, h1, h2, rfl⟩ := h
  have a : noDctL (ns.map D.int) = true := noDctL_ints fun d hd => by obtain ⟨k, _, rfl⟩ := List.mem_map.mp hd; exact ⟨k, rfl⟩
  have b := noDctL_ints h2.2
  rw [List.all_cons, hr]
  simp [penD, flatO, noDctL, noDct, a, b]
theorem PenX.app {ns : List Int} {c : Int} {e : Nat} {r st : Store} (h : PenX ns c e r st) (t : Store) : PenX ns c e (r ++ t) (st ++ t) := by
  obtain ⟨i, n, ext, h0, h1, h2, rfl⟩ := h
  exact ⟨i, n, ext, h0, h1, h2, rfl⟩
theorem keptX (o v : D) (st : Store) : D_PrefixMap_kept_value [o, v] st = .ok v st := by
  unfold D_PrefixMap_kept_value run m_PrefixMap_kept_value
  simp -implicitDefEqProofs [-getElem?_pos, initE]
/-- a dict, or one of the store -/
def Arg (d : D) (l : KV) (s : Store) : Prop := d = .dct (Fd l) ∨ ∃ g, d = .ref g ∧ s[g]? = some (.dct (Fd l)) ∧ s.all flatO = true
theorem lockX_Table {k : Nat} {z : Nat} {l : KV} {st : Store} {d : D} (hst : st[k]? = some (.ins "Table" [])) (hz : 1 ≤ z ∧ z ≤ 32) (hl : l.length ≤ 1000) (hk : ∀ y ∈ ks l, Bt y ∧ y.length ≤ z) (hv : ∀ p ∈ l, TgD p.2) (hd : Arg d l st) :
    eLock 2 (eB bAll (eCons C_PrefixMap___init___1 eNil)) [.sh (.ref k), .sh (.int z), .sh d, .no] st = .ok (.bl true) st := by
  have hb := bls_gen (fun _ => true) (ks l)
  have hall : ((ks l).map fun _ => true).all id = true := by simp
  have key : ∀ s : Store, s[k]? = some (.ins "Table" []) → eB bAll (eCons C_PrefixMap___init___1 eNil) [Sl.sh (.ref k), .sh (.int z), .sh (.dct (Fd l)), .no] s = .ok (.bl true) s := by
    intro s hs
    have hC1 : C_PrefixMap___init___1 [Sl.sh (.ref k), .sh (.int z), .sh (.dct (Fd l)), .no] s = .ok (.lst ((ks l).map fun _ => .bl true)) s := by
      unfold C_PrefixMap___init___1
      refine lc_map .str (ks l) (fun _ => .bl true) (by simp only [eIterX_ap, eVar_ap, getE_0, getE_s, ok_bind]; rw [Fd_keys]) (by rw [ks_len]; omega) (fun y hy => ⟨_, rfl, ?_⟩)
      obtain ⟨v, hv1, hv2⟩ := valS_some hy
      have hp := preX (hk y hy).1 (hk y hy).2 (by omega) s
      have hm := ivX_Table (hv _ hv2) (.ref k) s
      simp -implicitDefEqProofs [-getElem?_pos, wipeE, hp, hs, hm, keyD, Fd_val, hv1, List.lookup]
    simp -implicitDefEqProofs [-getElem?_pos, -List.all_map, hC1, hb, hall]
  rcases hd with rfl | ⟨g, rfl, hg, hf⟩
  · rw [e_lockN (d := .dct (Fd l)) rfl (fun l h => nomatch h)]
    exact key st hst
  · have hgk : g ≠ k := fun e => by rw [e, hst] at hg; cases hg
    have := e_lock (i := 2) (Γ := [Sl.sh (.ref k), .sh (.int z), .sh (.ref g), .no]) (l := g) (b := true) rfl hg (key (st.set g .tomb) (by rw [List.getElem?_set_ne hgk]; exact hst)) (flat_set hf rfl)
    rw [this, List.set_set, set_at hg]
theorem Arg.dr {d : D} {l : KV} {s : Store} (h : Arg d l s) : deref s d = .dct (Fd l) := by
  rcases h with rfl | ⟨g, rfl, hg, hf⟩
  · rfl
  · rw [deref_ref, hg]; rfl
theorem Arg.set {d x y : D} {l : KV} {s : Store} {k : Nat} (h : Arg d l s) (hk : s[k]? = some x) (hx : ∀ kvs, x ≠ .dct kvs) (y : D) : deref (s.set k y) d = .dct (Fd l) := by
  rcases h with rfl | ⟨g, rfl, hg, hf⟩
  · rfl
  · have hgk : k ≠ g := fun e => by rw [← e, hk] at hg; cases hg; exact hx _ rfl
    rw [deref_ref, List.getElem?_set_ne hgk, hg]; rfl
theorem initX_Table {k : Nat} {z : Nat} {l : KV} {st : Store} {d : D} (hst : st[k]? = some (.ins "Table" [])) (hz : 1 ≤ z ∧ z ≤ 32) (nd : (ks l).Nodup) (hl : l.length ≤ 1000) (hk : ∀ y ∈ ks l, Bt y ∧ y.length ≤ z) (hv : ∀ p ∈ l, TgD p.2) (hd : Arg d l st) :
    D_PrefixMap___init__ [.ref k, .int z, d] st = .ok .non (st.set k (mapD "Table" z (ordS l))) := by
  obtain ⟨k1, k2, k3, k4⟩ := kit_all
  have hi := intX (i := z) (lo := 1) (hi := 32) (by omega)
  have hlt := getElem?_lt hst
  have hl2 : l.length < 16777216 := by omega
  have hL := lockX_Table hst hz hl hk hv hd
  have hset : ((st.set k (.ins "Table" [("bits", .int z)]))[k]?) = some (.ins "Table" [("bits", .int z)]) := List.getElem?_set_self hlt
  have nd2 : (srtS (ks l)).Nodup := (srtS_perm _).nodup_iff.mpr nd
  have d0 := hd.dr
  have d1 := hd.set (y := .non) hst (fun _ h => nomatch h) (.ins "Table" [("bits", .int z)])
  have hC2 : C_PrefixMap___init___2 [Sl.sh (.ref k), .sh (.int z), .sh d, .no] (st.set k (.ins "Table" [("bits", .int z)])) = .ok (.dct (Fd (ordS l))) (st.set k (.ins "Table" [("bits", .int z)])) := by
    unfold C_PrefixMap___init___2
    refine dc_keys (srtS (ks l)) (fun k => (valS l k).getD .non) nd2 (s := st.set k (.ins "Table" [("bits", .int z)])) (by simp -implicitDefEqProofs [-getElem?_pos, -List.getElem?_set_self, d1]) (by rw [(srtS_perm _).length_eq, ks_len]; omega) (fun y hy => ?_)
    have hy' : y ∈ ks l := (srtS_perm _).mem_iff.mp hy
    obtain ⟨v, hv1, hv2⟩ := valS_some hy'
    have nk : (("kept_value" : Str) == ("bits" : Str)) = false := by decide +kernel
    exact ⟨_, rfl, by simp [wipeE], by simp -implicitDefEqProofs [-getElem?_pos, -List.getElem?_set_self, wipeE, hset, nk, hv1, keptX, keyD, Fd_val, d1, List.lookup]⟩
  obtain ⟨f1, f2⟩ := ne_fld
  unfold D_PrefixMap___init__ run m_PrefixMap___init__
  simp -implicitDefEqProofs [-getElem?_pos, -List.getElem?_set_self, -List.all_map, initE, hi, tyN, k4, d0, hL, hst, hset, hC2, putFD, List.lookup, f1, f2, List.set_set, mapD]
theorem Arg.new {d : D} {l : KV} {s : Store} (h : Arg d l s) (C : String) : Arg d l (s ++ [.ins C []]) := by
  rcases h with rfl | ⟨g, rfl, hg, hf⟩
  · exact .inl rfl
  · exact .inr ⟨g, rfl, by rw [List.getElem?_append_left (getElem?_lt hg)]; exact hg, flat_app hf rfl⟩
theorem makeX_Table {ms : EM} {Γ : DEnv} {st s : Store} {z : Nat} {l : KV} {a : D} (h : ms Γ st = .ok (.tup [.int z, a]) s) (hz : 1 ≤ z ∧ z ≤ 32) (nd : (ks l).Nodup) (hl : l.length ≤ 1000) (hk : ∀ y ∈ ks l, Bt y ∧ y.length ≤ z) (hv : ∀ p ∈ l, TgD p.2) (ha : Arg a l s) :
    eMake "Table" D_PrefixMap___init__ ms Γ st = .ok (mapD "Table" z (ordS l)) (s ++ [.tomb]) := by
  have hs : (s ++ [D.ins "Table" []])[s.length]? = some (.ins "Table" []) := by simp
  have e := initX_Table hs hz nd hl hk hv (ha.new "Table")
  rw [eMake_ap, h, ok_bind]
  dsimp only
  rw [e]
  simp [mapD]
theorem widthX {z : Nat} {l : KV} (st : Store) : D_PrefixMap_width [mapD "Table" z l] st = .ok (.int z) st := by
  unfold D_PrefixMap_width run m_PrefixMap_width mapD
  simp -implicitDefEqProofs [-getElem?_pos, initE, fldS.1, fldS.2, List.lookup]
theorem longestX_Table {z : Nat} {l : KV} {spot : Str} (hb : Bt spot) (hl : spot.length ≤ z) (hz : z ≤ 1000) (st : Store) :
    D_PrefixMap_longest [mapD "Table" z l, .str spot] st = .ok (oD (bestS spot (ks l))) st := by
  have hp := preX hb hl hz st
  have hspot : spot.length ≤ 16777216 := by omega
  have hr : ∀ j : Nat, j < spot.length + 1 → (spot.length : Int) + (j : Int) * (-1) = ((spot.length - j : Nat) : Int) := fun j hj => by omega
  have hf := sFor_of (mi := eRngD (eCons (eB bLen (eCons (eVarB 1) eNil)) (eCons (eNeg (eC (.int 1))) (eCons (eNeg (eC (.int 1))) eNil)))) (g := gN 2) (b := B_PrefixMap_longest_1) (Γ := [.sh (mapD "Table" z l), .sh (.str spot), .no]) (st := st) (s := st) (ds := rng spot.length (-1) ((spot.length : Int) - (-1)).toNat)
    (eRngD_i (by simp -implicitDefEqProofs (disch := assumption) [-getElem?_pos]) (by omega) (by omega))
  have hn : ((spot.length : Int) - (-1)).toNat = spot.length + 1 := by omega
  rw [hn] at hf
  have h1 := fld_bits (.int z) (.dct (Fd l))
  have h2 := fld_held (.int z) (.dct (Fd l))
  have first := forL_first (g := gN 2) (mb := B_PrefixMap_longest_1) (st := st) (I := fun Γ => ∃ a, Γ = [.sh (mapD "Table" z l), .sh (.str spot), a]) (ds := rng spot.length (-1) (spot.length + 1)) (fun j => decide (pfx spot (spot.length - j) ∈ ks l)) (fun j => .str (pfx spot (spot.length - j)))
    (fun j d hd Γ hi => by
      obtain ⟨hj, rfl⟩ := rng_at hd
      obtain ⟨a, rfl⟩ := hi
      rw [hr j hj]
      have hk := Fd_has l (pfx spot (spot.length - j))
      refine ⟨_, rfl, fun hp => ?_, fun hp => ⟨[.sh (mapD "Table" z l), .sh (.str spot), .sh (.int ((spot.length - j : Nat) : Int))], ?_, _, rfl⟩⟩
      · rw [hp] at hk
        unfold B_PrefixMap_longest_1 mapD
        simp -implicitDefEqProofs (disch := assumption) [-getElem?_pos, h2, inD, keyD]
        rw [show cutS spot none (some ((spot.length - j : Nat) : Int)) = pfx spot (spot.length - j) from rfl, hk]
      · rw [hp] at hk
        unfold B_PrefixMap_longest_1 mapD
        simp -implicitDefEqProofs (disch := assumption) [-getElem?_pos, h2, inD, keyD]
        rw [show cutS spot none (some ((spot.length - j : Nat) : Int)) = pfx spot (spot.length - j) from rfl, hk])
    [.sh (mapD "Table" z l), .sh (.str spot), .no] ⟨_, rfl⟩
  rw [rng_length] at first
  unfold mapD at hf first ⊢
  rcases first with ⟨j, hj, hp1, hm, he⟩ | ⟨hn, Γ', he, _⟩
  · have hbest : Best spot (ks l) (some (pfx spot (spot.length - j))) := by
      refine ⟨by simpa using hp1, starts_pfx (by omega), fun k hk hs => ?_⟩
      rw [pfx_len (by omega)]
      obtain ⟨e1, e2⟩ := starts_iff.mp hs
      by_cases q : k.length ≤ spot.length - j
      · exact q
      · have := hm (spot.length - k.length) (by omega)
        have e3 : spot.length - (spot.length - k.length) = k.length := by omega
        rw [e3, ← e1] at this
        simp [hk] at this
    rw [← bestS_eq hbest]
    unfold D_PrefixMap_longest run m_PrefixMap_longest
    simp -implicitDefEqProofs [-getElem?_pos, -sFor_ap, initE, h1, hp, hf, he, oD]
  · have hbest : Best spot (ks l) none := by
      intro k hk
      cases hs : Txt.startswith spot k with
      | false => rfl
      | true =>
        obtain ⟨e1, e2⟩ := starts_iff.mp hs
        have := hn (spot.length - k.length) (by omega)
        have e3 : spot.length - (spot.length - k.length) = k.length := by omega
        rw [e3, ← e1] at this
        simp [hk] at this
    rw [← bestS_eq hbest]
    unfold D_PrefixMap_longest run m_PrefixMap_longest
    simp -implicitDefEqProofs [-getElem?_pos, -sFor_ap, initE, h1, hp, hf, he, oD]
theorem target_ofX {z : Nat} {l : KV} {spot : Str} (hb : Bt spot) (hl : spot.length ≤ z) (hz : z ≤ 1000) (st : Store) :
    D_Table_target_of [mapD "Table" z l, .str spot] st = .ok (leadS l spot) st := by
  have e := longestX_Table (l := l) hb hl hz st
  have h3 : (("longest" : Str) == ("bits" : Str)) = false ∧ (("longest" : Str) == ("held" : Str)) = false := by decide +kernel
  unfold D_Table_target_of run m_Table_target_of leadS
  cases h : bestS spot (ks l) with
  | none =>
    rw [h] at e
    unfold mapD at e ⊢
    simp -implicitDefEqProofs [-getElem?_pos, initE, e, oD, oIsN, h3.1, h3.2, fldS.1, List.lookup]
  | some p =>
    rw [h] at e
    obtain ⟨v, hv, _⟩ := valS_some (bestS_mem h)
    unfold mapD at e ⊢
    simp -implicitDefEqProofs [-getElem?_pos, initE, e, oD, oIsN, keyD, Fd_val, hv, h3.1, h3.2, fldS.1, List.lookup]
theorem lookupX {z : Nat} {l : KV} {spot : Str} (hb : Bt spot) (hl : spot.length = z) (hz : z ≤ 1000) (st : Store) :
    D_Table_lookup [mapD "Table" z l, .str spot] st = .ok (leadS l spot) st := by
  have e := target_ofX (l := l) hb (by omega : spot.length ≤ z) hz st
  have hp := preX hb (by omega : spot.length ≤ z) hz st
  have hx : spot.length ≤ 16777216 := by omega
  have h3 : (("target_of" : Str) == ("bits" : Str)) = false ∧ (("target_of" : Str) == ("held" : Str)) = false := by decide +kernel
  have h4 : ((spot.length : Nat) : Int) = (z : Int) := by omega
  unfold mapD at e ⊢
  unfold D_Table_lookup run m_Table_lookup
  simp -implicitDefEqProofs (disch := assumption) [-getElem?_pos, initE, e, hp, h3.1, h3.2, h4, fldS.1, List.lookup]
end DL
namespace DL
open PySem L2
theorem deref_kD : ∀ (k : Key) (st : Store), deref st (kD k) = kD k := fun k st => by cases k <;> rfl
theorem walk_item (n : D) (kvs : List (Key × D)) (p : Key × D) (h1 : keyD (kD p.1) = some p.1) (h2 : valD kvs p.1 = some p.2) :
    eTup (eCons (eVar 1) (eCons (eOp oIxX (eFld ["PrefixMap", "Table"] "held" (eVarB 0)) (eVarB 1)) eNil)) [.sh (.ins "Table" [("bits", n), ("held", .dct kvs)]), .sh (kD p.1)] [] = .ok (.tup [kD p.1, p.2]) [] := by
  have a : eFld ["PrefixMap", "Table"] "held" (eVarB 0) [.sh (.ins "Table" [("bits", n), ("held", .dct kvs)]), .sh (kD p.1)] [] = .ok (.dct kvs) [] := rfl
  have b : eOp oIxX (eFld ["PrefixMap", "Table"] "held" (eVarB 0)) (eVarB 1) [.sh (.ins "Table" [("bits", n), ("held", .dct kvs)]), .sh (kD p.1)] [] = .ok p.2 [] := by
    unfold eOp
    rw [a]
    show oIxX (.dct kvs) (deref [] (kD p.1)) [] = _
    rw [deref_kD]
    unfold oIxX
    cases hk : kD p.1 <;> (rw [hk] at h1; dsimp only; rw [h1]; dsimp only; rw [h2])
  have c : eCons (eOp oIxX (eFld ["PrefixMap", "Table"] "held" (eVarB 0)) (eVarB 1)) eNil [.sh (.ins "Table" [("bits", n), ("held", .dct kvs)]), .sh (kD p.1)] [] = .ok (.tup [p.2]) [] := by
    unfold eCons
    rw [b]; rfl
  have d : eCons (eVar 1) (eCons (eOp oIxX (eFld ["PrefixMap", "Table"] "held" (eVarB 0)) (eVarB 1)) eNil) [.sh (.ins "Table" [("bits", n), ("held", .dct kvs)]), .sh (kD p.1)] [] = .ok (.tup [kD p.1, p.2]) [] := by
    show ER.bind (eCons (eOp oIxX (eFld ["PrefixMap", "Table"] "held" (eVarB 0)) (eVarB 1)) eNil [.sh (.ins "Table" [("bits", n), ("held", .dct kvs)]), .sh (kD p.1)] []) _ = _
    rw [c]; rfl
  unfold eTup
  rw [d]
  simp [ER.bind]
theorem walk_items (n : D) (kvs : List (Key × D)) (hv : ∀ p ∈ kvs, keyD (kD p.1) = some p.1 ∧ valD kvs p.1 = some p.2) :
    D_PrefixMap_walk [.ins "Table" [("bits", n), ("held", .dct kvs)]] = some (kvs.map fun p => .tup [kD p.1, p.2]) := by
  obtain ⟨Γ', hI, e⟩ := forY_map (T := []) (g := gN 1) (st := []) (yb := ySeq (yYield (eTup (eCons (eVar 1) (eCons (eOp oIxX (eFld ["PrefixMap", "Table"] "held" (eVarB 0)) (eVarB 1)) eNil)))) yNil) (fun p : Key × D => kD p.1) (fun p => D.tup [kD p.1, p.2])
    (fun Γ => ∃ x, Γ = [.sh (.ins "Table" [("bits", n), ("held", .dct kvs)]), x]) kvs [.sh (.ins "Table" [("bits", n), ("held", .dct kvs)]), .no] [] (fun p hp Γ ys ⟨x, hΓ⟩ => by
      subst hΓ
      obtain ⟨h1, h2⟩ := hv p hp
      refine ⟨[.sh (.ins "Table" [("bits", n), ("held", .dct kvs)]), .sh (kD p.1)], [.sh (.ins "Table" [("bits", n), ("held", .dct kvs)]), .sh (kD p.1)], rfl, ?_, _, rfl⟩
      unfold ySeq yYield
      rw [walk_item n kvs p h1 h2]
      rfl) ⟨_, rfl⟩
  have hit : eIterX (eFld ["PrefixMap", "Table"] "held" (eVarB 0)) [.sh (.ins "Table" [("bits", n), ("held", .dct kvs)]), .no] [] = .ok (.tup (kvs.map fun p => kD p.1)) [] := rfl
  show runY ["self", "prefix"] ["self"] m_PrefixMap_walk _ = _
  have hm : m_PrefixMap_walk [] [.sh (.ins "Table" [("bits", n), ("held", .dct kvs)]), .no] [] [] = .nx Γ' [] (kvs.map fun p => .tup [kD p.1, p.2]) := by
    unfold m_PrefixMap_walk
    show (match yFor _ _ _ _ _ _ _ with | .nx a b c => yNil _ a b c | r => r) = _
    unfold yFor
    rw [hit]
    dsimp only
    rw [e]
    rfl
  show (match m_PrefixMap_walk [] [.sh (.ins "Table" [("bits", n), ("held", .dct kvs)]), .no] [] [] with | .nx _ s ys => if hasTb [] s = true then some ys else none | _ => none) = _
  rw [hm]
  rfl
theorem noRef_Fd {l : KV} (h : ∀ p ∈ l, noRef p.2 = true) : noRefK (Fd l) = true := by
  induction l with
  | nil => rfl
  | cons p l ih =>
    show (noRef p.2 && noRefK (Fd l)) = true
    rw [h p List.mem_cons_self, ih fun q hq => h q (List.mem_cons_of_mem _ hq)]; rfl
theorem noRef_mapD {C : String} {z : Int} {l : KV} (h : ∀ p ∈ l, noRef p.2 = true) : noRef (mapD C z l) = true := by
  show (noRef (.int z) && (noRef (.dct (Fd l)) && true)) = true
  show (true && (noRefK (Fd l) && true)) = true
  rw [noRef_Fd h]; rfl
theorem walkX {z : Int} {l : KV} (nd : (ks l).Nodup) : D_PrefixMap_walk [mapD "Table" z l] = some (l.map pD) := by
  have := walk_items (.int z) (Fd l) (fun p hp => by
    obtain ⟨q, hq, rfl⟩ := List.mem_map.mp hp
    refine ⟨rfl, ?_⟩
    show valD (Fd l) (.inr q.1) = some q.2
    rw [Fd_val, valS_of nd (show (q.1, q.2) ∈ l from hq)])
  unfold mapD
  rw [this]
  unfold Fd
  rw [List.map_map]
  rfl
/-- o.walk() -/
theorem genX {z : Int} {l : KV} {mo : EM} {Γ : DEnv} {st s : Store} (nd : (ks l).Nodup) (hr : ∀ p ∈ l, noRef p.2 = true) (h : mo Γ st = .ok (mapD "Table" z l) s) : eGen0 ["PrefixMap", "Table"] "walk" D_PrefixMap_walk mo Γ st = .ok (.lst (l.map pD)) s :=
  e_gen0 h (by simp) (by rw [fld_no _ _ _ (by decide +kernel)]; rfl) (noRef_mapD hr) (walkX nd)
theorem madeX_Table {z : Nat} {l m : KV} (h : MapOK TgD z 1000 m) (st : Store) : D_Table_made [mapD "Table" z l, .dct (Fd m)] st = .ok (mapD "Table" z (ordS m)) (st ++ [.tomb]) := by
  have e := makeX_Table (ms := eCons (eFld ["PrefixMap", "Table"] "bits" (eVarB 0)) (eCons (eVar 1) eNil)) (Γ := [.sh (mapD "Table" z l), .sh (.dct (Fd m))]) (st := st) (s := st) (z := z) (l := m) (by
    unfold mapD
    simp -implicitDefEqProofs [-getElem?_pos, List.lookup]) h.hz h.nd h.len h.key h.val (.inl rfl)
  unfold D_Table_made run m_Table_made
  simp -implicitDefEqProofs [-getElem?_pos, -eMake_ap, initE, e]
theorem with_rowX_Table {z n : Nat} {l : KV} {k : Str} {v : D} (h : MapOK TgD z n l) (hn : n < 1000) (hk : Bt k ∧ k.length ≤ z) (hv : TgD v) (st : Store) :
    D_PrefixMap_with_row [mapD "Table" z l, .str k, v] st = .ok (mapD "Table" z (ordS (putS l k v))) (st ++ [.tomb]) := by
  have hp := preX hk.1 hk.2 (by have := h.hz; omega) st
  have hm := madeX_Table (l := l) ((h.put hk hv).mono (by omega)) st
  have he : eDupd (eFld ["PrefixMap", "Table"] "held" (eVarB 0)) (eVar 1) (eVar 2) [.sh (mapD "Table" z l), .sh (.str k), .sh v] st = .ok (.dct (Fd (putS l k v))) st := by
    refine dupd_Fd (s1 := st) (s2 := st) (Ev.of (d := .dct (Fd l)) (s := st) ?_ ⟨rfl, rfl⟩) rfl rfl h.nd (by have := h.len; omega)
    unfold mapD
    simp -implicitDefEqProofs [-getElem?_pos, fldS.1, List.lookup]
  unfold D_PrefixMap_with_row run m_PrefixMap_with_row
  unfold mapD at hm he ⊢
  simp -implicitDefEqProofs [-getElem?_pos, initE, hp, he, hm, nb_made.1, nb_made.2, List.lookup]
theorem withoutX_Table {z n : Nat} {l : KV} {k : Str} (h : MapOK TgD z n l) (hn : n ≤ 1000) (hk : k ∈ ks l) (st : Store) :
    D_PrefixMap_without [mapD "Table" z l, .str k] st = .ok (mapD "Table" z (ordS (l.filter fun q => !decide (q.1 = k)))) (st ++ [.tomb]) := by
  obtain ⟨k1, k2, k3, k4⟩ := kit_all
  have hm := madeX_Table (l := l) ((h.filter fun q => !decide (q = k)).mono hn) st
  have hin : inD (.str k) (.dct (Fd l)) = some true := by simp [inD, keyD, Fd_has, hk]
  have hc : C_PrefixMap_without_1 [.sh (mapD "Table" z l), .sh (.str k), .no] st = .ok (.dct (Fd (l.filter fun q => !decide (q.1 = k)))) st := by
    unfold C_PrefixMap_without_1
    rw [dc_filt .str (ks l) (fun q => !decide (q = k)) id (fun q => (valS l q).getD .non) (s := st) ?_ (by rw [ks_len]; have := h.len; omega) (fun y hy => ?_)]
    · congr 2
      have hf : (((ks l).filter fun q => !decide (q = k)).map fun x => (id x, (valS l x).getD .non)) = l.filter fun q => !decide (q.1 = k) := by
        unfold ks
        rw [List.filter_map, List.map_map]
        conv => rhs; rw [← List.map_id (l.filter fun q => !decide (q.1 = k))]
        refine List.map_congr_left fun p hp => ?_
        have hp' := (List.mem_filter.mp hp).1
        show (p.1, (valS l p.1).getD .non) = p
        rw [valS_of h.nd (show (p.1, p.2) ∈ l from hp')]; rfl
      rw [hf, mergeS_nil (h.filter fun q => !decide (q = k)).nd]
    · unfold mapD
      simp -implicitDefEqProofs [-getElem?_pos, -List.map_map, fldS.1, List.lookup, Fd_keys]
    · obtain ⟨v, hv, _⟩ := valS_some hy
      refine ⟨_, rfl, ?_, fun hne => ⟨?_, ?_⟩⟩
      · simp -implicitDefEqProofs [-getElem?_pos, wipeE]
      · simp -implicitDefEqProofs [-getElem?_pos, wipeE]
      · unfold mapD
        simp -implicitDefEqProofs [-getElem?_pos, wipeE, fldS.1, List.lookup, keyD, Fd_val, hv]
  unfold D_PrefixMap_without run m_PrefixMap_without
  unfold mapD at hm hc ⊢
  simp -implicitDefEqProofs [-getElem?_pos, initE, tyN, k1, hc, hm, hin, fldS.1, nb_made.1, nb_made.2, List.lookup]
end DL
/-! what a wish keeps: choices in the order of their keys -/
namespace DL
open PySem L2
end DL
/-! plain: a comprehension with two fors and a condition, a field set, tasks -/
namespace DL
open PySem L2
section
variable {Γ : DEnv} {st s : Store} {m mi mi1 me mt mo : EM} {g g1 : GM}
end
end DL
/-! plain: what a wish allows, where a table fails it -/
namespace DL
open PySem L2
/-! the exact wish -/
/-! names -/
end DL
/-! plain: the first failure -/
namespace DL
open PySem L2
section
variable {Γ : DEnv} {st s : Store} {mi : EM}
end
section
variable {ps : List Str}
end
end DL
/-! plain: any data -/
namespace DL
open PySem L2
end DL
/-! plain: choices sorted by the law; wishes with a row more or less; exact rows are in order -/
namespace DL
open PySem L2
/-! wishes by their values -/
/-! exact rows stand in order -/
end DL
/-! plain: nodes of a task, costs -/
namespace DL
open PySem L2
/-- the law's longer prefixes: one of each pair -/
def long0 (z : Nat) (L : KV) : List Str := ((ks L).filter fun p => decide (p.length < z)).map fun p => p ++ ("0" : Str)
theorem ordS_perm {l : KV} (nd : (ks l).Nodup) : (ordS l).Perm l := by
  have h1 : (ordS l).Perm ((ks l).map fun k => (k, (valS l k).getD .non)) := (srtS_perm (ks l)).map _
  have h2 : ((ks l).map fun k => (k, (valS l k).getD D.non)) = l := by
    unfold ks
    rw [List.map_map]
    conv => rhs; rw [← List.map_id l]
    exact List.map_congr_left fun p hp => by
      have := valS_of nd (show (p.1, p.2) ∈ l from hp)
      simp only [Function.comp_apply, this]; rfl
  rw [h2] at h1
  exact h1
/-! ### costs -/
def sumO : List (Option Int) → Int → Option Int
  | [], t => some t
  | none :: _, _ => none
  | some i :: r, t => sumO r (t + i)
def keepB (M : KV) (p : Str × D) : Bool := match valS M p.1 with | some d => eqB d p.2 | none => false
def moreS (c r : Int) (K M : KV) (p : Str × D) : Option Int := if keepB M p = true then some 0 else match valS K p.1 with
  | some .non => none
  | some (.int i) => some i
  | _ => some (if p.1 ∈ ks M then c else r)
def newN (L M : KV) : Nat := ((ks M).filter fun k => !decide (k ∈ ks L)).length
def costS (a c r : Int) (K L M : KV) : Option Int := sumO (L.map (moreS c r K M)) (a * (newN L M : Int))
def resD : Option Int → D
  | none => .non
  | some i => .int i
end DL
namespace DL
open PySem L2
def strD (d : D) : Str := match d with | .str x => x | _ => ""
/-- the values of rows, as texts -/
def vS (l : KV) : List Str := l.map fun p => strD p.2
theorem vS_map {l : KV} (h : ∀ p ∈ l, TgD p.2) : l.map (·.2) = (vS l).map .str := by
  unfold vS
  rw [List.map_map]
  refine List.map_congr_left fun p hp => ?_
  obtain ⟨x, e, _⟩ := h p hp
  show p.2 = .str (strD p.2)
  rw [e]; rfl
theorem vS_ord {l : KV} (nd : (ks l).Nodup) : sset (vS (ordS l)) = sset (vS l) := sset_ext fun k => by
  have hp := ordS_perm nd
  unfold vS
  rw [(hp.map fun p => strD p.2).mem_iff]
theorem vS_len (l : KV) : (vS l).length = l.length := by unfold vS; rw [List.length_map]
theorem vS_tg {l : KV} (h : ∀ p ∈ l, TgD p.2) : ∀ x ∈ vS l, Tg x := fun x hx => by
  obtain ⟨p, hp, rfl⟩ := List.mem_map.mp hx
  obtain ⟨y, e, t⟩ := h p hp
  show Tg (strD p.2)
  rw [e]; exact t
theorem sset_tg {l : KV} (h : ∀ p ∈ l, TgD p.2) : ∀ x ∈ sset (vS l), Tg x := fun x hx => vS_tg h x ((ddp_mem _ _).mp ((srtS_perm _).mem_iff.mp hx))
theorem valsX {m : EM} {Γ : DEnv} {st s : Store} {l : KV} (h : m Γ st = .ok (.dct (Fd l)) s) (ht : ∀ p ∈ l, TgD p.2) : eVals m Γ st = .ok (.lst ((vS l).map .str)) s := by
  rw [eVals_ap, h, ok_bind]
  show ER.ok (.lst ((Fd l).map (·.2))) s = _
  rw [← vS_map ht]
  unfold Fd
  rw [List.map_map]; rfl
theorem ssetX {m : EM} {Γ : DEnv} {st s : Store} {l : KV} (h : m Γ st = .ok (.dct (Fd l)) s) (ht : ∀ p ∈ l, TgD p.2) (hl : l.length ≤ 4000) : eSortSet (eVals m) Γ st = .ok (.lst ((sset (vS l)).map .str)) s :=
  eSortSet_strs (valsX h ht) (by rw [vS_len]; omega)
theorem targetsX {z : Int} {l : KV} (ht : ∀ p ∈ l, TgD p.2) (hl : l.length ≤ 4000) (st : Store) : D_Table_targets [mapD "Table" z l] st = .ok (.lst ((sset (vS l)).map .str)) st := by
  have e := ssetX (m := eFld ["PrefixMap", "Table"] "held" (eVarB 0)) (Γ := [.sh (mapD "Table" z l)]) (st := st) (s := st) (l := l) (by
    unfold mapD
    simp -implicitDefEqProofs [-getElem?_pos, fldS.1, List.lookup]) ht hl
  unfold D_Table_targets run m_Table_targets
  show fin (sRet _ [.sh (mapD "Table" z l)] st) = _
  unfold sRet
  rw [e]; rfl
theorem targets_stX {z : Int} {l : KV} (ht : ∀ p ∈ l, TgD p.2) (hl : l.length ≤ 4000) (st : Store) : D_Table_targets_st [mapD "Table" z l] st = .ok (.ref st.length) (st ++ [.lst ((sset (vS l)).map .str)]) := by
  have e := ssetX (m := eFld ["PrefixMap", "Table"] "held" (eVarB 0)) (Γ := [.sh (mapD "Table" z l)]) (st := st) (s := st) (l := l) (by
    unfold mapD
    simp -implicitDefEqProofs [-getElem?_pos, fldS.1, List.lookup]) ht hl
  unfold D_Table_targets_st run m_Table_targets_st
  show fin (sRetSt _ [.sh (mapD "Table" z l)] st) = _
  unfold sRetSt
  rw [e]; rfl
theorem rows_stX {z : Int} {l : KV} (st : Store) : D_PrefixMap_rows_st [mapD "Table" z l] st = .ok (.ref st.length) (st ++ [.dct (Fd l)]) := by
  unfold D_PrefixMap_rows_st run m_PrefixMap_rows_st mapD
  simp -implicitDefEqProofs [-getElem?_pos, initE, fldS.1, List.lookup]
theorem lenMX {z : Int} {l : KV} (st : Store) : D_PrefixMap___len__ [mapD "Table" z l] st = .ok (.int l.length) st := by
  unfold D_PrefixMap___len__ run m_PrefixMap___len__ mapD
  simp -implicitDefEqProofs [-getElem?_pos, initE, fldS.1, List.lookup, Fd_len]
theorem propT {q : String × DF} {r : List (String × DF)} {F : DF} {mo : EM} {Γ : DEnv} {st s s2 : Store} {z : Int} {l : KV} {d : D} (h : mo Γ st = .ok (mapD "Table" z l) s) (hF : (q :: r).lookup "Table" = some F) (hr : F [mapD "Table" z l] s = .ok d s2) : eProp (q :: r) mo Γ st = .ok d s2 := by
  rw [eProp_ap, h, ok_bind]
  have : deref s (mapD "Table" z l) = .ins "Table" [("bits", .int z), ("held", .dct (Fd l))] := rfl
  rw [this]
  dsimp only
  rw [hF]
  dsimp only
  rw [hr]
theorem e_repr {m : EM} {Γ : DEnv} {st s : Store} {d x : D} {n L : Nat} (h : m Γ st = .ok d s) (hd : deref s d = x) (g : Gd n L x) (hn : n ≤ 60) (hL : L ≤ 16777216) : eB bRepr (eCons m eNil) Γ st = .ok (.str (shw x)) s := by
  rw [eB_ap, eCons_ap, h, ok_bind, eNil_ap, ok_bind, ok_bind]
  show bRepr [deref s d] s = _
  rw [hd]
  exact g.repr hn hL s
theorem gd_names {xs : List Str} (h : ∀ x ∈ xs, Tg x) (hl : xs.length ≤ 4000) : Gd 1 16777216 (.lst (xs.map .str)) :=
  (gd_lst (n := 0) (L := 1000) fun d hd => by obtain ⟨x, hx, rfl⟩ := List.mem_map.mp hd; exact (h x hx).gd).mono (Nat.le_refl _) (by rw [List.length_map]; omega)
theorem gd_rows {z n : Nat} {l : KV} (h : MapOK TgD z n l) (hn : n ≤ 1000) : Gd 1 16777216 (.dct (Fd l)) := by
  have hl := h.len
  have hz := h.hz
  refine (gd_Fd (n := 0) (L := 2000) (fun y hy => gdM 0 2000 ((h.key y hy).1.gd (Nat.le_trans (h.key y hy).2 h.hz.2))) (fun p hp => ?_)).mono (Nat.le_refl _) (by
    have : l.length * (2 * 2000 + 4) ≤ 1000 * (2 * 2000 + 4) := Nat.mul_le_mul_right _ (by omega)
    omega)
  obtain ⟨x, e, t⟩ := h.val p hp
  rw [e]; exact gdM 0 2000 t.gd
theorem ne_self (x : Str) (st : Store) : oNeX (.str x) (.str x) st = .ok (.bl false) st := by
  rw [oNeX_ap, dEqX_ns (.inr ⟨x, rfl⟩) (.inr ⟨x, rfl⟩), eqB_self (.inr ⟨x, rfl⟩)]; rfl
theorem noDctL_strs : ∀ xs : List Str, noDctL (xs.map .str) = true
  | [] => rfl
  | x :: xs => by rw [List.map_cons, noDctL, noDctL_strs xs]; rfl
theorem flat_tg {l : KV} (h : ∀ p ∈ l, TgD p.2) : flatO (.dct (Fd l)) = true := by
  unfold flatO
  rw [List.all_eq_true]
  intro p hp
  obtain ⟨q, hq, rfl⟩ := List.mem_map.mp hp
  obtain ⟨i, hi, _⟩ := h q hq
  show noDct q.2 = true
  rw [hi]; rfl
theorem tg_zz : Tg "zz" := ⟨by decide +kernel, by decide +kernel, by decide +kernel⟩
abbrev G07 (z : Nat) (O L : KV) (a3 a4 a5 : Sl) : DEnv := [.sh (mapD "Table" z O), .sh (.int z), .sh (.dct (Fd L)), a3, a4, a5, .no]
theorem b1R {z : Nat} {O L : KV} (h : MapOK TgD z 1000 O) (hL : ∀ p ∈ L, TgD p.2) (hn : L.length ≤ 1000) (hs : sset (vS L) = sset (vS O)) (a4 a5 : Sl) (s : Store) :
    ∃ ts, ts.all flatO = true ∧ B__law_right_1 (G07 z O L (.sh (.dct (Fd O))) a4 a5) s = .nx (G07 z O L (.sh (.dct (Fd O))) a4 (.sh (.ref s.length))) (s ++ ts) := by
  have hl := h.len
  obtain ⟨T, hT⟩ : ∃ T, T = sset (vS O) := ⟨_, rfl⟩
  have tT : ∀ x ∈ T, Tg x := by rw [hT]; exact sset_tg h.val
  have lT : T.length ≤ 1000 := by rw [hT]; have := sset_len (vS O); rw [vS_len] at this; omega
  obtain ⟨G, hG⟩ : ∃ G, G = G07 z O L (.sh (.dct (Fd O))) a4 (.sh (.ref s.length)) := ⟨_, rfl⟩
  obtain ⟨s1, hs1⟩ : ∃ s1, s1 = s ++ [.lst (T.map .str)] := ⟨_, rfl⟩
  have g1 : s1[s.length]? = some (.lst (T.map .str)) := by rw [hs1]; simp
  have v0 : ∀ st, eVar 0 G st = .ok (mapD "Table" z O) st := fun st => by rw [hG]; rfl
  have v1 : ∀ st, eVarB 1 G st = .ok (.int z) st := fun st => by rw [hG]; rfl
  have v2 : ∀ st, eVarB 2 G st = .ok (.dct (Fd L)) st := fun st => by rw [hG]; rfl
  have v3 : ∀ st, eVarB 3 G st = .ok (.dct (Fd O)) st := fun st => by rw [hG]; rfl
  have v5 : ∀ st, eVar 5 G st = .ok (.ref s.length) st := fun st => by rw [hG]; rfl
  have v5b : ∀ st, eVarB 5 G st = .ok (.ref s.length) st := fun st => by rw [hG]; rfl
  have e1 : sAsg 5 (eProp [("Table", D_Table_targets_st)] (eVar 0)) (G07 z O L (.sh (.dct (Fd O))) a4 a5) s = .nx G s1 := by
    unfold sAsg
    rw [propT (z := z) (l := O) (F := D_Table_targets_st) rfl rfl (targets_stX h.val (by omega) _), hG, hs1, hT]
    rfl
  have c1 : eOp oNeX (eB bRepr (eCons (eVarB 5) eNil)) (eB bRepr (eCons (eSortSet (eVals (eVarB 2))) eNil)) G s1 = .ok (.bl false) s1 := by
    rw [eOp_ap, e_repr (d := .ref s.length) (s := s1) (x := .lst (T.map .str)) (v5b _) (by rw [deref_ref, g1]; rfl) (gd_names tT (by omega)) (by decide) (by decide), ok_bind, e_repr (d := .lst (T.map .str)) (s := s1) (x := .lst (T.map .str)) (by rw [ssetX (v2 _) hL (by omega), hs, hT]) rfl (gd_names tT (by omega)) (by decide) (by decide), ok_bind]
    exact ne_self _ _
  obtain ⟨s2, hs2⟩ : ∃ s2, s2 = s1 ++ [.dct (Fd O)] := ⟨_, rfl⟩
  have g2 : s2[s1.length]? = some (.dct (Fd O)) := by rw [hs2]; simp
  have c2 : eOr (eOp oNeX (eB bRepr (eCons (eProp [("PrefixMap", D_PrefixMap_rows_st), ("Table", D_PrefixMap_rows_st)] (eVar 0)) eNil)) (eB bRepr (eCons (eVarB 3) eNil))) (eOp oNeX (eProp [("PrefixMap", D_PrefixMap_width), ("Table", D_PrefixMap_width)] (eVar 0)) (eVarB 1)) G s1 = .ok (.bl false) s2 := by
    rw [eOr_ap, eOp_ap, e_repr (d := .ref s1.length) (s := s2) (x := .dct (Fd O)) (by rw [propT (z := z) (l := O) (F := D_PrefixMap_rows_st) (v0 _) rfl (rows_stX _), hs2]) (by rw [deref_ref, g2]; rfl) (gd_rows h (by omega)) (by decide) (by decide), ok_bind, e_repr (d := .dct (Fd O)) (s := s2) (x := .dct (Fd O)) (v3 _) rfl (gd_rows h (by omega)) (by decide) (by decide), ok_bind]
    show ER.bind (oNeX (.str _) (.str _) s2) _ = _
    rw [ne_self, ok_bind]
    dsimp only
    rw [eOp_ap, propT (z := z) (l := O) (F := D_PrefixMap_width) (v0 _) rfl (widthX _), ok_bind, v1, ok_bind]
    simp -implicitDefEqProofs
  have gs2 : s2[s.length]? = some (.lst (T.map .str)) := by rw [hs2, List.getElem?_append_left (getElem?_lt g1)]; exact g1
  obtain ⟨s3, hs3⟩ : ∃ s3, s3 = s2.set s.length (.lst (T.map .str ++ [.str "zz"])) := ⟨_, rfl⟩
  refine ⟨[.lst (T.map .str ++ [.str "zz"]), .dct (Fd O), .dct (Fd (putS O "0" (.str "zz")))], ?_, ?_⟩
  · have f1 : flatO (.lst (T.map .str ++ [.str "zz"])) = true := by
      have := noDctL_strs (T ++ [("zz" : Str)])
      rw [List.map_append] at this
      exact this
    have f2 := flat_tg h.val
    have f3 : flatO (.dct (Fd (putS O "0" (.str "zz")))) = true := flat_tg (putS_all (P := fun p => TgD p.2) h.val ⟨_, rfl, tg_zz⟩)
    rw [List.all_cons, f1, List.all_cons, f2, List.all_cons, f3]; rfl
  unfold B__law_right_1
  rw [sSeq_ap, e1, nx_bind, sSeq_ap, sIf_ap, c1, ok_bs]
  dsimp only
  rw [sSkip_ap, nx_bind, sSeq_ap, sIf_ap, c2, ok_bs]
  dsimp only
  rw [sSkip_ap, nx_bind, sSeq_ap, sAppR_ap, v5, ok_bs]
  dsimp only
  rw [gs2]
  dsimp only
  rw [eC_ap, ok_bs, gs2]
  dsimp only
  rw [if_pos (by rw [List.length_map]; omega), ← hs3, nx_bind, sSubX_ap, eC_ap, ok_bs, propT (z := z) (l := O) (F := D_PrefixMap_rows_st) (v0 _) rfl (rows_stX _), ok_bs, eC_ap, ok_bs]
  dsimp only
  rw [getLast1]
  dsimp only
  rw [setX_Fd (by omega)]
  dsimp only
  rw [setLast, hs3, hs2, hs1, ← hG]
  congr 1
  simp
end DL
namespace DL
open PySem L2
theorem sortedLX {i : Nat} {L : KV} {Γ : DEnv} {st : Store} {me : EM} {vs : List Nat} {g : GM} (hv : eVarB i Γ st = .ok (.dct (Fd L)) st) (nd : (ks L).Nodup) (hl : L.length ≤ 1000) (hm : ∀ y ∈ ks L, ∃ Γ1, g (.str y) (wipeE Γ vs) = some Γ1 ∧ me Γ1 st = .ok (pD (y, (valS L y).getD .non)) st) :
    eLc vs (eIterX (eB bSortedX (eCons (eVarB i) eNil))) g eYes me Γ st = .ok (.lst ((ordS L).map pD)) st := by
  have e : (ordS L).map pD = (srtS (ks L)).map fun k => pD (k, (valS L k).getD .non) := by unfold ordS; rw [List.map_map]; rfl
  rw [e]
  refine lc_map .str (srtS (ks L)) _ ?_ (by rw [(srtS_perm _).length_eq, ks_len]; omega) (fun y hy => hm y ((srtS_perm _).mem_iff.mp hy))
  have hb : eB bSortedX (eCons (eVarB i) eNil) Γ st = .ok (.lst ((srtS (ks L)).map .str)) st := by
    rw [eB_ap, eCons_ap, hv, ok_bind, eNil_ap, ok_bind, ok_bind]
    exact bSortedX_F
  rw [eIterX_ap, hb, ok_bind]
theorem ks_take (l : KV) (j : Nat) : ks (l.take j) = (ks l).take j := by unfold ks; rw [List.map_take]
theorem pyT {n : Nat} {z : Nat} {l : KV} (h : MapOK TgD z n l) : Py 2 (.lst (l.map pD)) := py_lst fun x hx => by
  obtain ⟨p, hp, rfl⟩ := List.mem_map.mp hx
  refine py_tup fun y hy => ?_
  simp only [List.mem_cons, List.not_mem_nil, or_false] at hy
  rcases hy with rfl | rfl
  · exact py_str (h.key p.1 (List.mem_map_of_mem hp)).1.ok
  · obtain ⟨x, e, t⟩ := h.val p hp
    rw [e]; exact py_str t.ok
theorem rightT {z : Nat} {L : KV} (hL : MapOK TgD z 1000 L) (s : Store) : ∃ ts, ts.all flatO = true ∧ D__law_right [mapD "Table" z (ordS L), .int z, .dct (Fd L)] s = .ok (.bl true) (s ++ ts) := by
  have h : MapOK TgD z 1000 (ordS L) := hL.ord
  have hl := h.len
  have hll := hL.len
  have hm : mergeD [] (Fd (ordS L)) = Fd (ordS L) := (Fd_merge (ordS L) []).trans (by rw [mergeS_nil (ordS_nd hL.nd)])
  have hC : C__law_right_1 (G07 z (ordS L) L .no .no .no) s = .ok (.lst ((ordS L).map pD)) s := by
    unfold C__law_right_1
    refine sortedLX (i := 2) rfl hL.nd (by omega) (fun y hy => ⟨[.sh (mapD "Table" z (ordS L)), .sh (.int z), .sh (.dct (Fd L)), .no, .no, .no, .sh (.str y)], rfl, ?_⟩)
    obtain ⟨v, hv, _⟩ := valS_some hy
    simp -implicitDefEqProofs [-getElem?_pos, keyD, Fd_val, hv, pD]
  have hs := (vS_ord hL.nd).symm
  have : Ev (D__law_right [mapD "Table" z (ordS L), .int z, .dct (Fd L)] s) fun d s' => d = .bl true ∧ ∃ ts, ts.all flatO = true ∧ s' = s ++ ts := by
    unfold D__law_right
    refine e_runΓ (G07 z (ordS L) L .no .no .no) rfl rfl ?_
    unfold m__law_right
    generalize ordS L = O at *
    refine w_as (d := .dct (Fd O)) (s := s) ?_ ?_
    · rw [eB_ap, eCons_ap, hC]
      simp -implicitDefEqProofs [-getElem?_pos, pairsD_Fd, hm]
    dsimp only [G07, List.set_cons_succ, List.set_cons_zero]
    refine w_seq (w_rng 2 (fun j Γ s' => (∃ ts, ts.all flatO = true ∧ s' = s ++ ts) ∧ ∃ a4 a5, Γ = G07 z O L (.sh (.dct (Fd O))) a4 a5) (s := s) (by simp -implicitDefEqProofs [-getElem?_pos]) (by omega) ⟨⟨[], rfl, by simp⟩, _, _, rfl⟩ ?_ ?_)
    · rintro j hj Γ s' ⟨⟨ts, ht, rfl⟩, a4, a5, rfl⟩
      obtain ⟨t2, ht2, e⟩ := b1R h hL.val (by omega) hs (.sh (.int j)) a5 (s ++ ts)
      exact ⟨_, rfl, Rn.of e ⟨⟨ts ++ t2, flat_app ht ht2, by simp⟩, _, _, rfl⟩⟩
    rintro Γ s' ⟨⟨ts, ht, rfl⟩, a4, a5, rfl⟩
    dsimp only
    have nr : ∀ p ∈ O, noRef p.2 = true := fun p hp => by obtain ⟨x, e, _⟩ := h.val p hp; rw [e]; rfl
    have hg := genX (z := (z : Int)) (l := O) (mo := eVar 0) (Γ := G07 z O L (.sh (.dct (Fd O))) a4 a5) (st := s ++ ts) (s := s ++ ts) h.nd nr rfl
    refine w_ret (Ev.of (d := .bl true) (s := s ++ ts) ?_ ⟨rfl, ts, ht, rfl⟩)
    have i1 : eB (bIsiO [("Table", [("PrefixMap", false), ("Table", true)])]) (eCons (eVarB 0) (eCons (eC (.cls "Table")) eNil)) (G07 z O L (.sh (.dct (Fd O))) a4 a5) (s ++ ts) = .ok (.bl true) (s ++ ts) := rfl
    have i2 : eB (bIsiO [("PrefixMap", [("PrefixMap", true), ("Table", true)])]) (eCons (eVarB 0) (eCons (eC (.cls "PrefixMap")) eNil)) (G07 z O L (.sh (.dct (Fd O))) a4 a5) (s ++ ts) = .ok (.bl true) (s ++ ts) := rfl
    have i3 : eListY (eGen0 ["PrefixMap", "Table"] "walk" D_PrefixMap_walk (eVar 0)) (G07 z O L (.sh (.dct (Fd O))) a4 a5) (s ++ ts) = .ok (.lst (O.map pD)) (s ++ ts) := by
      unfold eListY
      rw [hg]
      dsimp only
      rw [if_pos (by rw [List.length_map]; omega)]
    have i4 : eItems (eVarB 3) (G07 z O L (.sh (.dct (Fd O))) a4 a5) (s ++ ts) = .ok (.lst (O.map pD)) (s ++ ts) := by
      rw [eItems_ap, show eVarB 3 (G07 z O L (.sh (.dct (Fd O))) a4 a5) (s ++ ts) = .ok (.dct (Fd O)) (s ++ ts) from rfl, ok_bind]
      show ER.ok (.lst ((Fd O).map pairD)) (s ++ ts) = _
      unfold Fd
      rw [List.map_map]; rfl
    show eAnd _ _ (G07 z O L (.sh (.dct (Fd O))) a4 a5) (s ++ ts) = _
    rw [eAnd_ap, i1, ok_bind]
    dsimp only
    rw [eAnd_ap, i2, ok_bind]
    dsimp only
    rw [eOp_ap, i3, ok_bind, i4, ok_bind]
    show oEqX (.lst (O.map pD)) (.lst (O.map pD)) (s ++ ts) = _
    rw [oEqX_ap, (pyT h).eq_self (by decide)]
  obtain ⟨d, s', e, rfl, ts, ht, rfl⟩ := this
  exact ⟨ts, ht, e⟩
/-- Table.of with pairs of rows -/
theorem ofX {z : Nat} {l : KV} (hl : MapOK TgD z 1000 l) (st : Store) : D_Table_of [.cls "Table", .int z, .tup (l.map pD)] st = .ok (mapD "Table" z (ordS l)) (st ++ [.tomb]) := by
  have hll := hl.len
  have : Ev (D_Table_of [.cls "Table", .int z, .tup (l.map pD)] st) fun d s => d = mapD "Table" z (ordS l) ∧ s = st ++ [.tomb] := by
    unfold D_Table_of
    refine e_runΓ [.sh (.cls "Table"), .sh (.int z), .sh (.tup (l.map pD)), .no, .no] rfl rfl ?_
    unfold m_Table_of
    refine w_seq (w_new (Ev.of (d := .dct (Fd [])) (s := st) rfl ?_))
    dsimp only [List.set_cons_succ, List.set_cons_zero]
    refine w_seq (w_for pD l (fun j Γ s => ∃ a4, Γ = [.sh (.cls "Table"), .sh (.int z), .sh (.tup (l.map pD)), .ow (.dct (Fd (l.take j))), a4] ∧ s = st) (s := st) rfl ⟨_, rfl, rfl⟩ ?_ ?_)
    · rintro j p hj Γ s ⟨a4, rfl, rfl⟩
      have hjl := getElem?_lt hj
      have hmem := List.mem_of_getElem? hj
      have hnot : p.1 ∉ ks (l.take j) := fun hh => by
        have hk : (ks l)[j]? = some p.1 := by unfold ks; rw [List.getElem?_map, hj]; rfl
        rw [ks_take] at hh
        obtain ⟨i, hi, e⟩ := List.getElem_of_mem hh
        rw [List.length_take] at hi
        rw [List.getElem_take] at e
        have hi' : (ks l)[i]? = some p.1 := by rw [List.getElem?_eq_getElem (by omega), e]
        have hlt : i < (ks l).length := by omega
        have := (List.getElem?_inj hlt hl.nd).mp (hi'.trans hk.symm)
        omega
      obtain ⟨k, v⟩ := p
      have hnot : k ∉ ks (l.take j) := hnot
      have hin : inD (.str k) (.dct (Fd (l.take j))) = some false := by simp [inD, keyD, Fd_has, hnot]
      have hput : putS (l.take j) k v = l.take (j + 1) := by
        rw [putS_new hnot, List.take_add_one, hj]; rfl
      have hset := setX_Fd (l := l.take j) (k := k) (x := v) (by have := List.length_take_le j l; omega)
      rw [hput] at hset
      obtain ⟨x, hv, tx⟩ := hl.val (k, v) hmem
      have hv : v = .str x := hv
      subst hv
      obtain ⟨k1, k2, k3, k4⟩ := kit_all
      refine ⟨[.sh (.cls "Table"), .sh (.int z), .sh (.tup (l.map pD)), .ow (.dct (Fd (l.take j))), .sh (pD (k, .str x))], rfl, Rn.of (Γ := [.sh (.cls "Table"), .sh (.int z), .sh (.tup (l.map pD)), .ow (.dct (Fd (l.take (j + 1)))), .sh (pD (k, .str x))]) (s := s) ?_ ⟨_, rfl, rfl⟩⟩
      have hc : (eOr (eNot (eB bIsi (eCons (eVarB 4) (eCons (eC (.ty "tuple")) eNil)))) (eOr (eOp oNeX (eB bLen (eCons (eVarB 4) eNil)) (eC (.int 2))) (eOr (eNot (eB bIsi (eCons (eOp oIxX (eVarB 4) (eC (.int 0))) (eCons (eC (.ty "str")) eNil)))) (eOp oIn (eOp oIxX (eVarB 4) (eC (.int 0))) (eVarB 3))))) [.sh (.cls "Table"), .sh (.int z), .sh (.tup (l.map pD)), .ow (.dct (Fd (l.take j))), .sh (pD (k, .str x))] s = .ok (.bl false) s := by
        have a1 : eNot (eB bIsi (eCons (eVarB 4) (eCons (eC (.ty "tuple")) eNil))) [.sh (.cls "Table"), .sh (.int z), .sh (.tup (l.map pD)), .ow (.dct (Fd (l.take j))), .sh (pD (k, .str x))] s = .ok (.bl false) s := rfl
        have a2 : eOp oNeX (eB bLen (eCons (eVarB 4) eNil)) (eC (.int 2)) [.sh (.cls "Table"), .sh (.int z), .sh (.tup (l.map pD)), .ow (.dct (Fd (l.take j))), .sh (pD (k, .str x))] s = .ok (.bl false) s := rfl
        have a3 : eNot (eB bIsi (eCons (eOp oIxX (eVarB 4) (eC (.int 0))) (eCons (eC (.ty "str")) eNil))) [.sh (.cls "Table"), .sh (.int z), .sh (.tup (l.map pD)), .ow (.dct (Fd (l.take j))), .sh (pD (k, .str x))] s = .ok (.bl false) s := rfl
        rw [eOr_ap, a1, ok_bind]
        dsimp only
        rw [eOr_ap, a2, ok_bind]
        dsimp only
        rw [eOr_ap, a3, ok_bind]
        show oIn (.str k) (.dct (Fd (l.take j))) s = _
        unfold oIn
        rw [hin]
      unfold B_Table_of_1
      rw [sSeq_ap, sIf_ap, hc, ok_bs]
      dsimp only
      rw [sSkip_ap, nx_bind]
      simp -implicitDefEqProofs [-getElem?_pos, pD, hset]
    · rintro Γ s ⟨a4, rfl, rfl⟩
      rw [List.take_length]
      refine w_frzX ?_
      rw [frzX_own rfl]
      dsimp only [List.set_cons_succ, List.set_cons_zero]
      refine w_ret (Ev.of (d := mapD "Table" z (ordS l)) (s := s ++ [.tomb]) ?_ ⟨rfl, rfl⟩)
      rw [eMakeV_ap]
      show (if ("Table" : String) = "Table" then eMake "Table" D_PrefixMap___init__ (eCons (eVar 1) (eCons (eVar 3) eNil)) _ s else _) = _
      rw [if_pos rfl]
      exact makeX_Table rfl hl.hz hl.nd hl.len hl.key hl.val (.inl rfl)
  obtain ⟨d, s, e, rfl, rfl⟩ := this
  exact e
end DL
namespace DL
open PySem L2
theorem ordS_ord2 {l : KV} (nd : (ks l).Nodup) : ordS (ordS l) = ordS l := ordS_ext (ordS_nd nd) nd fun k => by rw [ordS_val nd]
theorem flat_drop {l : KV} (h : ∀ p ∈ l, TgD p.2) (k : Key) : flatO (.dct (dropD (Fd l) k)) = true := by
  have := flat_tg h
  unfold flatO at this ⊢
  rw [List.all_eq_true] at this ⊢
  exact fun p hp => this p (by unfold dropD at hp; exact (List.mem_filter.mp hp).1)
theorem copiesT {z : Nat} {L : KV} (hL : MapOK TgD z 900 L) {s : Store} (hf : s.all flatO = true) : ∃ ts, ts.all flatO = true ∧ D__law_copies [.int z, .dct (Fd L)] s = .ok (.bl true) (s ++ ts) := by
  have h : MapOK TgD z 900 (ordS L) := hL.ord
  have hll := hL.len
  have hz := hL.hz
  have hm : mergeD [] (Fd L) = Fd L := (Fd_merge L []).trans (by rw [mergeS_nil hL.nd])
  have hmo : mergeD [] (Fd (ordS L)) = Fd (ordS L) := (Fd_merge (ordS L) []).trans (by rw [mergeS_nil (ordS_nd hL.nd)])
  have hC : ∀ st : Store, C__law_copies_1 [.sh (.int z), .sh (.dct (Fd L)), .no, .no, .no] st = .ok (.lst ((ordS L).map pD)) st := fun st => by
    unfold C__law_copies_1
    refine sortedLX (i := 1) rfl hL.nd (by omega) (fun y hy => ⟨[.sh (.int z), .sh (.dct (Fd L)), .no, .no, .sh (.str y)], rfl, ?_⟩)
    obtain ⟨v, hv, _⟩ := valS_some hy
    simp -implicitDefEqProofs [-getElem?_pos, keyD, Fd_val, hv, pD]
  have oo := ordS_ord2 hL.nd
  have hM : ∀ j : Nat, ∃ M : KV, (j = 0 → M = L) ∧ (j ≠ 0 → M = ordS L) ∧ MapOK TgD z 900 M ∧ ordS M = ordS L := fun j => by
    by_cases q : j = 0
    · exact ⟨L, fun _ => rfl, fun n => absurd q n, hL, rfl⟩
    · exact ⟨ordS L, fun n => absurd n q, fun _ => rfl, h, oo⟩
  have : Ev (D__law_copies [.int z, .dct (Fd L)] s) fun d s' => d = .bl true ∧ ∃ ts, ts.all flatO = true ∧ s' = s ++ ts := by
    unfold D__law_copies
    refine e_runΓ [.sh (.int z), .sh (.dct (Fd L)), .no, .no, .no] rfl rfl ?_
    unfold m__law_copies
    have f1 := flat_tg hL.val
    have f2 := flat_tg h.val
    refine w_seq (w_for (fun i : Nat => D.ref (s.length + i)) [0, 1] (fun j Γ s' => ∃ (a2 a3 : Sl) (ts : Store), Γ = [.sh (.int z), .sh (.dct (Fd L)), a2, a3, .no] ∧ s' = s ++ ts ∧ ts.all flatO = true ∧ (j = 0 → ts[0]? = some (.dct (Fd L))) ∧ (j ≤ 1 → ts[1]? = some (.dct (Fd (ordS L))))) (s := s ++ [.dct (Fd L)] ++ [.dct (Fd (ordS L))]) ?_ ⟨_, _, [.dct (Fd L), .dct (Fd (ordS L))], rfl, by simp, by rw [List.all_cons, f1, List.all_cons, f2]; rfl, fun _ => rfl, fun _ => rfl⟩ ?_ ?_)
    · have e1 : eSt (eB bDictX (eCons (eVarB 1) eNil)) [.sh (.int z), .sh (.dct (Fd L)), .no, .no, .no] s = .ok (.ref s.length) (s ++ [.dct (Fd L)]) := by
        simp -implicitDefEqProofs [-getElem?_pos, hm]
      have e2 : eSt (eB bDictX (eCons C__law_copies_1 eNil)) [.sh (.int z), .sh (.dct (Fd L)), .no, .no, .no] (s ++ [.dct (Fd L)]) = .ok (.ref (s.length + 1)) (s ++ [.dct (Fd L)] ++ [.dct (Fd (ordS L))]) := by
        simp -implicitDefEqProofs [-getElem?_pos, hC, pairsD_Fd, hmo]
      rw [eIterX_ap, eTup_ap, eCons_ap, e1, ok_bind, eCons_ap, e2]
      rfl
    · rintro j i hi Γ s' ⟨a2, a3, ts, rfl, rfl, hts, t0, t1⟩
      have hj : j < 2 := by have := getElem?_lt hi; simpa using this
      have hij : i = j := by
        have : j = 0 ∨ j = 1 := by omega
        rcases this with rfl | rfl <;> (simp at hi; omega)
      subst hij
      obtain ⟨M, m0, m1, hMo, hMe⟩ := hM i
      have ti : ts[i]? = some (.dct (Fd M)) := by
        by_cases q : i = 0
        · rw [m0 q]; subst q; exact t0 rfl
        · have : i = 1 := by omega
          rw [m1 q]; subst this; exact t1 (by omega)
      have hmlen := hMo.len
      have gi : (s ++ ts)[s.length + i]? = some (.dct (Fd M)) := by rw [List.getElem?_append_right (by omega)]; simpa using ti
      have fa : (s ++ ts).all flatO = true := flat_app hf hts
      refine ⟨[.sh (.int z), .sh (.dct (Fd L)), .sh (.ref (s.length + i)), a3, .no], rfl, ?_⟩
      unfold B__law_copies_1
      have mk := makeX_Table (ms := eCons (eVar 0) (eCons (eVar 2) eNil)) (Γ := [.sh (.int z), .sh (.dct (Fd L)), .sh (.ref (s.length + i)), a3, .no]) (st := s ++ ts) (s := s ++ ts) (z := z) (l := M) (a := .ref (s.length + i)) rfl hz hMo.nd (by omega) hMo.key hMo.val (.inr ⟨_, rfl, gi, fa⟩)
      rw [hMe] at mk
      refine w_as mk ?_
      dsimp only [List.set_cons_succ, List.set_cons_zero]
      obtain ⟨N, hN⟩ : ∃ N, N = putS M "1" (.str "zz") := ⟨_, rfl⟩
      have hNv : ∀ p ∈ N, TgD p.2 := by rw [hN]; exact putS_all (P := fun p => TgD p.2) hMo.val ⟨_, rfl, tg_zz⟩
      have hset := setX_Fd (l := M) (k := "1") (x := .str "zz") (by omega)
      rw [← hN] at hset
      have hil : i < ts.length := getElem?_lt ti
      have g1 : (s ++ ts ++ [D.tomb])[s.length + i]? = some (.dct (Fd M)) := by rw [List.getElem?_append_left (getElem?_lt gi)]; exact gi
      obtain ⟨s2, hs2⟩ : ∃ s2, s2 = s ++ (ts ++ [D.tomb]).set i (.dct (Fd N)) := ⟨_, rfl⟩
      have es2 : (s ++ ts ++ [D.tomb]).set (s.length + i) (.dct (Fd N)) = s2 := by
        rw [hs2, List.append_assoc, List.set_append_right _ _ (by omega)]
        simp
      refine w_seq (Rn.of (Γ := [.sh (.int z), .sh (.dct (Fd L)), .sh (.ref (s.length + i)), .sh (mapD "Table" z (ordS L)), .no]) (s := s2) ?_ ?_)
      · rw [sSubX_ap, eC_ap, ok_bs, show eVar 2 [.sh (.int z), .sh (.dct (Fd L)), .sh (.ref (s.length + i)), .sh (mapD "Table" z (ordS L)), .no] (s ++ ts ++ [D.tomb]) = .ok (.ref (s.length + i)) (s ++ ts ++ [D.tomb]) from rfl, ok_bs, eC_ap, ok_bs]
        dsimp only
        rw [g1]
        dsimp only
        rw [hset]
        dsimp only
        rw [es2]
      dsimp only
      have g2 : s2[s.length + i]? = some (.dct (Fd N)) := by
        rw [hs2, List.getElem?_append_right (by omega), Nat.add_sub_cancel_left, List.getElem?_set_self (by rw [List.length_append]; omega)]
      -- the least prefix goes
      obtain ⟨y, hy⟩ : ∃ y, (srtS (ks N))[0]? = some y := by
        have : 0 < (srtS (ks N)).length := by
          rw [(srtS_perm _).length_eq, hN, putS_ks]
          split
          · rename_i hm; exact List.length_pos_of_mem hm
          · simp
        exact ⟨_, List.getElem?_eq_getElem this⟩
      have hyN : y ∈ ks N := (srtS_perm _).mem_iff.mp (List.mem_of_getElem? hy)
      obtain ⟨s3, hs3⟩ : ∃ s3, s3 = s ++ (ts ++ [D.tomb]).set i (.dct (dropD (Fd N) (.inr y))) := ⟨_, rfl⟩
      have es3 : s2.set (s.length + i) (.dct (dropD (Fd N) (.inr y))) = s3 := by
        rw [hs3, hs2, List.set_append_right _ _ (by omega)]
        simp
      refine w_seq (Rn.of (Γ := [.sh (.int z), .sh (.dct (Fd L)), .sh (.ref (s.length + i)), .sh (mapD "Table" z (ordS L)), .no]) (s := s3) ?_ ?_)
      · have eb : eB bSortedX (eCons (eVarB 2) eNil) [.sh (.int z), .sh (.dct (Fd L)), .sh (.ref (s.length + i)), .sh (mapD "Table" z (ordS L)), .no] s2 = .ok (.lst ((srtS (ks N)).map .str)) s2 := by
          rw [eB_ap]
          show ER.bind (ER.ok (.tup [.ref (s.length + i)]) s2) _ = _
          rw [ok_bind]
          show bSortedX [deref s2 (.ref (s.length + i))] s2 = _
          rw [deref_ref, g2]
          exact bSortedX_F
        have ex : eOp oIxX (eB bSortedX (eCons (eVarB 2) eNil)) (eC (.int 0)) [.sh (.int z), .sh (.dct (Fd L)), .sh (.ref (s.length + i)), .sh (mapD "Table" z (ordS L)), .no] s2 = .ok (.str y) s2 := by
          rw [eOp_ap, eb, ok_bind, eC_ap, ok_bind]
          show oIxX (.lst _) (.int 0) s2 = _
          rw [oIxX_l, show L2.atI ((srtS (ks N)).map D.str) 0 = some (.str y) from L2.atI_nat (j := 0) (by rw [List.getElem?_map, hy]; rfl)]
        rw [sDPopR_ap, show eVar 2 [.sh (.int z), .sh (.dct (Fd L)), .sh (.ref (s.length + i)), .sh (mapD "Table" z (ordS L)), .no] s2 = .ok (.ref (s.length + i)) s2 from rfl, ok_bs]
        dsimp only
        rw [g2]
        dsimp only
        rw [ex, ok_bs, g2]
        dsimp only [keyD]
        rw [if_pos (by rw [Fd_has]; simpa using hyN), es3]
      dsimp only
      have hL' : MapOK TgD z 1000 L := hL.mono (by omega)
      obtain ⟨t5, ht5, e5⟩ := rightT hL' s3
      refine w_ifF (s := s3 ++ t5) ?_ (w_skip ⟨_, _, (ts ++ [D.tomb]).set i (.dct (dropD (Fd N) (.inr y))) ++ t5, rfl, by rw [hs3]; simp, flat_app (flat_set (flat_app hts rfl) (flat_drop hNv _)) ht5, fun q => by omega, fun q => ?_⟩)
      · rw [eNot_ap, eCall_ap]
        show ER.bind (D__law_right [mapD "Table" z (ordS L), .int z, .dct (Fd L)] s3) _ = _
        rw [e5]; rfl
      · have hi0 : i = 0 := by omega
        subst hi0
        have h1 := t1 (by omega)
        have hlt1 : 1 < ts.length := getElem?_lt h1
        rw [List.getElem?_append_left (by rw [List.length_set, List.length_append]; omega), List.getElem?_set_ne (by omega), List.getElem?_append_left hlt1]
        exact h1
    · rintro Γ s' ⟨a2, a3, ts, rfl, rfl, hts, t0, t1⟩
      exact w_ret (Ev.of (d := .bl true) (s := s ++ ts) rfl ⟨rfl, ts, hts, rfl⟩)
  obtain ⟨d, s', e, rfl, ts, ht, rfl⟩ := this
  exact ⟨ts, ht, e⟩
end DL
namespace DL
open PySem L2
theorem eqX_Table {z : Int} {l : KV} (nd : (ks l).Nodup) (h : ∀ p ∈ l, Flat p.2) (st : Store) : D_PrefixMap___eq__ [mapD "Table" z l, mapD "Table" z l] st = .ok (.bl true) st := by
  have e := dEqX_self nd h
  have hs : D_PrefixMap_is_same [mapD "Table" z l, mapD "Table" z l] st = .ok (.bl true) st := by
    unfold D_PrefixMap_is_same run m_PrefixMap_is_same mapD
    simp -implicitDefEqProofs [-getElem?_pos, initE, fldS.1, e, List.lookup]
  have hr : D_Table_sort_of_map [mapD "Table" z l] st = .ok (.str "table") st := by
    unfold D_Table_sort_of_map run m_Table_sort_of_map
    simp -implicitDefEqProofs [-getElem?_pos, initE]
  unfold D_PrefixMap___eq__ run m_PrefixMap___eq__
  unfold mapD at hs hr ⊢
  simp -implicitDefEqProofs [-getElem?_pos, initE, hs, hr, nb_sort.1, nb_sort.2, nb_same.1, nb_same.2, bIsiO, List.lookup]
theorem put_ord {l : KV} (nd : (ks l).Nodup) (k : Str) (v : D) : ordS (putS (ordS l) k v) = ordS (putS l k v) :=
  ordS_ext (putS_nd (ordS_nd nd) k v) (putS_nd nd k v) fun q => by rw [valS_put, valS_put, ordS_val nd]
theorem filter_ord {l : KV} (nd : (ks l).Nodup) (p : Str → Bool) : ordS ((ordS l).filter fun q => p q.1) = ordS (l.filter fun q => p q.1) :=
  ordS_ext (nd_filter (ordS_nd nd) p) (nd_filter nd p) fun k => by rw [valS_filter, valS_filter, ordS_val nd]
theorem take_new {l : KV} (nd : (ks l).Nodup) {j : Nat} {p : Str × D} (hj : l[j]? = some p) : p.1 ∉ ks (l.take j) := fun hh => by
  have hjl := getElem?_lt hj
  have hk : (ks l)[j]? = some p.1 := by unfold ks; rw [List.getElem?_map, hj]; rfl
  rw [ks_take] at hh
  obtain ⟨i, hi, e⟩ := List.getElem_of_mem hh
  rw [List.length_take] at hi
  rw [List.getElem_take] at e
  have hi' : (ks l)[i]? = some p.1 := by rw [List.getElem?_eq_getElem (by omega), e]
  have hlt : i < (ks l).length := by omega
  have := (List.getElem?_inj hlt nd).mp (hi'.trans hk.symm)
  omega
theorem put_take {l : KV} (nd : (ks l).Nodup) {j : Nat} {p : Str × D} (hj : l[j]? = some p) : putS (l.take j) p.1 p.2 = l.take (j + 1) := by
  rw [putS_new (take_new nd hj), List.take_add_one, hj]; rfl
theorem drop_cut {l : KV} (nd : (ks l).Nodup) {j : Nat} {p : Str × D} (hj : l[j]? = some p) : (l.drop j).filter (fun q => !decide (q.1 = p.1)) = l.drop (j + 1) ∧ p.1 ∈ ks (l.drop j) := by
  have hjl := getElem?_lt hj
  have hd : l.drop j = p :: l.drop (j + 1) := by
    rw [List.drop_eq_getElem_cons hjl]
    rw [List.getElem?_eq_getElem hjl] at hj
    cases hj; rfl
  have nd2 : (ks (l.drop j)).Nodup := by
    unfold ks at nd ⊢
    rw [List.map_drop]; exact nd.sublist (List.drop_sublist _ _)
  rw [hd] at nd2 ⊢
  have nd3 : p.1 ∉ ks (l.drop (j + 1)) ∧ _ := List.nodup_cons.mp nd2
  refine ⟨?_, List.mem_cons_self⟩
  rw [List.filter_cons, if_neg (by simp), List.filter_eq_self.mpr]
  intro q hq
  have : q.1 ≠ p.1 := fun e => nd3.1 (e ▸ List.mem_map_of_mem hq)
  simp [this]
theorem MapOK.sub {z n : Nat} {l m : KV} (h : MapOK TgD z n l) (hs : m.Sublist l) : MapOK TgD z n m :=
  ⟨h.hz, h.nd.sublist (hs.map _), Nat.le_trans hs.length_le h.len, fun y hy => h.key y ((hs.map _).subset hy), fun p hp => h.val p (hs.subset hp)⟩
theorem methG {q : String × DF} {r : List (String × DF)} {F : DF} {nm : Str} {mo ms : EM} {Γ : DEnv} {st s s2 : Store} {z : Int} {l : KV} {ds : List D} (h1 : mo Γ st = .ok (mapD "Table" z l) s) (h2 : ms Γ s = .ok (.tup ds) s2) (nb : (nm == ("bits" : Str)) = false ∧ (nm == ("held" : Str)) = false) (hF : (q :: r).lookup "Table" = some F) : eMeth (q :: r) nm mo ms Γ st = F (mapD "Table" z l :: ds) s2 := by
  unfold eMeth
  rw [if_neg (by simp), h1, ok_bind]
  have : deref s (mapD "Table" z l) = .ins "Table" [("bits", .int z), ("held", .dct (Fd l))] := rfl
  rw [this]
  dsimp only
  rw [if_pos (by simp [List.lookup, nb.1, nb.2]), hF]
  dsimp only
  rw [h2, ok_bind]
theorem eqT {ma mb : EM} {Γ : DEnv} {st s s2 : Store} {z : Int} {l : KV} (h1 : ma Γ st = .ok (mapD "Table" z l) s) (h2 : mb Γ s = .ok (mapD "Table" z l) s2) (nd : (ks l).Nodup) (ht : ∀ p ∈ l, TgD p.2) : eEqO true [("PrefixMap", ["PrefixMap"], D_PrefixMap___eq__), ("Table", ["PrefixMap", "Table"], D_PrefixMap___eq__)] ma mb Γ st = .ok (.bl false) s2 := by
  have q := eqX_Table (z := z) nd (fun p hp => (ht p hp).flat) s2
  have dz : ∀ st : Store, deref st (mapD "Table" z l) = .ins "Table" [("bits", .int z), ("held", .dct (Fd l))] := fun _ => rfl
  rw [eEqO_ap, h1, ok_bind, h2, ok_bind, dz]
  simp [List.lookup, q]
abbrev L07 (a0 a2 : Sl) (z : Nat) (l : KV) (a5 a6 a7 a8 a9 a10 a11 a12 a13 a14 a15 a16 : Sl) : DEnv := [a0, .sh (.ref 0), a2, .sh (.int z), .sh (.dct (Fd l)), a5, a6, a7, a8, a9, a10, a11, a12, a13, a14, a15, a16]
theorem rightC {Γ : DEnv} {st s : Store} {z : Nat} {O L : KV} {m1 m2 m3 : EM} (h1 : m1 Γ st = .ok (mapD "Table" z O) s) (h2 : m2 Γ s = .ok (.int z) s) (h3 : m3 Γ s = .ok (.dct (Fd L)) s) (hO : O = ordS L) (hL : MapOK TgD z 1000 L) : ∃ ts, ts.all flatO = true ∧ eCall D__law_right (eCons m1 (eCons m2 (eCons m3 eNil))) Γ st = .ok (.bl true) (s ++ ts) := by
  obtain ⟨ts, ht, e⟩ := rightT hL s
  refine ⟨ts, ht, ?_⟩
  rw [eCall_ap, eCons_ap, h1, ok_bind, eCons_ap, h2, ok_bind, eCons_ap, h3]
  subst hO
  exact e
theorem mkT {mz ml : EM} {Γ : DEnv} {st s : Store} {z : Nat} {l : KV} (hl : MapOK TgD z 1000 l) (h1 : mz Γ st = .ok (.int z) st) (h2 : ml Γ st = .ok (.dct (Fd l)) s) : eMake "Table" D_PrefixMap___init__ (eCons mz (eCons ml eNil)) Γ st = .ok (mapD "Table" z (ordS l)) (s ++ [.tomb]) :=
  makeX_Table (by rw [eCons_ap, h1, ok_bind, eCons_ap, h2]; rfl) hl.hz hl.nd hl.len hl.key hl.val (.inl rfl)
theorem ofC {Γ : DEnv} {st : Store} {z : Nat} {l : KV} {m2 ms : EM} (hl : MapOK TgD z 1000 l) (h2 : m2 Γ st = .ok (.int z) st) (h3 : ms Γ st = .ok (.tup (l.map pD)) st) : eCall (starD 2 D_Table_of) (eCons (eC (.cls "Table")) (eCons m2 ms)) Γ st = .ok (mapD "Table" z (ordS l)) (st ++ [.tomb]) := by
  have hll := hl.len
  rw [eCall_ap, eCons_ap, eC_ap, ok_bind, eCons_ap, h2, ok_bind, h3]
  show starD 2 D_Table_of (.cls "Table" :: .int z :: l.map pD) st = _
  unfold starD
  rw [if_pos ⟨by simp, by simp; omega⟩]
  exact ofX hl st
end DL
namespace DL
open PySem L2
theorem MapOK.perm {z n : Nat} {l m : KV} (h : MapOK TgD z n l) (hp : m.Perm l) : MapOK TgD z n m :=
  ⟨h.hz, ((hp.map (fun p : Str × D => p.1)).nodup_iff).mpr h.nd, by rw [hp.length_eq]; exact h.len, fun y hy => h.key y ((hp.map (fun p : Str × D => p.1)).mem_iff.mp hy), fun p q => h.val p (hp.mem_iff.mp q)⟩
theorem ordS_of_perm {z n : Nat} {l m : KV} (h : MapOK TgD z n l) (hp : m.Perm l) : ordS m = ordS l := by
  have hm := h.perm hp
  refine ordS_ext hm.nd h.nd fun k => ?_
  by_cases q : k ∈ ks l
  · obtain ⟨v, hv, hmem⟩ := valS_some q
    rw [hv, valS_of hm.nd (hp.mem_iff.mpr hmem)]
  · have q' : k ∉ ks m := fun z => q ((hp.map (fun p : Str × D => p.1)).mem_iff.mp z)
    rw [valS_none.mpr q, valS_none.mpr q']
theorem at3 {xs : List D} {x0 x1 x2 : D} {r : List D} (h : xs = x0 :: x1 :: x2 :: r) : L2.atI xs 0 = some x0 ∧ L2.atI xs 1 = some x1 ∧ L2.atI xs 2 = some x2 := by
  subst h
  exact ⟨L2.atI_nat (j := 0) rfl, L2.atI_nat (j := 1) rfl, L2.atI_nat (j := 2) rfl⟩
theorem b3M {z : Nat} {l : KV} {p0 p1 p2 : Str × D} {rest : KV} (h : MapOK TgD z 7 l) (hl : l = p0 :: p1 :: p2 :: rest) (a0 a2 a5 a6 a7 a9 a10 a11 a12 a13 a14 a15 a16 : Sl) (st : Store) :
    Rn ((sSeq (sNew 9 (eLst (eCons (eCall (starD 2 D_Table_of) (eCons (eC (.cls "Table")) (eCons (eVar 3) (eCons (eOp oIxX (eVarB 8) (eC (.int 1))) eNil)))) (eCons (eCall (starD 2 D_Table_of) (eCons (eC (.cls "Table")) (eCons (eVar 3) (eCons (eOp oIxX (eVarB 8) (eC (.int 2))) (eCons (eOp oIxX (eVarB 8) (eC (.int 0))) eNil))))) eNil))))
    (sSeq (sApp 9 (eCall (starD 2 D_Table_of) (eCons (eC (.cls "Table")) (eCons (eVar 3) (eCons (eOp oIxX (eVarB 8) (eC (.int 1))) (eCons (eOp oIxX (eVarB 8) (eC (.int 2))) (eCons (eOp oIxX (eVarB 8) (eC (.int 0))) eNil)))))))
    (sSeq (sAsg 10 (eLst (eCons (eB bDictX (eCons (eSl (eVarB 8) (eInt (eC (.int 1))) (eInt (eC (.int 2)))) eNil)) (eCons (eB bDictX (eCons (eLst (eCons (eOp oIxX (eVarB 8) (eC (.int 0))) (eCons (eOp oIxX (eVarB 8) (eC (.int 2))) eNil))) eNil)) (eCons (eB bDictX (eCons (eSl (eVarB 8) (eC .non) (eInt (eC (.int 3)))) eNil)) eNil)))))
    (sIf (eNot (eB bAll (eCons C_law_1 eNil))) (sRet (eC (.bl false))) sSkip)))) (L07 a0 a2 z l a5 a6 a7 (.sh (.lst (l.map pD))) a9 a10 a11 a12 a13 a14 a15 a16) st)
    { nx := fun Γ s => ∃ b9 b10 ts, ts.all flatO = true ∧ s = st ++ ts ∧ Γ = L07 a0 a2 z l a5 a6 a7 (.sh (.lst (l.map pD))) b9 b10 a11 a12 a13 a14 a15 a16 } := by
  have hT : MapOK TgD z 1000 l := h.mono (by omega)
  have s02 : MapOK TgD z 1000 [p0, p2] := hT.sub (by rw [hl]; exact .cons_cons _ (.cons _ (.cons_cons _ (List.nil_sublist _))))
  have s1 : MapOK TgD z 1000 [p1] := hT.sub (by rw [hl]; exact .cons _ (.cons_cons _ (List.nil_sublist _)))
  have s012 : MapOK TgD z 1000 [p0, p1, p2] := hT.sub (by rw [hl]; exact .cons_cons _ (.cons_cons _ (.cons_cons _ (List.nil_sublist _))))
  have q20 : ([p2, p0] : KV).Perm [p0, p2] := List.Perm.swap _ _ _
  have q120 : ([p1, p2, p0] : KV).Perm [p0, p1, p2] := (List.perm_append_comm (l₁ := [p1, p2]) (l₂ := [p0]))
  have o20 := ordS_of_perm s02 q20
  have o120 := ordS_of_perm s012 q120
  have s20 := s02.perm q20
  have s120 := s012.perm q120
  have lm : l.map pD = pD p0 :: pD p1 :: pD p2 :: rest.map pD := by rw [hl]; rfl
  obtain ⟨i0, i1, i2⟩ := at3 lm
  have hlen : (l.map pD).length ≤ 7 := by rw [List.length_map]; exact h.len
  have ix : ∀ (a9 a10 a13 : Sl) (k : Int) (x : D) (st : Store), L2.atI (l.map pD) k = some x → eOp oIxX (eVarB 8) (eC (.int k)) (L07 a0 a2 z l a5 a6 a7 (.sh (.lst (l.map pD))) a9 a10 a11 a12 a13 a14 a15 a16) st = .ok x st := fun a9 a10 a13 k x st e => by
    show oIxX (.lst (l.map pD)) (.int k) st = _
    rw [oIxX_l, e]
  refine w_seq (w_new (Ev.of (d := .lst [mapD "Table" z (ordS [p1]), mapD "Table" z (ordS [p0, p2])]) (s := st ++ [.tomb] ++ [.tomb]) ?_ ?_))
  · have c1 := ofC (l := [p1]) (m2 := eVar 3) (ms := eCons (eOp oIxX (eVarB 8) (eC (.int 1))) eNil) (Γ := L07 a0 a2 z l a5 a6 a7 (.sh (.lst (l.map pD))) a9 a10 a11 a12 a13 a14 a15 a16) (st := st) s1 rfl (by rw [eCons_ap, ix _ _ _ _ _ _ i1]; rfl)
    have c2 := ofC (l := [p2, p0]) (m2 := eVar 3) (ms := eCons (eOp oIxX (eVarB 8) (eC (.int 2))) (eCons (eOp oIxX (eVarB 8) (eC (.int 0))) eNil)) (Γ := L07 a0 a2 z l a5 a6 a7 (.sh (.lst (l.map pD))) a9 a10 a11 a12 a13 a14 a15 a16) (st := st ++ [.tomb]) s20 rfl (by rw [eCons_ap, ix _ _ _ _ _ _ i2, ok_bind, eCons_ap, ix _ _ _ _ _ _ i0]; rfl)
    rw [o20] at c2
    rw [eLst_ap, eCons_ap, c1, ok_bind, eCons_ap, c2]
    rfl
  dsimp only [L07, List.set_cons_succ, List.set_cons_zero]
  refine w_seq (w_app (xs := [mapD "Table" z (ordS [p1]), mapD "Table" z (ordS [p0, p2])]) rfl (by simp) (Ev.of (d := mapD "Table" z (ordS [p0, p1, p2])) (s := st ++ [.tomb] ++ [.tomb] ++ [.tomb]) ?_ ?_))
  · have c3 := ofC (l := [p1, p2, p0]) (m2 := eVar 3) (ms := eCons (eOp oIxX (eVarB 8) (eC (.int 1))) (eCons (eOp oIxX (eVarB 8) (eC (.int 2))) (eCons (eOp oIxX (eVarB 8) (eC (.int 0))) eNil))) (Γ := L07 a0 a2 z l a5 a6 a7 (.sh (.lst (l.map pD))) (.ow (.lst [mapD "Table" z (ordS [p1]), mapD "Table" z (ordS [p0, p2])])) a10 a11 a12 a13 a14 a15 a16) (st := st ++ [.tomb] ++ [.tomb]) s120 rfl (by
      rw [eCons_ap, ix _ _ _ _ _ _ i1, ok_bind, eCons_ap, ix _ _ _ _ _ _ i2, ok_bind, eCons_ap, ix _ _ _ _ _ _ i0]; rfl)
    rw [o120] at c3
    exact c3
  dsimp only [List.set_cons_succ, List.set_cons_zero]
  obtain ⟨M, hM⟩ : ∃ M, M = [mapD "Table" z (ordS [p1]), mapD "Table" z (ordS [p0, p2])] ++ [mapD "Table" z (ordS [p0, p1, p2])] := ⟨_, rfl⟩
  obtain ⟨s8, hs8⟩ : ∃ s8, s8 = st ++ [D.tomb] ++ [.tomb] ++ [.tomb] := ⟨_, rfl⟩
  rw [← hM, ← hs8]
  have dd : ∀ {L : KV} (st : Store), MapOK TgD z 1000 L → bDictX [.lst (L.map pD)] st = .ok (.dct (Fd L)) st := fun st h => dict_pairs h.nd st
  refine w_seq (w_asg (Ev.of (d := .lst [.dct (Fd [p1]), .dct (Fd [p0, p2]), .dct (Fd [p0, p1, p2])]) (s := s8) ?_ ?_))
  · obtain ⟨G, hG⟩ : ∃ G, G = L07 a0 a2 z l a5 a6 a7 (.sh (.lst (l.map pD))) (.ow (.lst M)) a10 a11 a12 a13 a14 a15 a16 := ⟨_, rfl⟩
    have v8 : eVarB 8 G s8 = .ok (.lst (l.map pD)) s8 := by rw [hG]; rfl
    have k0 := ix (.ow (.lst M)) a10 a13 0 _ s8 i0
    have k2 := ix (.ow (.lst M)) a10 a13 2 _ s8 i2
    rw [← hG] at k0 k2
    have d1 : eB bDictX (eCons (eSl (eVarB 8) (eInt (eC (.int 1))) (eInt (eC (.int 2)))) eNil) G s8 = .ok (.dct (Fd [p1])) s8 := by
      have : eSl (eVarB 8) (eInt (eC (.int 1))) (eInt (eC (.int 2))) G s8 = .ok (.lst ([p1].map pD)) s8 := by
        rw [eSl_ap, v8, ok_bind, lm]
        simp -implicitDefEqProofs [cutL, HT.sIx]
      rw [eB_ap, eCons_ap, this, ok_bind]
      exact dd s8 s1
    have d2 : eB bDictX (eCons (eLst (eCons (eOp oIxX (eVarB 8) (eC (.int 0))) (eCons (eOp oIxX (eVarB 8) (eC (.int 2))) eNil))) eNil) G s8 = .ok (.dct (Fd [p0, p2])) s8 := by
      rw [eB_ap, eCons_ap, eLst_ap, eCons_ap, k0, ok_bind, eCons_ap, k2]
      exact dd s8 s02
    have d3 : eB bDictX (eCons (eSl (eVarB 8) (eC .non) (eInt (eC (.int 3)))) eNil) G s8 = .ok (.dct (Fd [p0, p1, p2])) s8 := by
      have : eSl (eVarB 8) (eC .non) (eInt (eC (.int 3))) G s8 = .ok (.lst ([p0, p1, p2].map pD)) s8 := by
        rw [eSl_ap, v8, ok_bind, lm]
        simp -implicitDefEqProofs [cutL, HT.sIx]
      rw [eB_ap, eCons_ap, this, ok_bind]
      exact dd s8 s012
    show eLst _ (L07 a0 a2 z l a5 a6 a7 (.sh (.lst (l.map pD))) (.ow (.lst M)) a10 a11 a12 a13 a14 a15 a16) s8 = _
    rw [← hG, eLst_ap, eCons_ap, d1, ok_bind, eCons_ap, d2, ok_bind, eCons_ap, d3]
    rfl
  dsimp only [List.set_cons_succ, List.set_cons_zero]
  have hC : Ev (C_law_1 (L07 a0 a2 z l a5 a6 a7 (.sh (.lst (l.map pD))) (.ow (.lst M)) (.sh (.lst [.dct (Fd [p1]), .dct (Fd [p0, p2]), .dct (Fd [p0, p1, p2])])) a11 a12 a13 a14 a15 a16) s8) fun d s => ∃ ts, ts.all flatO = true ∧ d = .lst [.bl true, .bl true, .bl true] ∧ s = s8 ++ ts := by
    unfold C_law_1
    refine e_rng (β := Unit) (fun _ => .bl true) 3 (fun _ _ => True) (fun j s => ∃ ts, ts.all flatO = true ∧ s = s8 ++ ts) (s := s8) rfl (by omega) ⟨[], rfl, by simp⟩ ?_ ?_
    · rintro j hj s ⟨ts, ht, rfl⟩
      refine ⟨L07 a0 a2 z l a5 a6 a7 (.sh (.lst (l.map pD))) (.ow (.lst M)) (.sh (.lst [.dct (Fd [p1]), .dct (Fd [p0, p2]), .dct (Fd [p0, p1, p2])])) a11 a12 (.sh (.int j)) a14 a15 a16, rfl, ?_⟩
      have go : ∀ (L : KV), MapOK TgD z 1000 L → L2.atI M (j : Int) = some (mapD "Table" z (ordS L)) → L2.atI [D.dct (Fd [p1]), .dct (Fd [p0, p2]), .dct (Fd [p0, p1, p2])] (j : Int) = some (.dct (Fd L)) → Ev (eCall D__law_right (eCons (eOp oIxX (eVarB 9) (eVarB 13)) (eCons (eVar 3) (eCons (eOp oIxX (eVarB 10) (eVarB 13)) eNil))) (L07 a0 a2 z l a5 a6 a7 (.sh (.lst (l.map pD))) (.ow (.lst M)) (.sh (.lst [.dct (Fd [p1]), .dct (Fd [p0, p2]), .dct (Fd [p0, p1, p2])])) a11 a12 (.sh (.int j)) a14 a15 a16) (s8 ++ ts)) fun d s => ∃ y : Unit, d = .bl true ∧ True ∧ ∃ ts, ts.all flatO = true ∧ s = s8 ++ ts := fun L hL e1 e2 => by
        obtain ⟨t2, ht2, c⟩ := rightC (m1 := eOp oIxX (eVarB 9) (eVarB 13)) (m2 := eVar 3) (m3 := eOp oIxX (eVarB 10) (eVarB 13)) (Γ := L07 a0 a2 z l a5 a6 a7 (.sh (.lst (l.map pD))) (.ow (.lst M)) (.sh (.lst [.dct (Fd [p1]), .dct (Fd [p0, p2]), .dct (Fd [p0, p1, p2])])) a11 a12 (.sh (.int j)) a14 a15 a16) (st := s8 ++ ts) (s := s8 ++ ts) (z := z) (O := ordS L) (L := L)
          (by show oIxX (.lst M) (.int j) _ = _; rw [oIxX_l, e1]) rfl (by show oIxX (.lst _) (.int j) _ = _; rw [oIxX_l, e2]) rfl hL
        exact Ev.of c ⟨(), rfl, trivial, ts ++ t2, flat_app ht ht2, by simp⟩
      have : j = 0 ∨ j = 1 ∨ j = 2 := by omega
      rcases this with rfl | rfl | rfl
      · exact go [p1] s1 (by rw [hM]; exact L2.atI_nat (j := 0) rfl) (L2.atI_nat (j := 0) rfl)
      · exact go [p0, p2] s02 (by rw [hM]; exact L2.atI_nat (j := 1) rfl) (L2.atI_nat (j := 1) rfl)
      · exact go [p0, p1, p2] s012 (by rw [hM]; exact L2.atI_nat (j := 2) rfl) (L2.atI_nat (j := 2) rfl)
    · rintro ys s hR ⟨ts, ht, rfl⟩
      have hl3 := pd_len hR
      match ys, hl3 with
      | [_, _, _], _ => exact ⟨ts, ht, rfl, rfl⟩
  obtain ⟨d, s9, e9, ts, ht, rfl, rfl⟩ := hC
  refine w_ifF (s := s8 ++ ts) ?_ (w_skip ⟨_, _, [.tomb] ++ [.tomb] ++ [.tomb] ++ ts, flat_app rfl ht, by rw [hs8]; simp, rfl⟩)
  rw [eNot_ap, eB_ap, eCons_ap]
  show ER.bind (ER.bind (ER.bind (C_law_1 (L07 a0 a2 z l a5 a6 a7 (.sh (.lst (l.map pD))) (.ow (.lst M)) (.sh (.lst [.dct (Fd [p1]), .dct (Fd [p0, p2]), .dct (Fd [p0, p1, p2])])) a11 a12 a13 a14 a15 a16) s8) _) _) _ = _
  rw [e9]
  rfl
end DL
namespace DL
open PySem L2
theorem b3L {ns : List Int} {c : Int} {e : Nat} {r st : Store} (hp : PenX ns c e r st) (hf : r.all flatO = true) (hc : 0 ≤ c ∧ c < 900000) (he : e < 100) (a0 a2 a3 a4 a5 a6 a7 a8 a9 a10 a11 a12 a13 a14 a15 a16 : Sl) :
    Rn (B_law_3 [a0, .sh (.ref 0), a2, a3, a4, a5, a6, a7, a8, a9, a10, a11, a12, a13, a14, a15, a16] st) { nx := fun Γ s => ∃ b3 b4 b5 b6 b7 b8 b9 b10 b13 r', r'.all flatO = true ∧ Γ = [a0, .sh (.ref 0), a2, b3, b4, b5, b6, b7, b8, b9, b10, a11, a12, b13, a14, a15, a16] ∧ PenX ns (c + 50000) (e + 1) r' s } := by
  obtain ⟨z, st1, e1, z1, z32, hp1⟩ := sizeX hp (by omega) (by omega)
  obtain ⟨l, st2, e2, nd, ln, gk, gv, hp2⟩ := linesX hp1 (z := z) (m := 7) ⟨z1, z32⟩ (by omega) (by omega)
  have h : MapOK TgD z 7 l := ⟨⟨z1, z32⟩, nd, ln, gk, fun p hp => (gv p hp).tg⟩
  have hT : MapOK TgD z 1000 l := h.mono (by omega)
  have h0 : MapOK TgD z 1000 [] := ⟨⟨z1, z32⟩, by simp [ks], by simp, by simp [ks], by simp⟩
  rw [show ((7 : Nat) : Int) = 7 from rfl] at e2
  unfold B_law_3
  refine w_as (d := .int z) (s := st1) (by simp -implicitDefEqProofs [-getElem?_pos, e1]) ?_
  dsimp only [List.set_cons_succ, List.set_cons_zero]
  refine w_as (d := .dct (Fd l)) (s := st2) (by simp -implicitDefEqProofs [-getElem?_pos, e2]) ?_
  dsimp only [List.set_cons_succ, List.set_cons_zero]
  have hrr : ∃ r2, r2.all flatO = true ∧ PenX ns (c + 50000) (e + 1) r2 st2 := ⟨r, hf, hp2.mono (by omega)⟩
  clear hp hp1 hp2 hf e1 e2
  obtain ⟨r2, hf2, hp2⟩ := hrr
  -- step, back
  refine w_seq (Rn.of (Γ := L07 a0 a2 z l (.sh (mapD "Table" z (ordS (l.take 0)))) (.sh (mapD "Table" z (ordS (l.drop 0)))) a7 a8 a9 a10 a11 a12 a13 a14 a15 a16) (s := st2 ++ [.tomb] ++ [.tomb]) ?_ ?_)
  · have m1 := mkT (mz := eVar 3) (ml := eDnew) (Γ := L07 a0 a2 z l a5 a6 a7 a8 a9 a10 a11 a12 a13 a14 a15 a16) (st := st2) (s := st2) h0 rfl rfl
    have m2 := mkT (mz := eVar 3) (ml := eVar 4) (Γ := L07 a0 a2 z l a5 a6 a7 a8 a9 a10 a11 a12 a13 a14 a15 a16) (st := st2 ++ [.tomb]) (s := st2 ++ [.tomb]) hT rfl rfl
    show (eCons _ _ (L07 a0 a2 z l a5 a6 a7 a8 a9 a10 a11 a12 a13 a14 a15 a16) st2).bs _ _ = _
    rw [eCons_ap, m1, ok_bind, eCons_ap, m2]
    rfl
  dsimp only
  have tombs : ([D.tomb] : Store).all flatO = true := rfl
  refine w_seq (w_for .str (ks l) (fun j Γ s => ∃ (a7 : Sl) (r' : Store), r'.all flatO = true ∧ Γ = L07 a0 a2 z l (.sh (mapD "Table" z (ordS (l.take j)))) (.sh (mapD "Table" z (ordS (l.drop 0)))) a7 a8 a9 a10 a11 a12 a13 a14 a15 a16 ∧ PenX ns (c + 50000) (e + 1) r' s) (s := st2 ++ [.tomb] ++ [.tomb]) ?_ ⟨_, _, flat_app (flat_app hf2 tombs) tombs, rfl, (hp2.app _).app _⟩ ?_ ?_)
  · simp -implicitDefEqProofs [-getElem?_pos, L07, Fd_keys]
  · rintro j y hy Γ s ⟨a7, r', hf', rfl, hs⟩
    have hym := List.mem_of_getElem? hy
    have hjl := getElem?_lt hy
    rw [ks_len] at hjl
    obtain ⟨p, hj⟩ : ∃ p, l[j]? = some p := ⟨_, List.getElem?_eq_getElem hjl⟩
    have hpy : p.1 = y := by
      unfold ks at hy
      rw [List.getElem?_map, hj] at hy
      exact Option.some.inj hy
    subst hpy
    have hpm := List.mem_of_getElem? hj
    have hv := valS_of nd (show (p.1, p.2) ∈ l from hpm)
    have hw := with_rowX_Table (k := p.1) (v := p.2) (h.sub (List.take_sublist j l)).ord (by decide) (gk _ hym) (h.val p hpm) s
    rw [put_ord (nd.sublist ((List.take_sublist j l).map _)), put_take nd hj] at hw
    refine ⟨L07 a0 a2 z l (.sh (mapD "Table" z (ordS (l.take j)))) (.sh (mapD "Table" z (ordS (l.drop 0)))) (.sh (.str p.1)) a8 a9 a10 a11 a12 a13 a14 a15 a16, rfl, ?_⟩
    unfold B_law_1
    refine w_asg (Ev.of (d := mapD "Table" z (ordS (l.take (j + 1)))) (s := s ++ [.tomb]) ?_ ⟨_, _, flat_app hf' tombs, rfl, hs.app _⟩)
    have ei : eOp oIxX (eVarB 4) (eVarB 7) (L07 a0 a2 z l (.sh (mapD "Table" z (ordS (l.take j)))) (.sh (mapD "Table" z (ordS (l.drop 0)))) (.sh (.str p.1)) a8 a9 a10 a11 a12 a13 a14 a15 a16) s = .ok p.2 s := by
      show oIxX (.dct (Fd l)) (.str p.1) s = _
      rw [oIxX_d]
      dsimp only [keyD]
      rw [Fd_val, hv]
    rw [methG (z := z) (l := ordS (l.take j)) (s := s) (ds := [.str p.1, p.2]) (s2 := s) rfl (by
      rw [eCons_ap, show eVar 7 (L07 a0 a2 z l (.sh (mapD "Table" z (ordS (l.take j)))) (.sh (mapD "Table" z (ordS (l.drop 0)))) (.sh (.str p.1)) a8 a9 a10 a11 a12 a13 a14 a15 a16) s = .ok (.str p.1) s from rfl, ok_bind, eCons_ap, ei]; rfl) nb_with rfl]
    exact hw
  rintro Γ s ⟨a7', r3, hf3, rfl, hp3⟩
  rw [ks_len, List.take_length]
  dsimp only
  refine w_seq (w_for .str (ks l) (fun j Γ s => ∃ (a7 : Sl) (r' : Store), r'.all flatO = true ∧ Γ = L07 a0 a2 z l (.sh (mapD "Table" z (ordS l))) (.sh (mapD "Table" z (ordS (l.drop j)))) a7 a8 a9 a10 a11 a12 a13 a14 a15 a16 ∧ PenX ns (c + 50000) (e + 1) r' s) (s := s) ?_ ⟨_, _, hf3, rfl, hp3⟩ ?_ ?_)
  · simp -implicitDefEqProofs [-getElem?_pos, L07, Fd_keys]
  · rintro j y hy Γ s ⟨a7, r', hf', rfl, hs⟩
    have hjl := getElem?_lt hy
    rw [ks_len] at hjl
    obtain ⟨p, hj⟩ : ∃ p, l[j]? = some p := ⟨_, List.getElem?_eq_getElem hjl⟩
    have hpy : p.1 = y := by
      unfold ks at hy
      rw [List.getElem?_map, hj] at hy
      exact Option.some.inj hy
    subst hpy
    obtain ⟨hcut, hmem⟩ := drop_cut nd hj
    have hd := h.sub (List.drop_sublist j l)
    have hw := withoutX_Table (k := p.1) hd.ord (by decide) ((ordS_mem _ _).mpr hmem) s
    rw [filter_ord hd.nd fun q => !decide (q = p.1), hcut] at hw
    refine ⟨L07 a0 a2 z l (.sh (mapD "Table" z (ordS l))) (.sh (mapD "Table" z (ordS (l.drop j)))) (.sh (.str p.1)) a8 a9 a10 a11 a12 a13 a14 a15 a16, rfl, ?_⟩
    unfold B_law_2
    refine w_asg (Ev.of (d := mapD "Table" z (ordS (l.drop (j + 1)))) (s := s ++ [.tomb]) ?_ ⟨_, _, flat_app hf' tombs, rfl, hs.app _⟩)
    rw [methG (z := z) (l := ordS (l.drop j)) (s := s) (ds := [.str p.1]) (s2 := s) rfl rfl nb_without rfl]
    exact hw
  rintro Γ s ⟨a7, r4, hf4, rfl, hp4⟩
  rw [ks_len, List.drop_length]
  dsimp only
  -- both show their rows
  obtain ⟨G, hG⟩ : ∃ G, G = L07 a0 a2 z l (.sh (mapD "Table" z (ordS l))) (.sh (mapD "Table" z (ordS []))) a7 a8 a9 a10 a11 a12 a13 a14 a15 a16 := ⟨_, rfl⟩
  rw [← hG]
  have v3 : ∀ s, eVar 3 G s = .ok (.int z) s := fun s => by rw [hG]; rfl
  have v4 : ∀ s, eVar 4 G s = .ok (.dct (Fd l)) s := fun s => by rw [hG]; rfl
  have v5 : ∀ s, eVar 5 G s = .ok (mapD "Table" z (ordS l)) s := fun s => by rw [hG]; rfl
  have v6 : ∀ s, eVar 6 G s = .ok (mapD "Table" z (ordS [])) s := fun s => by rw [hG]; rfl
  obtain ⟨t1, ht1, c1⟩ := rightC (m1 := eMake "Table" D_PrefixMap___init__ (eCons (eVar 3) (eCons (eVar 4) eNil))) (m2 := eVar 3) (m3 := eVar 4) (Γ := G) (st := s) (mkT hT (v3 _) (v4 _)) (v3 _) (v4 _) rfl hT
  obtain ⟨t2, ht2, c2⟩ := rightC (m1 := eVar 5) (m2 := eVar 3) (m3 := eVar 4) (Γ := G) (st := s ++ [.tomb] ++ t1) (v5 _) (v3 _) (v4 _) rfl hT
  refine w_seq (w_ifF (s := s ++ [.tomb] ++ t1 ++ t2) ?_ (w_skip ?_))
  · rw [eOr_ap, eNot_ap, c1, ok_bind]
    show eNot _ _ _ = _
    rw [eNot_ap, c2]; rfl
  dsimp only
  have hp5 := ((hp4.app [.tomb]).app t1).app t2
  have hf5 := flat_app (flat_app (flat_app hf4 tombs) ht1) ht2
  obtain ⟨s5, hs5⟩ : ∃ s5, s5 = s ++ [.tomb] ++ t1 ++ t2 := ⟨_, rfl⟩
  rw [← hs5] at hp5 ⊢
  clear hs5 c1 c2
  -- equal, empty
  refine w_seq (w_ifF (s := s5 ++ [.tomb] ++ [.tomb]) ?_ (w_skip ?_))
  · rw [eOr_ap, eqT (v5 _) (mkT hT (v3 _) (v4 _)) (ordS_nd nd) hT.ord.val, ok_bind]
    dsimp only
    rw [eOr_ap]
    have el : eOp oNeX (eLenO [("PrefixMap", D_PrefixMap___len__), ("Table", D_PrefixMap___len__)] (eCons (eVar 6) eNil)) (eC (.int 0)) G (s5 ++ [.tomb]) = .ok (.bl false) (s5 ++ [.tomb]) := by
      rw [eOp_ap, e_lenO (x := mapD "Table" z (ordS [])) (s := s5 ++ [.tomb]) (s2 := s5 ++ [.tomb]) (n := ((ordS []).length : Int)) (by rw [eCons_ap, v6]; rfl) rfl rfl (lenMX _) (by omega) (by rw [ordS_len]; decide), ok_bind]
      rw [ordS_len]
      simp -implicitDefEqProofs
    rw [el, ok_bind]
    dsimp only
    exact eqT (v6 _) (ofC (l := []) h0 (v3 _) rfl) (ordS_nd (by simp [ks])) h0.ord.val
  dsimp only
  have hp6 := (hp5.app [.tomb]).app [.tomb]
  have hf6 := flat_app (flat_app hf5 tombs) tombs
  obtain ⟨s6, hs6⟩ : ∃ s6, s6 = s5 ++ [D.tomb] ++ [.tomb] := ⟨_, rfl⟩
  rw [← hs6] at hp6 ⊢
  clear hs6
  obtain ⟨t7, ht7, c7⟩ := copiesT (h.mono (show 7 ≤ 900 by omega)) (hp6.flat hf6)
  refine w_seq (w_ifF (s := s6 ++ t7) ?_ (w_skip ?_))
  · rw [eNot_ap, eCall_ap, eCons_ap, v3, ok_bind, eCons_ap, v4, ok_bind]
    show ER.bind (D__law_copies [.int z, .dct (Fd l)] s6) _ = _
    rw [c7]; rfl
  dsimp only
  have hp7 := hp6.app t7
  have hf7 := flat_app hf6 ht7
  obtain ⟨s7, hs7⟩ : ∃ s7, s7 = s6 ++ t7 := ⟨_, rfl⟩
  rw [← hs7] at hp7 ⊢
  clear hs7 c7
  refine w_as (d := .lst (l.map pD)) (s := s7) ?_ ?_
  · rw [eItems_ap, show eVarB 4 G s7 = .ok (.dct (Fd l)) s7 by rw [hG]; rfl, ok_bind]
    show ER.ok (.lst ((Fd l).map pairD)) s7 = _
    unfold Fd
    rw [List.map_map]; rfl
  rw [hG]
  show Rn (sIf _ _ _ (L07 a0 a2 z l (.sh (mapD "Table" z (ordS l))) (.sh (mapD "Table" z (ordS []))) a7 (.sh (.lst (l.map pD))) a9 a10 a11 a12 a13 a14 a15 a16) s7) _
  have hln := h.len
  have hlt : ∀ b, decide (2 < l.length) = b → eOp oGt (eB bLen (eCons (eVarB 8) eNil)) (eC (.int 2)) (L07 a0 a2 z l (.sh (mapD "Table" z (ordS l))) (.sh (mapD "Table" z (ordS []))) a7 (.sh (.lst (l.map pD))) a9 a10 a11 a12 a13 a14 a15 a16) s7 = .ok (.bl b) s7 := fun b hb => by
    simp -implicitDefEqProofs [-getElem?_pos, L07]
    rw [← hb]
    congr 1
    exact propext ⟨fun q => by omega, fun q => by omega⟩
  match hl3 : l with
  | [] => exact w_ifF (s := s7) (hlt false rfl) (w_skip ⟨_, _, _, _, _, _, _, _, _, _, hf7, rfl, hp7⟩)
  | [p0] => exact w_ifF (s := s7) (hlt false rfl) (w_skip ⟨_, _, _, _, _, _, _, _, _, _, hf7, rfl, hp7⟩)
  | [p0, p1] => exact w_ifF (s := s7) (hlt false rfl) (w_skip ⟨_, _, _, _, _, _, _, _, _, _, hf7, rfl, hp7⟩)
  | p0 :: p1 :: p2 :: rest =>
    refine w_ifT (s := s7) (hlt true (by simp)) ((b3M h rfl _ _ _ _ _ _ _ _ _ _ _ _ _ s7).imp ?_ (fun _ _ h => h.elim) (fun _ _ h => h.elim) (fun _ _ h => h.elim) (fun _ _ _ h => h.elim))
    rintro Γ s' ⟨b9, b10, ts, ht, rfl, rfl⟩
    exact ⟨_, _, _, _, _, _, _, _, _, _, flat_app hf7 ht, rfl, hp7.app ts⟩
end DL
namespace DL
open PySem L2
def wideS : List (Str × Str) := [("00000", "abc"), ("00001", "bcd"), ("00010", "cde"), ("00011", "def"), ("00100", "efg"), ("00101", "fgh"), ("00110", "ghi"), ("00111", "hij"), ("01000", "ijk"), ("01001", "jkl"), ("01010", "klm"), ("01011", "lmn"), ("01100", "mno"), ("01101", "nop"), ("01110", "opq"), ("01111", "pqr"), ("10000", "qrs"), ("10001", "rst"), ("10010", "stu"), ("10011", "tuv"), ("10100", "uvw"), ("10101", "vwx"), ("10110", "wxy"), ("10111", "xyz"), ("11000", "yz"), ("11001", "z")]
def wideL : KV := wideS.map fun q => (q.1, .str q.2)
def tgb (x : Str) : Bool := decide (1 ≤ x.length) && decide (x.length ≤ 8) && x.cps.toList.all fun c => decide (c ∈ lettersS.cps.toList)
theorem tgb_iff {x : Str} (h : tgb x = true) : Tg x := by
  unfold tgb at h
  simp only [Bool.and_eq_true, decide_eq_true_eq, List.all_eq_true] at h
  exact ⟨h.1.1, h.1.2, h.2⟩
theorem ok_of {z : Nat} {s : List (Str × Str)} (hz : 1 ≤ z ∧ z ≤ 32) (nd : (s.map (·.1)).Nodup) (hl : s.length ≤ 1000) (hk : ∀ y ∈ s.map (·.1), Bt y ∧ y.length ≤ z) (hv : (s.all fun q => tgb q.2) = true) : MapOK TgD z 1000 (s.map fun q => (q.1, D.str q.2)) := by
  have hks : ks (s.map fun q => (q.1, D.str q.2)) = s.map (·.1) := by unfold ks; rw [List.map_map]; rfl
  refine ⟨hz, by rw [hks]; exact nd, by rw [List.length_map]; exact hl, fun y hy => hk y (by rw [hks] at hy; exact hy), fun p hp => ?_⟩
  obtain ⟨q, hq, rfl⟩ := List.mem_map.mp hp
  exact ⟨_, rfl, tgb_iff (List.all_eq_true.mp hv q hq)⟩
theorem wide_ok : MapOK TgD 5 1000 wideL := ok_of (by decide) (by decide +kernel) (by decide +kernel) (by decide +kernel) (by decide +kernel)
def manyS : List (Str × Str) := [("", "a"), ("0", "b"), ("1", "c"), ("00", "d"), ("01", "e"), ("10", "f"), ("11", "g")]
def manyL : KV := manyS.map fun q => (q.1, .str q.2)
theorem many_ok : MapOK TgD 3 1000 manyL := ok_of (by decide) (by decide +kernel) (by decide +kernel) (by decide +kernel) (by decide +kernel)
theorem wide_loop (a0 a1 a2 a3 a4 a5 a6 a7 a8 a9 a10 a13 a14 a15 a16 : Sl) (st : Store) :
    sFor (eRng1 (eCons (eC (.int 26)) eNil)) (gN 13) B_law_4 [a0, a1, a2, a3, a4, a5, a6, a7, a8, a9, a10, .sh (.str lettersS), .ow (.dct []), a13, a14, a15, a16] st = .nx [a0, a1, a2, a3, a4, a5, a6, a7, a8, a9, a10, .sh (.str lettersS), .ow (.dct (Fd wideL)), .sh (.int 25), a14, a15, a16] st := by kernel_rfl
theorem wide_names (a0 a1 a2 a3 a4 a5 a6 a7 a8 a9 a10 a12 a13 a14 a15 a16 : Sl) (st : Store) :
    C_law_3 [a0, a1, a2, a3, a4, a5, a6, a7, a8, a9, a10, .sh (.str lettersS), a12, a13, a14, a15, a16] st = .ok (.lst ((wideS.map (·.2)).map .str)) st := by kernel_rfl
theorem wide_lead : leadS wideL "11001" = .str "z" := by kernel_rfl
theorem wide_vals : vS wideL = wideS.map (·.2) := by kernel_rfl
theorem many_vals : vS manyL = manyS.map (·.2) := by kernel_rfl
theorem wide_set : sset (vS wideL) = srtS (wideS.map (·.2)) := (srt_sset (by decide +kernel) fun k => by rw [wide_vals]).symm
def sevenS : List Str := ["a", "b", "c", "d", "e", "f", "g"]
theorem many_set : sset (vS manyL) = sevenS := (sset_of (by decide +kernel) (fun k => by rw [many_vals]; exact Iff.rfl) (by decide +kernel)).symm
theorem names_eq (xs : List Str) (h : ∀ x ∈ xs, Tg x) (st : Store) : oNeX (.lst (xs.map .str)) (.lst (xs.map .str)) st = .ok (.bl false) st ∧ oEqX (.lst (xs.map .str)) (.lst (xs.map .str)) st = .ok (.bl true) st := by
  have hp : Py 1 (.lst (xs.map .str)) := py_lst fun d hd => by
    obtain ⟨x, hx, rfl⟩ := List.mem_map.mp hd
    exact py_str (h x hx).ok
  have := hp.eq_self (by decide)
  exact ⟨by rw [oNeX_ap, this]; rfl, by rw [oEqX_ap, this]⟩
theorem law_spec {ns : List Int} (h : ns.length ≤ 63) : ∃ st', D_law [.scr ns] [] = .ok (.bl true) st' := by
  have h1 : D__law_pen [.scr ns] [] = .ok (.ref 0) [penD (ns.take 60) 0 0 []] := pen_spec (st := []) h
  have : Ev (D_law [.scr ns] []) fun d s => d = .bl true := by
    unfold D_law
    refine e_runΓ [.sh (.scr ns), .no, .no, .no, .no, .no, .no, .no, .no, .no, .no, .no, .no, .no, .no, .no, .no] rfl rfl ?_
    unfold m_law
    refine w_as (d := .ref 0) (s := [penD (ns.take 60) 0 0 []]) (by simp -implicitDefEqProofs [-getElem?_pos, h1]) ?_
    dsimp only [List.set_cons_succ, List.set_cons_zero]
    refine w_seq (w_rng 4 (fun j Γ s => ∃ (a2 a3 a4 a5 a6 a7 a8 a9 a10 a13 : Sl) (r : Store), r.all flatO = true ∧ Γ = [.sh (.scr ns), .sh (.ref 0), a2, a3, a4, a5, a6, a7, a8, a9, a10, .no, .no, a13, .no, .no, .no] ∧ PenX (ns.take 60) (50000 * j) j r s) (s := [penD (ns.take 60) 0 0 []]) rfl (by decide) ⟨_, _, _, _, _, _, _, _, _, _, [], rfl, rfl, 0, 0, [], Int.le_refl _, by simp, by simp, rfl⟩ ?_ ?_)
    · rintro j hj Γ s ⟨a2, a3, a4, a5, a6, a7, a8, a9, a10, a13, r, hf, rfl, hs⟩
      refine ⟨[.sh (.scr ns), .sh (.ref 0), .sh (.int j), a3, a4, a5, a6, a7, a8, a9, a10, .no, .no, a13, .no, .no, .no], rfl, (b3L hs hf (by omega) (by omega) _ _ _ _ _ _ _ _ _ _ _ _ _ _ _ _).imp ?_ (fun _ _ h => h.elim) (fun _ _ h => h.elim) (fun _ _ h => h.elim) (fun _ _ _ h => h.elim)⟩
      rintro Γ s ⟨b3, b4, b5, b6, b7, b8, b9, b10, b13, r', hf', rfl, hs'⟩
      exact ⟨_, _, _, _, _, _, _, _, _, _, r', hf', rfl, hs'.mono (by omega)⟩
    · rintro Γ s ⟨a2, a3, a4, a5, a6, a7, a8, a9, a10, a13, r, hf, rfl, hs⟩
      dsimp only
      refine w_as (d := .str lettersS) (s := s) rfl ?_
      dsimp only [List.set_cons_succ, List.set_cons_zero]
      refine w_seq (w_new (Ev.of (d := .dct []) (s := s) rfl ?_))
      dsimp only [List.set_cons_succ, List.set_cons_zero]
      refine w_seq (Rn.of (wide_loop _ _ _ _ _ _ _ _ _ _ _ _ _ _ _ s) ?_)
      refine w_frzX ?_
      rw [frzX_own rfl]
      dsimp only [List.set_cons_succ, List.set_cons_zero]
      have mw := mkT (mz := eC (.int 5)) (ml := eVar 12) (Γ := [.sh (.scr ns), .sh (.ref 0), a2, a3, a4, a5, a6, a7, a8, a9, a10, .sh (.str lettersS), .sh (.dct (Fd wideL)), .sh (.int 25), .no, .no, .no]) (st := s) (s := s) wide_ok rfl rfl
      refine w_as mw ?_
      dsimp only [List.set_cons_succ, List.set_cons_zero]
      obtain ⟨G, hG⟩ : ∃ G : DEnv, G = [.sh (.scr ns), .sh (.ref 0), a2, a3, a4, a5, a6, a7, a8, a9, a10, .sh (.str lettersS), .sh (.dct (Fd wideL)), .sh (.int 25), .sh (mapD "Table" (5 : Nat) (ordS wideL)), .no, .no] := ⟨_, rfl⟩
      obtain ⟨s1, hs1⟩ : ∃ s1, s1 = s ++ [D.tomb] := ⟨_, rfl⟩
      rw [← hG, ← hs1]
      have v14 : eVar 14 G s1 = .ok (mapD "Table" (5 : Nat) (ordS wideL)) s1 := by rw [hG]; rfl
      have tw : ∀ x ∈ sset (vS (ordS wideL)), Tg x := sset_tg wide_ok.ord.val
      have hw : sset (vS (ordS wideL)) = srtS (wideS.map (·.2)) := (vS_ord wide_ok.nd).trans wide_set
      have c1 : eOp oNeX (eProp [("Table", D_Table_targets)] (eVar 14)) (eB bSortedX (eCons C_law_3 eNil)) G s1 = .ok (.bl false) s1 := by
        have e1 := propT (q := ("Table", D_Table_targets)) (r := []) (z := (5 : Nat)) v14 rfl (targetsX wide_ok.ord.val (by rw [ordS_len]; decide) s1)
        have e2 : eB bSortedX (eCons C_law_3 eNil) G s1 = .ok (.lst ((srtS (wideS.map (·.2))).map .str)) s1 := by
          rw [eB_ap, eCons_ap, hG, wide_names, ok_bind, eNil_ap, ok_bind, ok_bind]
          show bSortedX [.lst ((wideS.map (·.2)).map .str)] s1 = _
          exact bSortedX_s
        rw [eOp_ap, e1, ok_bind, e2, ok_bind, ← hw]
        exact (names_eq _ tw s1).1
      have c2 : eOp oNeX (eMeth [("Table", D_Table_lookup)] "lookup" (eVar 14) (eCons (eC (.str "11001")) eNil)) (eC (.str "z")) G s1 = .ok (.bl false) s1 := by
        have e1 : eMeth [("Table", D_Table_lookup)] "lookup" (eVar 14) (eCons (eC (.str "11001")) eNil) G s1 = .ok (.str "z") s1 := by
          rw [methG (z := (5 : Nat)) (ds := [.str "11001"]) (s2 := s1) v14 rfl (by decide +kernel) rfl, lookupX (by decide +kernel) (by decide +kernel) (by decide), leadS_ord wide_ok.nd, wide_lead]
        rw [eOp_ap, e1, ok_bind, eC_ap, ok_bind]
        exact ne_self _ _
      refine w_seq (w_ifF (s := s1) (by rw [eOr_ap, c1, ok_bind]; exact c2) (w_skip ?_))
      dsimp only
      have hm : ([D.tup [.str "", .str "a"], .tup [.str "0", .str "b"], .tup [.str "1", .str "c"], .tup [.str "00", .str "d"], .tup [.str "01", .str "e"], .tup [.str "10", .str "f"], .tup [.str "11", .str "g"]] : List D) = manyL.map pD := rfl
      refine w_as (d := mapD "Table" (3 : Nat) (ordS manyL)) (s := s1 ++ [.tomb]) (ofC (l := manyL) (z := 3) many_ok rfl rfl) ?_
      rw [hG]
      dsimp only [List.set_cons_succ, List.set_cons_zero]
      obtain ⟨G2, hG2⟩ : ∃ G2 : DEnv, G2 = [.sh (.scr ns), .sh (.ref 0), a2, a3, a4, a5, a6, a7, a8, a9, a10, .sh (.str lettersS), .sh (.dct (Fd wideL)), .sh (.int 25), .sh (mapD "Table" (5 : Nat) (ordS wideL)), .sh (mapD "Table" (3 : Nat) (ordS manyL)), .no] := ⟨_, rfl⟩
      obtain ⟨s2, hs2⟩ : ∃ s2, s2 = s1 ++ [D.tomb] := ⟨_, rfl⟩
      rw [← hG2, ← hs2]
      have v15 : eVar 15 G2 s2 = .ok (mapD "Table" (3 : Nat) (ordS manyL)) s2 := by rw [hG2]; rfl
      refine w_ret (Ev.of (d := .bl true) (s := s2) ?_ rfl)
      have k1 : eOp oEqX (eProp [("Table", D_Table_targets)] (eVar 15)) (eLst (eCons (eC (.str "a")) (eCons (eC (.str "b")) (eCons (eC (.str "c")) (eCons (eC (.str "d")) (eCons (eC (.str "e")) (eCons (eC (.str "f")) (eCons (eC (.str "g")) eNil)))))))) G2 s2 = .ok (.bl true) s2 := by
        have e1 := propT (q := ("Table", D_Table_targets)) (r := []) (z := (3 : Nat)) v15 rfl (targetsX many_ok.ord.val (by rw [ordS_len]; decide) s2)
        rw [vS_ord many_ok.nd, many_set] at e1
        rw [eOp_ap, e1, ok_bind]
        have e2 : eLst (eCons (eC (.str "a")) (eCons (eC (.str "b")) (eCons (eC (.str "c")) (eCons (eC (.str "d")) (eCons (eC (.str "e")) (eCons (eC (.str "f")) (eCons (eC (.str "g")) eNil))))))) G2 s2 = .ok (.lst (sevenS.map .str)) s2 := rfl
        rw [e2, ok_bind]
        have := sset_tg many_ok.val
        rw [many_set] at this
        exact (names_eq _ this s2).2
      have k2 : eOp oEqX (eLenO [("PrefixMap", D_PrefixMap___len__), ("Table", D_PrefixMap___len__)] (eCons (eVar 15) eNil)) (eC (.int 7)) G2 s2 = .ok (.bl true) s2 := by
        rw [eOp_ap, e_lenO (x := mapD "Table" (3 : Nat) (ordS manyL)) (s := s2) (s2 := s2) (n := ((ordS manyL).length : Int)) (by rw [eCons_ap, v15]; rfl) rfl rfl (lenMX _) (by omega) (by rw [ordS_len]; decide), ok_bind, ordS_len]
        rfl
      rw [eAnd_ap, k1, ok_bind]
      exact k2
  obtain ⟨d, s, e, rfl⟩ := this
  exact ⟨s, e⟩
end DL
namespace DL
open PySem PySem.Spec PyProof.Rows L2
theorem all_mk {l : PySem.W.OpenLaw} {w : World} {K : PySem.W.Frag} {h : Heap} {mg : Str → Option Value} {fa : Addr} (X : K.In h) (G : h.Ns mainGlobals mg) (hfa : mg "law" = some (.ref fa))
    {f_PrefixMap : Addr} (a_PrefixMap : PySem.W.nsIn K mainGlobals "PrefixMap" = some (some (.ref f_PrefixMap)))
    (pg_PrefixMap : PySem.W.plainGet K f_PrefixMap Str.empty = true) (hd_PrefixMap : PySem.W.hasDictIn K f_PrefixMap = true) (po_PrefixMap : PySem.W.plainOver K f_PrefixMap = true) (sa_PrefixMap : PySem.W.findIn K (.ref f_PrefixMap) "__setattr__" = some (some (.builtin "object.__setattr__")))
    {f_Table : Addr} (a_Table : PySem.W.nsIn K mainGlobals "Table" = some (some (.ref f_Table)))
    (pg_Table : PySem.W.plainGet K f_Table Str.empty = true) (hd_Table : PySem.W.hasDictIn K f_Table = true) (po_Table : PySem.W.plainOver K f_Table = true) (sa_Table : PySem.W.findIn K (.ref f_Table) "__setattr__" = some (some (.builtin "object.__setattr__")))
    {f__law_pen : Addr} {od__law_pen an__law_pen : Option Addr} {sl__law_pen : Array (Option Value)} {oc__law_pen kV__law_pen dc__law_pen pm__law_pen cd__law_pen ct__law_pen : Value}
    (a__law_pen : PySem.W.nsIn K mainGlobals "_law_pen" = some (some (.ref f__law_pen)))
    (l__law_pen : K.lookup f__law_pen = some ⟨oc__law_pen, od__law_pen, .func (PySem.W.fnOf "_law_pen" "_law_pen" (defArgs s__law_pen) (defBody s__law_pen) (defScope s__law_pen) .none kV__law_pen dc__law_pen pm__law_pen an__law_pen cd__law_pen ct__law_pen), sl__law_pen⟩) (c__law_pen : PySem.W.codeIn K cd__law_pen "_law_pen" = true) (k__law_pen : PySem.W.keepIn K (.ref f__law_pen) = true)
    {f_PrefixMap_kept_value : Addr} {od_PrefixMap_kept_value an_PrefixMap_kept_value : Option Addr} {sl_PrefixMap_kept_value : Array (Option Value)} {oc_PrefixMap_kept_value kV_PrefixMap_kept_value dc_PrefixMap_kept_value pm_PrefixMap_kept_value cd_PrefixMap_kept_value ct_PrefixMap_kept_value : Value}
    (a_PrefixMap_kept_value : PySem.W.findIn K (.ref f_PrefixMap) "kept_value" = some (some (.ref f_PrefixMap_kept_value))) (i_PrefixMap_kept_value : PySem.W.isFn K (.ref f_PrefixMap_kept_value) = true)
    (l_PrefixMap_kept_value : K.lookup f_PrefixMap_kept_value = some ⟨oc_PrefixMap_kept_value, od_PrefixMap_kept_value, .func (PySem.W.fnOf "kept_value" "PrefixMap.kept_value" (defArgs s_PrefixMap_kept_value) (defBody s_PrefixMap_kept_value) (defScope s_PrefixMap_kept_value) .none kV_PrefixMap_kept_value dc_PrefixMap_kept_value pm_PrefixMap_kept_value an_PrefixMap_kept_value cd_PrefixMap_kept_value ct_PrefixMap_kept_value), sl_PrefixMap_kept_value⟩) (c_PrefixMap_kept_value : PySem.W.codeIn K cd_PrefixMap_kept_value "PrefixMap.kept_value" = true) (k_PrefixMap_kept_value : PySem.W.keepIn K (.ref f_PrefixMap_kept_value) = true)
    {f_is_integer : Addr} {od_is_integer an_is_integer : Option Addr} {sl_is_integer : Array (Option Value)} {oc_is_integer kV_is_integer dc_is_integer pm_is_integer cd_is_integer ct_is_integer : Value}
    (a_is_integer : PySem.W.nsIn K mainGlobals "is_integer" = some (some (.ref f_is_integer)))
    (l_is_integer : K.lookup f_is_integer = some ⟨oc_is_integer, od_is_integer, .func (PySem.W.fnOf "is_integer" "is_integer" (defArgs s_is_integer) (defBody s_is_integer) (defScope s_is_integer) .none kV_is_integer dc_is_integer pm_is_integer an_is_integer cd_is_integer ct_is_integer), sl_is_integer⟩) (c_is_integer : PySem.W.codeIn K cd_is_integer "is_integer" = true) (k_is_integer : PySem.W.keepIn K (.ref f_is_integer) = true)
    {f_PrefixMap___len__ : Addr} {od_PrefixMap___len__ an_PrefixMap___len__ : Option Addr} {sl_PrefixMap___len__ : Array (Option Value)} {oc_PrefixMap___len__ kV_PrefixMap___len__ dc_PrefixMap___len__ pm_PrefixMap___len__ cd_PrefixMap___len__ ct_PrefixMap___len__ : Value}
    (a_PrefixMap___len__ : PySem.W.findIn K (.ref f_PrefixMap) "__len__" = some (some (.ref f_PrefixMap___len__))) (i_PrefixMap___len__ : PySem.W.isFn K (.ref f_PrefixMap___len__) = true)
    (l_PrefixMap___len__ : K.lookup f_PrefixMap___len__ = some ⟨oc_PrefixMap___len__, od_PrefixMap___len__, .func (PySem.W.fnOf "__len__" "PrefixMap.__len__" (defArgs s_PrefixMap___len__) (defBody s_PrefixMap___len__) (defScope s_PrefixMap___len__) .none kV_PrefixMap___len__ dc_PrefixMap___len__ pm_PrefixMap___len__ an_PrefixMap___len__ cd_PrefixMap___len__ ct_PrefixMap___len__), sl_PrefixMap___len__⟩) (c_PrefixMap___len__ : PySem.W.codeIn K cd_PrefixMap___len__ "PrefixMap.__len__" = true) (k_PrefixMap___len__ : PySem.W.keepIn K (.ref f_PrefixMap___len__) = true)
    {f_is_prefix : Addr} {od_is_prefix an_is_prefix : Option Addr} {sl_is_prefix : Array (Option Value)} {oc_is_prefix kV_is_prefix dc_is_prefix pm_is_prefix cd_is_prefix ct_is_prefix : Value}
    (a_is_prefix : PySem.W.nsIn K mainGlobals "is_prefix" = some (some (.ref f_is_prefix)))
    (l_is_prefix : K.lookup f_is_prefix = some ⟨oc_is_prefix, od_is_prefix, .func (PySem.W.fnOf "is_prefix" "is_prefix" (defArgs s_is_prefix) (defBody s_is_prefix) (defScope s_is_prefix) .none kV_is_prefix dc_is_prefix pm_is_prefix an_is_prefix cd_is_prefix ct_is_prefix), sl_is_prefix⟩) (c_is_prefix : PySem.W.codeIn K cd_is_prefix "is_prefix" = true) (k_is_prefix : PySem.W.keepIn K (.ref f_is_prefix) = true)
    {f_PrefixMap_is_value : Addr} {od_PrefixMap_is_value an_PrefixMap_is_value : Option Addr} {sl_PrefixMap_is_value : Array (Option Value)} {oc_PrefixMap_is_value kV_PrefixMap_is_value dc_PrefixMap_is_value pm_PrefixMap_is_value cd_PrefixMap_is_value ct_PrefixMap_is_value : Value}
    (a_PrefixMap_is_value : PySem.W.findIn K (.ref f_PrefixMap) "is_value" = some (some (.ref f_PrefixMap_is_value))) (i_PrefixMap_is_value : PySem.W.isFn K (.ref f_PrefixMap_is_value) = true)
    (l_PrefixMap_is_value : K.lookup f_PrefixMap_is_value = some ⟨oc_PrefixMap_is_value, od_PrefixMap_is_value, .func (PySem.W.fnOf "is_value" "PrefixMap.is_value" (defArgs s_PrefixMap_is_value) (defBody s_PrefixMap_is_value) (defScope s_PrefixMap_is_value) .none kV_PrefixMap_is_value dc_PrefixMap_is_value pm_PrefixMap_is_value an_PrefixMap_is_value cd_PrefixMap_is_value ct_PrefixMap_is_value), sl_PrefixMap_is_value⟩) (c_PrefixMap_is_value : PySem.W.codeIn K cd_PrefixMap_is_value "PrefixMap.is_value" = true) (k_PrefixMap_is_value : PySem.W.keepIn K (.ref f_PrefixMap_is_value) = true)
    {f_Table_is_target : Addr} {od_Table_is_target an_Table_is_target : Option Addr} {sl_Table_is_target : Array (Option Value)} {oc_Table_is_target kV_Table_is_target dc_Table_is_target pm_Table_is_target cd_Table_is_target ct_Table_is_target : Value}
    {p_Table_is_target : Addr} {rr_Table_is_target : List Value} (a_Table_is_target : PySem.W.findIn K (.ref f_Table) "is_target" = some (some (.ref p_Table_is_target))) (sf_Table_is_target : PySem.W.findCls K (.ref f_Table) (.type "type") "is_target" = some (.get (.builtin "staticmethod.__get__") (.ref p_Table_is_target) .none (.ref f_Table))) (rd_Table_is_target : PySem.W.readsIn K f_Table (.type "type") = true) (ga_Table_is_target : PySem.W.specialIn K (.ref f_Table) "__getattribute__" = some (some (.builtin "type.__getattribute__"))) (r_Table_is_target : PySem.W.recIn K p_Table_is_target "staticmethod" = some (.ref f_Table_is_target :: rr_Table_is_target))
    (l_Table_is_target : K.lookup f_Table_is_target = some ⟨oc_Table_is_target, od_Table_is_target, .func (PySem.W.fnOf "is_target" "Table.is_target" (defArgs s_Table_is_target) (defBody s_Table_is_target) (defScope s_Table_is_target) .none kV_Table_is_target dc_Table_is_target pm_Table_is_target an_Table_is_target cd_Table_is_target ct_Table_is_target), sl_Table_is_target⟩) (c_Table_is_target : PySem.W.codeIn K cd_Table_is_target "Table.is_target" = true) (k_Table_is_target : PySem.W.keepIn K (.ref f_Table_is_target) = true)
    {f_Table_is_value : Addr} {od_Table_is_value an_Table_is_value : Option Addr} {sl_Table_is_value : Array (Option Value)} {oc_Table_is_value kV_Table_is_value dc_Table_is_value pm_Table_is_value cd_Table_is_value ct_Table_is_value : Value}
    (a_Table_is_value : PySem.W.findIn K (.ref f_Table) "is_value" = some (some (.ref f_Table_is_value))) (i_Table_is_value : PySem.W.isFn K (.ref f_Table_is_value) = true)
    (l_Table_is_value : K.lookup f_Table_is_value = some ⟨oc_Table_is_value, od_Table_is_value, .func (PySem.W.fnOf "is_value" "Table.is_value" (defArgs s_Table_is_value) (defBody s_Table_is_value) (defScope s_Table_is_value) .none kV_Table_is_value dc_Table_is_value pm_Table_is_value an_Table_is_value cd_Table_is_value ct_Table_is_value), sl_Table_is_value⟩) (c_Table_is_value : PySem.W.codeIn K cd_Table_is_value "Table.is_value" = true) (k_Table_is_value : PySem.W.keepIn K (.ref f_Table_is_value) = true)
    {f_PrefixMap___init__ : Addr} {od_PrefixMap___init__ an_PrefixMap___init__ : Option Addr} {sl_PrefixMap___init__ : Array (Option Value)} {oc_PrefixMap___init__ kV_PrefixMap___init__ dc_PrefixMap___init__ pm_PrefixMap___init__ cd_PrefixMap___init__ ct_PrefixMap___init__ : Value}
    (a_PrefixMap___init__ : PySem.W.findIn K (.ref f_PrefixMap) "__init__" = some (some (.ref f_PrefixMap___init__))) (i_PrefixMap___init__ : PySem.W.isFn K (.ref f_PrefixMap___init__) = true)
    (l_PrefixMap___init__ : K.lookup f_PrefixMap___init__ = some ⟨oc_PrefixMap___init__, od_PrefixMap___init__, .func (PySem.W.fnOf "__init__" "PrefixMap.__init__" (defArgs s_PrefixMap___init__) (defBody s_PrefixMap___init__) (defScope s_PrefixMap___init__) .none kV_PrefixMap___init__ dc_PrefixMap___init__ pm_PrefixMap___init__ an_PrefixMap___init__ cd_PrefixMap___init__ ct_PrefixMap___init__), sl_PrefixMap___init__⟩) (c_PrefixMap___init__ : PySem.W.codeIn K cd_PrefixMap___init__ "PrefixMap.__init__" = true) (k_PrefixMap___init__ : PySem.W.keepIn K (.ref f_PrefixMap___init__) = true)
    {f_PrefixMap_is_same : Addr} {od_PrefixMap_is_same an_PrefixMap_is_same : Option Addr} {sl_PrefixMap_is_same : Array (Option Value)} {oc_PrefixMap_is_same kV_PrefixMap_is_same dc_PrefixMap_is_same pm_PrefixMap_is_same cd_PrefixMap_is_same ct_PrefixMap_is_same : Value}
    (a_PrefixMap_is_same : PySem.W.findIn K (.ref f_PrefixMap) "is_same" = some (some (.ref f_PrefixMap_is_same))) (i_PrefixMap_is_same : PySem.W.isFn K (.ref f_PrefixMap_is_same) = true)
    (l_PrefixMap_is_same : K.lookup f_PrefixMap_is_same = some ⟨oc_PrefixMap_is_same, od_PrefixMap_is_same, .func (PySem.W.fnOf "is_same" "PrefixMap.is_same" (defArgs s_PrefixMap_is_same) (defBody s_PrefixMap_is_same) (defScope s_PrefixMap_is_same) .none kV_PrefixMap_is_same dc_PrefixMap_is_same pm_PrefixMap_is_same an_PrefixMap_is_same cd_PrefixMap_is_same ct_PrefixMap_is_same), sl_PrefixMap_is_same⟩) (c_PrefixMap_is_same : PySem.W.codeIn K cd_PrefixMap_is_same "PrefixMap.is_same" = true) (k_PrefixMap_is_same : PySem.W.keepIn K (.ref f_PrefixMap_is_same) = true)
    {f_Table_sort_of_map : Addr} {od_Table_sort_of_map an_Table_sort_of_map : Option Addr} {sl_Table_sort_of_map : Array (Option Value)} {oc_Table_sort_of_map kV_Table_sort_of_map dc_Table_sort_of_map pm_Table_sort_of_map cd_Table_sort_of_map ct_Table_sort_of_map : Value}
    (a_Table_sort_of_map : PySem.W.findIn K (.ref f_Table) "sort_of_map" = some (some (.ref f_Table_sort_of_map))) (i_Table_sort_of_map : PySem.W.isFn K (.ref f_Table_sort_of_map) = true)
    (l_Table_sort_of_map : K.lookup f_Table_sort_of_map = some ⟨oc_Table_sort_of_map, od_Table_sort_of_map, .func (PySem.W.fnOf "sort_of_map" "Table.sort_of_map" (defArgs s_Table_sort_of_map) (defBody s_Table_sort_of_map) (defScope s_Table_sort_of_map) .none kV_Table_sort_of_map dc_Table_sort_of_map pm_Table_sort_of_map an_Table_sort_of_map cd_Table_sort_of_map ct_Table_sort_of_map), sl_Table_sort_of_map⟩) (c_Table_sort_of_map : PySem.W.codeIn K cd_Table_sort_of_map "Table.sort_of_map" = true) (k_Table_sort_of_map : PySem.W.keepIn K (.ref f_Table_sort_of_map) = true)
    {f_PrefixMap_sort_of_map : Addr} {od_PrefixMap_sort_of_map an_PrefixMap_sort_of_map : Option Addr} {sl_PrefixMap_sort_of_map : Array (Option Value)} {oc_PrefixMap_sort_of_map kV_PrefixMap_sort_of_map dc_PrefixMap_sort_of_map pm_PrefixMap_sort_of_map cd_PrefixMap_sort_of_map ct_PrefixMap_sort_of_map : Value}
    (a_PrefixMap_sort_of_map : PySem.W.findIn K (.ref f_PrefixMap) "sort_of_map" = some (some (.ref f_PrefixMap_sort_of_map))) (i_PrefixMap_sort_of_map : PySem.W.isFn K (.ref f_PrefixMap_sort_of_map) = true)
    (l_PrefixMap_sort_of_map : K.lookup f_PrefixMap_sort_of_map = some ⟨oc_PrefixMap_sort_of_map, od_PrefixMap_sort_of_map, .func (PySem.W.fnOf "sort_of_map" "PrefixMap.sort_of_map" (defArgs s_PrefixMap_sort_of_map) (defBody s_PrefixMap_sort_of_map) (defScope s_PrefixMap_sort_of_map) .none kV_PrefixMap_sort_of_map dc_PrefixMap_sort_of_map pm_PrefixMap_sort_of_map an_PrefixMap_sort_of_map cd_PrefixMap_sort_of_map ct_PrefixMap_sort_of_map), sl_PrefixMap_sort_of_map⟩) (c_PrefixMap_sort_of_map : PySem.W.codeIn K cd_PrefixMap_sort_of_map "PrefixMap.sort_of_map" = true) (k_PrefixMap_sort_of_map : PySem.W.keepIn K (.ref f_PrefixMap_sort_of_map) = true)
    {f_PrefixMap___eq__ : Addr} {od_PrefixMap___eq__ an_PrefixMap___eq__ : Option Addr} {sl_PrefixMap___eq__ : Array (Option Value)} {oc_PrefixMap___eq__ kV_PrefixMap___eq__ dc_PrefixMap___eq__ pm_PrefixMap___eq__ cd_PrefixMap___eq__ ct_PrefixMap___eq__ : Value}
    (a_PrefixMap___eq__ : PySem.W.findIn K (.ref f_PrefixMap) "__eq__" = some (some (.ref f_PrefixMap___eq__))) (i_PrefixMap___eq__ : PySem.W.isFn K (.ref f_PrefixMap___eq__) = true)
    (l_PrefixMap___eq__ : K.lookup f_PrefixMap___eq__ = some ⟨oc_PrefixMap___eq__, od_PrefixMap___eq__, .func (PySem.W.fnOf "__eq__" "PrefixMap.__eq__" (defArgs s_PrefixMap___eq__) (defBody s_PrefixMap___eq__) (defScope s_PrefixMap___eq__) .none kV_PrefixMap___eq__ dc_PrefixMap___eq__ pm_PrefixMap___eq__ an_PrefixMap___eq__ cd_PrefixMap___eq__ ct_PrefixMap___eq__), sl_PrefixMap___eq__⟩) (c_PrefixMap___eq__ : PySem.W.codeIn K cd_PrefixMap___eq__ "PrefixMap.__eq__" = true) (k_PrefixMap___eq__ : PySem.W.keepIn K (.ref f_PrefixMap___eq__) = true)
    {f_Table_of : Addr} {od_Table_of an_Table_of : Option Addr} {sl_Table_of : Array (Option Value)} {oc_Table_of kV_Table_of dc_Table_of pm_Table_of cd_Table_of ct_Table_of : Value}
    {p_Table_of : Addr} {rr_Table_of : List Value} (a_Table_of : PySem.W.findIn K (.ref f_Table) "of" = some (some (.ref p_Table_of))) (sf_Table_of : PySem.W.findCls K (.ref f_Table) (.type "type") "of" = some (.get (.builtin "classmethod.__get__") (.ref p_Table_of) .none (.ref f_Table))) (rd_Table_of : PySem.W.readsIn K f_Table (.type "type") = true) (ga_Table_of : PySem.W.specialIn K (.ref f_Table) "__getattribute__" = some (some (.builtin "type.__getattribute__"))) (r_Table_of : PySem.W.recIn K p_Table_of "classmethod" = some (.ref f_Table_of :: rr_Table_of)) (fi_Table_of : PySem.W.fnIn K f_Table_of = true)
    (l_Table_of : K.lookup f_Table_of = some ⟨oc_Table_of, od_Table_of, .func (PySem.W.fnOf "of" "Table.of" (defArgs s_Table_of) (defBody s_Table_of) (defScope s_Table_of) .none kV_Table_of dc_Table_of pm_Table_of an_Table_of cd_Table_of ct_Table_of), sl_Table_of⟩) (c_Table_of : PySem.W.codeIn K cd_Table_of "Table.of" = true) (k_Table_of : PySem.W.keepIn K (.ref f_Table_of) = true)
    {f__law_next : Addr} {od__law_next an__law_next : Option Addr} {sl__law_next : Array (Option Value)} {oc__law_next kV__law_next dc__law_next pm__law_next cd__law_next ct__law_next : Value}
    (a__law_next : PySem.W.nsIn K mainGlobals "_law_next" = some (some (.ref f__law_next)))
    (l__law_next : K.lookup f__law_next = some ⟨oc__law_next, od__law_next, .func (PySem.W.fnOf "_law_next" "_law_next" (defArgs s__law_next) (defBody s__law_next) (defScope s__law_next) .none kV__law_next dc__law_next pm__law_next an__law_next cd__law_next ct__law_next), sl__law_next⟩) (c__law_next : PySem.W.codeIn K cd__law_next "_law_next" = true) (k__law_next : PySem.W.keepIn K (.ref f__law_next) = true)
    {f__law_draw : Addr} {od__law_draw an__law_draw : Option Addr} {sl__law_draw : Array (Option Value)} {oc__law_draw kV__law_draw dc__law_draw pm__law_draw cd__law_draw ct__law_draw : Value}
    (a__law_draw : PySem.W.nsIn K mainGlobals "_law_draw" = some (some (.ref f__law_draw)))
    (l__law_draw : K.lookup f__law_draw = some ⟨oc__law_draw, od__law_draw, .func (PySem.W.fnOf "_law_draw" "_law_draw" (defArgs s__law_draw) (defBody s__law_draw) (defScope s__law_draw) .none kV__law_draw dc__law_draw pm__law_draw an__law_draw cd__law_draw ct__law_draw), sl__law_draw⟩) (c__law_draw : PySem.W.codeIn K cd__law_draw "_law_draw" = true) (k__law_draw : PySem.W.keepIn K (.ref f__law_draw) = true)
    {f__law_size : Addr} {od__law_size an__law_size : Option Addr} {sl__law_size : Array (Option Value)} {oc__law_size kV__law_size dc__law_size pm__law_size cd__law_size ct__law_size : Value}
    (a__law_size : PySem.W.nsIn K mainGlobals "_law_size" = some (some (.ref f__law_size)))
    (l__law_size : K.lookup f__law_size = some ⟨oc__law_size, od__law_size, .func (PySem.W.fnOf "_law_size" "_law_size" (defArgs s__law_size) (defBody s__law_size) (defScope s__law_size) .none kV__law_size dc__law_size pm__law_size an__law_size cd__law_size ct__law_size), sl__law_size⟩) (c__law_size : PySem.W.codeIn K cd__law_size "_law_size" = true) (k__law_size : PySem.W.keepIn K (.ref f__law_size) = true)
    {f__law_bits : Addr} {od__law_bits an__law_bits : Option Addr} {sl__law_bits : Array (Option Value)} {oc__law_bits kV__law_bits dc__law_bits pm__law_bits cd__law_bits ct__law_bits : Value}
    (a__law_bits : PySem.W.nsIn K mainGlobals "_law_bits" = some (some (.ref f__law_bits)))
    (l__law_bits : K.lookup f__law_bits = some ⟨oc__law_bits, od__law_bits, .func (PySem.W.fnOf "_law_bits" "_law_bits" (defArgs s__law_bits) (defBody s__law_bits) (defScope s__law_bits) .none kV__law_bits dc__law_bits pm__law_bits an__law_bits cd__law_bits ct__law_bits), sl__law_bits⟩) (c__law_bits : PySem.W.codeIn K cd__law_bits "_law_bits" = true) (k__law_bits : PySem.W.keepIn K (.ref f__law_bits) = true)
    {f__law_prefixes : Addr} {od__law_prefixes an__law_prefixes : Option Addr} {sl__law_prefixes : Array (Option Value)} {oc__law_prefixes kV__law_prefixes dc__law_prefixes pm__law_prefixes cd__law_prefixes ct__law_prefixes : Value}
    (a__law_prefixes : PySem.W.nsIn K mainGlobals "_law_prefixes" = some (some (.ref f__law_prefixes)))
    (l__law_prefixes : K.lookup f__law_prefixes = some ⟨oc__law_prefixes, od__law_prefixes, .func (PySem.W.fnOf "_law_prefixes" "_law_prefixes" (defArgs s__law_prefixes) (defBody s__law_prefixes) (defScope s__law_prefixes) .none kV__law_prefixes dc__law_prefixes pm__law_prefixes an__law_prefixes cd__law_prefixes ct__law_prefixes), sl__law_prefixes⟩) (c__law_prefixes : PySem.W.codeIn K cd__law_prefixes "_law_prefixes" = true) (k__law_prefixes : PySem.W.keepIn K (.ref f__law_prefixes) = true)
    {f__law_lines : Addr} {od__law_lines an__law_lines : Option Addr} {sl__law_lines : Array (Option Value)} {oc__law_lines kV__law_lines dc__law_lines pm__law_lines cd__law_lines ct__law_lines : Value}
    (a__law_lines : PySem.W.nsIn K mainGlobals "_law_lines" = some (some (.ref f__law_lines)))
    (l__law_lines : K.lookup f__law_lines = some ⟨oc__law_lines, od__law_lines, .func (PySem.W.fnOf "_law_lines" "_law_lines" (defArgs s__law_lines) (defBody s__law_lines) (defScope s__law_lines) .none kV__law_lines dc__law_lines pm__law_lines an__law_lines cd__law_lines ct__law_lines), sl__law_lines⟩) (c__law_lines : PySem.W.codeIn K cd__law_lines "_law_lines" = true) (k__law_lines : PySem.W.keepIn K (.ref f__law_lines) = true)
    {f_Table_targets : Addr} {od_Table_targets an_Table_targets : Option Addr} {sl_Table_targets : Array (Option Value)} {oc_Table_targets kV_Table_targets dc_Table_targets pm_Table_targets cd_Table_targets ct_Table_targets : Value}
    {p_Table_targets : Addr} {rr_Table_targets : List Value} (a_Table_targets : PySem.W.findIn K (.ref f_Table) "targets" = some (some (.ref p_Table_targets))) (g_Table_targets : PySem.W.specialIn K (.ref p_Table_targets) "__get__" = some (some (.builtin "property.__get__"))) (t_Table_targets : PySem.W.takesIn K (.ref p_Table_targets) = some true) (r_Table_targets : PySem.W.recIn K p_Table_targets "property" = some (.ref f_Table_targets :: rr_Table_targets))
    (l_Table_targets : K.lookup f_Table_targets = some ⟨oc_Table_targets, od_Table_targets, .func (PySem.W.fnOf "targets" "Table.targets" (defArgs s_Table_targets) (defBody s_Table_targets) (defScope s_Table_targets) .none kV_Table_targets dc_Table_targets pm_Table_targets an_Table_targets cd_Table_targets ct_Table_targets), sl_Table_targets⟩) (c_Table_targets : PySem.W.codeIn K cd_Table_targets "Table.targets" = true) (k_Table_targets : PySem.W.keepIn K (.ref f_Table_targets) = true)
    {f_PrefixMap_made : Addr} {od_PrefixMap_made an_PrefixMap_made : Option Addr} {sl_PrefixMap_made : Array (Option Value)} {oc_PrefixMap_made kV_PrefixMap_made dc_PrefixMap_made pm_PrefixMap_made cd_PrefixMap_made ct_PrefixMap_made : Value}
    (a_PrefixMap_made : PySem.W.findIn K (.ref f_PrefixMap) "made" = some (some (.ref f_PrefixMap_made))) (i_PrefixMap_made : PySem.W.isFn K (.ref f_PrefixMap_made) = true)
    (l_PrefixMap_made : K.lookup f_PrefixMap_made = some ⟨oc_PrefixMap_made, od_PrefixMap_made, .func (PySem.W.fnOf "made" "PrefixMap.made" (defArgs s_PrefixMap_made) (defBody s_PrefixMap_made) (defScope s_PrefixMap_made) .none kV_PrefixMap_made dc_PrefixMap_made pm_PrefixMap_made an_PrefixMap_made cd_PrefixMap_made ct_PrefixMap_made), sl_PrefixMap_made⟩) (c_PrefixMap_made : PySem.W.codeIn K cd_PrefixMap_made "PrefixMap.made" = true) (k_PrefixMap_made : PySem.W.keepIn K (.ref f_PrefixMap_made) = true)
    {f_Table_made : Addr} {od_Table_made an_Table_made : Option Addr} {sl_Table_made : Array (Option Value)} {oc_Table_made kV_Table_made dc_Table_made pm_Table_made cd_Table_made ct_Table_made : Value}
    (a_Table_made : PySem.W.findIn K (.ref f_Table) "made" = some (some (.ref f_Table_made))) (i_Table_made : PySem.W.isFn K (.ref f_Table_made) = true)
    (l_Table_made : K.lookup f_Table_made = some ⟨oc_Table_made, od_Table_made, .func (PySem.W.fnOf "made" "Table.made" (defArgs s_Table_made) (defBody s_Table_made) (defScope s_Table_made) .none kV_Table_made dc_Table_made pm_Table_made an_Table_made cd_Table_made ct_Table_made), sl_Table_made⟩) (c_Table_made : PySem.W.codeIn K cd_Table_made "Table.made" = true) (k_Table_made : PySem.W.keepIn K (.ref f_Table_made) = true)
    {f_PrefixMap_with_row : Addr} {od_PrefixMap_with_row an_PrefixMap_with_row : Option Addr} {sl_PrefixMap_with_row : Array (Option Value)} {oc_PrefixMap_with_row kV_PrefixMap_with_row dc_PrefixMap_with_row pm_PrefixMap_with_row cd_PrefixMap_with_row ct_PrefixMap_with_row : Value}
    (a_PrefixMap_with_row : PySem.W.findIn K (.ref f_PrefixMap) "with_row" = some (some (.ref f_PrefixMap_with_row))) (i_PrefixMap_with_row : PySem.W.isFn K (.ref f_PrefixMap_with_row) = true)
    (l_PrefixMap_with_row : K.lookup f_PrefixMap_with_row = some ⟨oc_PrefixMap_with_row, od_PrefixMap_with_row, .func (PySem.W.fnOf "with_row" "PrefixMap.with_row" (defArgs s_PrefixMap_with_row) (defBody s_PrefixMap_with_row) (defScope s_PrefixMap_with_row) .none kV_PrefixMap_with_row dc_PrefixMap_with_row pm_PrefixMap_with_row an_PrefixMap_with_row cd_PrefixMap_with_row ct_PrefixMap_with_row), sl_PrefixMap_with_row⟩) (c_PrefixMap_with_row : PySem.W.codeIn K cd_PrefixMap_with_row "PrefixMap.with_row" = true) (k_PrefixMap_with_row : PySem.W.keepIn K (.ref f_PrefixMap_with_row) = true)
    {f_PrefixMap_without : Addr} {od_PrefixMap_without an_PrefixMap_without : Option Addr} {sl_PrefixMap_without : Array (Option Value)} {oc_PrefixMap_without kV_PrefixMap_without dc_PrefixMap_without pm_PrefixMap_without cd_PrefixMap_without ct_PrefixMap_without : Value}
    (a_PrefixMap_without : PySem.W.findIn K (.ref f_PrefixMap) "without" = some (some (.ref f_PrefixMap_without))) (i_PrefixMap_without : PySem.W.isFn K (.ref f_PrefixMap_without) = true)
    (l_PrefixMap_without : K.lookup f_PrefixMap_without = some ⟨oc_PrefixMap_without, od_PrefixMap_without, .func (PySem.W.fnOf "without" "PrefixMap.without" (defArgs s_PrefixMap_without) (defBody s_PrefixMap_without) (defScope s_PrefixMap_without) .none kV_PrefixMap_without dc_PrefixMap_without pm_PrefixMap_without an_PrefixMap_without cd_PrefixMap_without ct_PrefixMap_without), sl_PrefixMap_without⟩) (c_PrefixMap_without : PySem.W.codeIn K cd_PrefixMap_without "PrefixMap.without" = true) (k_PrefixMap_without : PySem.W.keepIn K (.ref f_PrefixMap_without) = true)
    {f_PrefixMap_rows : Addr} {od_PrefixMap_rows an_PrefixMap_rows : Option Addr} {sl_PrefixMap_rows : Array (Option Value)} {oc_PrefixMap_rows kV_PrefixMap_rows dc_PrefixMap_rows pm_PrefixMap_rows cd_PrefixMap_rows ct_PrefixMap_rows : Value}
    {p_PrefixMap_rows : Addr} {rr_PrefixMap_rows : List Value} (a_PrefixMap_rows : PySem.W.findIn K (.ref f_PrefixMap) "rows" = some (some (.ref p_PrefixMap_rows))) (g_PrefixMap_rows : PySem.W.specialIn K (.ref p_PrefixMap_rows) "__get__" = some (some (.builtin "property.__get__"))) (t_PrefixMap_rows : PySem.W.takesIn K (.ref p_PrefixMap_rows) = some true) (r_PrefixMap_rows : PySem.W.recIn K p_PrefixMap_rows "property" = some (.ref f_PrefixMap_rows :: rr_PrefixMap_rows))
    (l_PrefixMap_rows : K.lookup f_PrefixMap_rows = some ⟨oc_PrefixMap_rows, od_PrefixMap_rows, .func (PySem.W.fnOf "rows" "PrefixMap.rows" (defArgs s_PrefixMap_rows) (defBody s_PrefixMap_rows) (defScope s_PrefixMap_rows) .none kV_PrefixMap_rows dc_PrefixMap_rows pm_PrefixMap_rows an_PrefixMap_rows cd_PrefixMap_rows ct_PrefixMap_rows), sl_PrefixMap_rows⟩) (c_PrefixMap_rows : PySem.W.codeIn K cd_PrefixMap_rows "PrefixMap.rows" = true) (k_PrefixMap_rows : PySem.W.keepIn K (.ref f_PrefixMap_rows) = true)
    {f_PrefixMap_width : Addr} {od_PrefixMap_width an_PrefixMap_width : Option Addr} {sl_PrefixMap_width : Array (Option Value)} {oc_PrefixMap_width kV_PrefixMap_width dc_PrefixMap_width pm_PrefixMap_width cd_PrefixMap_width ct_PrefixMap_width : Value}
    {p_PrefixMap_width : Addr} {rr_PrefixMap_width : List Value} (a_PrefixMap_width : PySem.W.findIn K (.ref f_PrefixMap) "width" = some (some (.ref p_PrefixMap_width))) (g_PrefixMap_width : PySem.W.specialIn K (.ref p_PrefixMap_width) "__get__" = some (some (.builtin "property.__get__"))) (t_PrefixMap_width : PySem.W.takesIn K (.ref p_PrefixMap_width) = some true) (r_PrefixMap_width : PySem.W.recIn K p_PrefixMap_width "property" = some (.ref f_PrefixMap_width :: rr_PrefixMap_width))
    (l_PrefixMap_width : K.lookup f_PrefixMap_width = some ⟨oc_PrefixMap_width, od_PrefixMap_width, .func (PySem.W.fnOf "width" "PrefixMap.width" (defArgs s_PrefixMap_width) (defBody s_PrefixMap_width) (defScope s_PrefixMap_width) .none kV_PrefixMap_width dc_PrefixMap_width pm_PrefixMap_width an_PrefixMap_width cd_PrefixMap_width ct_PrefixMap_width), sl_PrefixMap_width⟩) (c_PrefixMap_width : PySem.W.codeIn K cd_PrefixMap_width "PrefixMap.width" = true) (k_PrefixMap_width : PySem.W.keepIn K (.ref f_PrefixMap_width) = true)
    {f_PrefixMap_walk : Addr} {od_PrefixMap_walk an_PrefixMap_walk : Option Addr} {sl_PrefixMap_walk : Array (Option Value)} {oc_PrefixMap_walk kV_PrefixMap_walk dc_PrefixMap_walk pm_PrefixMap_walk cd_PrefixMap_walk ct_PrefixMap_walk : Value}
    (a_PrefixMap_walk : PySem.W.findIn K (.ref f_PrefixMap) "walk" = some (some (.ref f_PrefixMap_walk))) (i_PrefixMap_walk : PySem.W.isFn K (.ref f_PrefixMap_walk) = true)
    (l_PrefixMap_walk : K.lookup f_PrefixMap_walk = some ⟨oc_PrefixMap_walk, od_PrefixMap_walk, .func (PySem.W.fnOf "walk" "PrefixMap.walk" (defArgs s_PrefixMap_walk) (defBody s_PrefixMap_walk) (defScope s_PrefixMap_walk) .none kV_PrefixMap_walk dc_PrefixMap_walk pm_PrefixMap_walk an_PrefixMap_walk cd_PrefixMap_walk ct_PrefixMap_walk), sl_PrefixMap_walk⟩) (c_PrefixMap_walk : PySem.W.codeIn K cd_PrefixMap_walk "PrefixMap.walk" = true) (k_PrefixMap_walk : PySem.W.keepIn K (.ref f_PrefixMap_walk) = true)
    {f__law_right : Addr} {od__law_right an__law_right : Option Addr} {sl__law_right : Array (Option Value)} {oc__law_right kV__law_right dc__law_right pm__law_right cd__law_right ct__law_right : Value}
    (a__law_right : PySem.W.nsIn K mainGlobals "_law_right" = some (some (.ref f__law_right)))
    (l__law_right : K.lookup f__law_right = some ⟨oc__law_right, od__law_right, .func (PySem.W.fnOf "_law_right" "_law_right" (defArgs s__law_right) (defBody s__law_right) (defScope s__law_right) .none kV__law_right dc__law_right pm__law_right an__law_right cd__law_right ct__law_right), sl__law_right⟩) (c__law_right : PySem.W.codeIn K cd__law_right "_law_right" = true) (k__law_right : PySem.W.keepIn K (.ref f__law_right) = true)
    {f__law_copies : Addr} {od__law_copies an__law_copies : Option Addr} {sl__law_copies : Array (Option Value)} {oc__law_copies kV__law_copies dc__law_copies pm__law_copies cd__law_copies ct__law_copies : Value}
    (a__law_copies : PySem.W.nsIn K mainGlobals "_law_copies" = some (some (.ref f__law_copies)))
    (l__law_copies : K.lookup f__law_copies = some ⟨oc__law_copies, od__law_copies, .func (PySem.W.fnOf "_law_copies" "_law_copies" (defArgs s__law_copies) (defBody s__law_copies) (defScope s__law_copies) .none kV__law_copies dc__law_copies pm__law_copies an__law_copies cd__law_copies ct__law_copies), sl__law_copies⟩) (c__law_copies : PySem.W.codeIn K cd__law_copies "_law_copies" = true) (k__law_copies : PySem.W.keepIn K (.ref f__law_copies) = true)
    {f_PrefixMap_longest : Addr} {od_PrefixMap_longest an_PrefixMap_longest : Option Addr} {sl_PrefixMap_longest : Array (Option Value)} {oc_PrefixMap_longest kV_PrefixMap_longest dc_PrefixMap_longest pm_PrefixMap_longest cd_PrefixMap_longest ct_PrefixMap_longest : Value}
    (a_PrefixMap_longest : PySem.W.findIn K (.ref f_PrefixMap) "longest" = some (some (.ref f_PrefixMap_longest))) (i_PrefixMap_longest : PySem.W.isFn K (.ref f_PrefixMap_longest) = true)
    (l_PrefixMap_longest : K.lookup f_PrefixMap_longest = some ⟨oc_PrefixMap_longest, od_PrefixMap_longest, .func (PySem.W.fnOf "longest" "PrefixMap.longest" (defArgs s_PrefixMap_longest) (defBody s_PrefixMap_longest) (defScope s_PrefixMap_longest) .none kV_PrefixMap_longest dc_PrefixMap_longest pm_PrefixMap_longest an_PrefixMap_longest cd_PrefixMap_longest ct_PrefixMap_longest), sl_PrefixMap_longest⟩) (c_PrefixMap_longest : PySem.W.codeIn K cd_PrefixMap_longest "PrefixMap.longest" = true) (k_PrefixMap_longest : PySem.W.keepIn K (.ref f_PrefixMap_longest) = true)
    {f_Table_target_of : Addr} {od_Table_target_of an_Table_target_of : Option Addr} {sl_Table_target_of : Array (Option Value)} {oc_Table_target_of kV_Table_target_of dc_Table_target_of pm_Table_target_of cd_Table_target_of ct_Table_target_of : Value}
    (a_Table_target_of : PySem.W.findIn K (.ref f_Table) "target_of" = some (some (.ref f_Table_target_of))) (i_Table_target_of : PySem.W.isFn K (.ref f_Table_target_of) = true)
    (l_Table_target_of : K.lookup f_Table_target_of = some ⟨oc_Table_target_of, od_Table_target_of, .func (PySem.W.fnOf "target_of" "Table.target_of" (defArgs s_Table_target_of) (defBody s_Table_target_of) (defScope s_Table_target_of) .none kV_Table_target_of dc_Table_target_of pm_Table_target_of an_Table_target_of cd_Table_target_of ct_Table_target_of), sl_Table_target_of⟩) (c_Table_target_of : PySem.W.codeIn K cd_Table_target_of "Table.target_of" = true) (k_Table_target_of : PySem.W.keepIn K (.ref f_Table_target_of) = true)
    {f_Table_lookup : Addr} {od_Table_lookup an_Table_lookup : Option Addr} {sl_Table_lookup : Array (Option Value)} {oc_Table_lookup kV_Table_lookup dc_Table_lookup pm_Table_lookup cd_Table_lookup ct_Table_lookup : Value}
    (a_Table_lookup : PySem.W.findIn K (.ref f_Table) "lookup" = some (some (.ref f_Table_lookup))) (i_Table_lookup : PySem.W.isFn K (.ref f_Table_lookup) = true)
    (l_Table_lookup : K.lookup f_Table_lookup = some ⟨oc_Table_lookup, od_Table_lookup, .func (PySem.W.fnOf "lookup" "Table.lookup" (defArgs s_Table_lookup) (defBody s_Table_lookup) (defScope s_Table_lookup) .none kV_Table_lookup dc_Table_lookup pm_Table_lookup an_Table_lookup cd_Table_lookup ct_Table_lookup), sl_Table_lookup⟩) (c_Table_lookup : PySem.W.codeIn K cd_Table_lookup "Table.lookup" = true) (k_Table_lookup : PySem.W.keepIn K (.ref f_Table_lookup) = true)
    {f_law : Addr} {od_law an_law : Option Addr} {sl_law : Array (Option Value)} {oc_law kV_law dc_law pm_law cd_law ct_law : Value}
    (a_law : PySem.W.nsIn K mainGlobals "law" = some (some (.ref f_law)))
    (l_law : K.lookup f_law = some ⟨oc_law, od_law, .func (PySem.W.fnOf "law" "law" (defArgs s_law) (defBody s_law) (defScope s_law) .none kV_law dc_law pm_law an_law cd_law ct_law), sl_law⟩) (c_law : PySem.W.codeIn K cd_law "law" = true) (k_law : PySem.W.keepIn K (.ref f_law) = true)
    (ic_PrefixMap : PySem.W.isClsIn K f_PrefixMap = true) (ty_PrefixMap : PySem.W.typeIn K (.ref f_PrefixMap) = some (.type "type")) (ss_PrefixMap : PySem.W.subIn K (.ref f_PrefixMap) (.ref f_PrefixMap) = some true)
    (nb0_PrefixMap : PySem.W.subIn K (.type "NoneType") (.ref f_PrefixMap) = some false)
    (nb1_PrefixMap : PySem.W.subIn K (.type "bool") (.ref f_PrefixMap) = some false)
    (nb2_PrefixMap : PySem.W.subIn K (.type "int") (.ref f_PrefixMap) = some false)
    (nb3_PrefixMap : PySem.W.subIn K (.type "str") (.ref f_PrefixMap) = some false)
    (nb4_PrefixMap : PySem.W.subIn K (.type "list") (.ref f_PrefixMap) = some false)
    (nb5_PrefixMap : PySem.W.subIn K (.type "tuple") (.ref f_PrefixMap) = some false)
    (nb6_PrefixMap : PySem.W.subIn K (.type "dict") (.ref f_PrefixMap) = some false)
    (ic_Table : PySem.W.isClsIn K f_Table = true) (ty_Table : PySem.W.typeIn K (.ref f_Table) = some (.type "type")) (ss_Table : PySem.W.subIn K (.ref f_Table) (.ref f_Table) = some true)
    (nb0_Table : PySem.W.subIn K (.type "NoneType") (.ref f_Table) = some false)
    (nb1_Table : PySem.W.subIn K (.type "bool") (.ref f_Table) = some false)
    (nb2_Table : PySem.W.subIn K (.type "int") (.ref f_Table) = some false)
    (nb3_Table : PySem.W.subIn K (.type "str") (.ref f_Table) = some false)
    (nb4_Table : PySem.W.subIn K (.type "list") (.ref f_Table) = some false)
    (nb5_Table : PySem.W.subIn K (.type "tuple") (.ref f_Table) = some false)
    (nb6_Table : PySem.W.subIn K (.type "dict") (.ref f_Table) = some false)
    (en_PrefixMap : PySem.W.findIn K (.ref f_PrefixMap) "__ne__" = some (some (.builtin "object.__ne__"))) (eo_PrefixMap : PySem.W.subIn K (.ref f_PrefixMap) (.type "object") = some true)
    (a_Table___eq__ : PySem.W.findIn K (.ref f_Table) "__eq__" = some (some (.ref f_PrefixMap___eq__)))
    (en_Table : PySem.W.findIn K (.ref f_Table) "__ne__" = some (some (.builtin "object.__ne__"))) (eo_Table : PySem.W.subIn K (.ref f_Table) (.type "object") = some true)
    (ha_PrefixMap : PySem.W.findIn K (.ref f_PrefixMap) "__class__" = some (some (.builtin "object.__class__"))) (hn_PrefixMap : PySem.W.specialIn K (.builtin "object.__class__") "__get__" = some (some (.builtin "getset_descriptor.__get__"))) (htk_PrefixMap : PySem.W.takesIn K (.builtin "object.__class__") = some true) (hm_PrefixMap : PySem.W.mroIn K f_PrefixMap (.type "object") = some true)
    (ha_Table : PySem.W.findIn K (.ref f_Table) "__class__" = some (some (.builtin "object.__class__"))) (hn_Table : PySem.W.specialIn K (.builtin "object.__class__") "__get__" = some (some (.builtin "getset_descriptor.__get__"))) (htk_Table : PySem.W.takesIn K (.builtin "object.__class__") = some true) (hm_Table : PySem.W.mroIn K f_Table (.type "object") = some true)
    (a_Table___len__ : PySem.W.findIn K (.ref f_Table) "__len__" = some (some (.ref f_PrefixMap___len__)))
    (a_Table_is_same : PySem.W.findIn K (.ref f_Table) "is_same" = some (some (.ref f_PrefixMap_is_same)))
    (a_Table_kept_value : PySem.W.findIn K (.ref f_Table) "kept_value" = some (some (.ref f_PrefixMap_kept_value)))
    (a_Table_longest : PySem.W.findIn K (.ref f_Table) "longest" = some (some (.ref f_PrefixMap_longest)))
    (a_Table_walk : PySem.W.findIn K (.ref f_Table) "walk" = some (some (.ref f_PrefixMap_walk)))
    (a_Table_with_row : PySem.W.findIn K (.ref f_Table) "with_row" = some (some (.ref f_PrefixMap_with_row)))
    (a_Table_without : PySem.W.findIn K (.ref f_Table) "without" = some (some (.ref f_PrefixMap_without)))
    (mk_PrefixMap : PySem.W.makesIn K f_PrefixMap = true)
    (a_Table___init__ : PySem.W.findIn K (.ref f_Table) "__init__" = some (some (.ref f_PrefixMap___init__)))
    (mk_Table : PySem.W.makesIn K f_Table = true)
    (na_PrefixMap_bits : PySem.W.findIn K (.ref f_PrefixMap) "bits" = some none)
    (na_PrefixMap_held : PySem.W.findIn K (.ref f_PrefixMap) "held" = some none)
    (na_Table_bits : PySem.W.findIn K (.ref f_Table) "bits" = some none)
    (na_Table_held : PySem.W.findIn K (.ref f_Table) "held" = some none)
    (nf_PrefixMap_PrefixMap : PySem.W.notFirst K f_PrefixMap (.ref f_PrefixMap) = true)
    (nf_Table_PrefixMap : PySem.W.notFirst K f_Table (.ref f_PrefixMap) = true)
    (nf_Table_Table : PySem.W.notFirst K f_Table (.ref f_Table) = true)
    (a_Table_rows : PySem.W.findIn K (.ref f_Table) "rows" = some (some (.ref p_PrefixMap_rows)))
    (a_Table_width : PySem.W.findIn K (.ref f_Table) "width" = some (some (.ref p_PrefixMap_width)))
    (sb_PrefixMap_PrefixMap : PySem.W.subIn K (.ref f_PrefixMap) (.ref f_PrefixMap) = some true)
    (sb_PrefixMap_Table : PySem.W.subIn K (.ref f_PrefixMap) (.ref f_Table) = some false)
    (sb_Table_PrefixMap : PySem.W.subIn K (.ref f_Table) (.ref f_PrefixMap) = some true)
    (sb_Table_Table : PySem.W.subIn K (.ref f_Table) (.ref f_Table) = some true)
    (kc_PrefixMap : PySem.W.keepIn K (.ref f_PrefixMap) = true)
    (kc_Table : PySem.W.keepIn K (.ref f_Table) = true)
    (z_all : PySem.W.nsIn K mainGlobals "all" = some none)
    (z_bool : PySem.W.nsIn K mainGlobals "bool" = some none)
    (z_dict : PySem.W.nsIn K mainGlobals "dict" = some none)
    (z_int : PySem.W.nsIn K mainGlobals "int" = some none)
    (z_isinstance : PySem.W.nsIn K mainGlobals "isinstance" = some none)
    (z_len : PySem.W.nsIn K mainGlobals "len" = some none)
    (z_list : PySem.W.nsIn K mainGlobals "list" = some none)
    (z_min : PySem.W.nsIn K mainGlobals "min" = some none)
    (z_range : PySem.W.nsIn K mainGlobals "range" = some none)
    (z_repr : PySem.W.nsIn K mainGlobals "repr" = some none)
    (z_set : PySem.W.nsIn K mainGlobals "set" = some none)
    (z_sorted : PySem.W.nsIn K mainGlobals "sorted" = some none)
    (z_str : PySem.W.nsIn K mainGlobals "str" = some none)
    (z_tuple : PySem.W.nsIn K mainGlobals "tuple" = some none)
    {t_LETTERS : Tok} (g_LETTERS : PySem.W.nsIn K mainGlobals "LETTERS" = some (some (.str "abcdefghijklmnopqrstuvwxyz" t_LETTERS)))
    {t_MAX_TARGET : Tok} (g_MAX_TARGET : PySem.W.nsIn K mainGlobals "MAX_TARGET" = some (some (.int 8 t_MAX_TARGET)))
    {t_MAX_WIDTH : Tok} (g_MAX_WIDTH : PySem.W.nsIn K mainGlobals "MAX_WIDTH" = some (some (.int 32 t_MAX_WIDTH))) :
    ∃ fd : FuncData, (∀ (s : Shared) (v : Value), BindsTo s fd ⟨[v], []⟩ [("script", v)]) ∧ ∀ base : Heap, K.In base → base.Ns mainGlobals mg → FnG l.prog w K mg base 11 fa fd ["script"] (spLaw K) := by
  have e := hfa.symm.trans (PySem.W.mg_of X G a_law)
  cases e
  have A_PrefixMap : cA K "PrefixMap" = f_PrefixMap := cA_of a_PrefixMap
  have A_Table : cA K "Table" = f_Table := cA_of a_Table
  have M_PrefixMap_kept_value : cM K "PrefixMap" "kept_value" = f_PrefixMap_kept_value := cM_of A_PrefixMap a_PrefixMap_kept_value
  have M_PrefixMap___len__ : cM K "PrefixMap" "__len__" = f_PrefixMap___len__ := cM_of A_PrefixMap a_PrefixMap___len__
  have M_PrefixMap_is_value : cM K "PrefixMap" "is_value" = f_PrefixMap_is_value := cM_of A_PrefixMap a_PrefixMap_is_value
  have M_Table_is_target : cM K "Table" "is_target" = p_Table_is_target := cM_of A_Table a_Table_is_target
  have S_Table_is_target : cS K "Table" "is_target" = f_Table_is_target := cS_of A_Table a_Table_is_target r_Table_is_target
  have M_Table_is_value : cM K "Table" "is_value" = f_Table_is_value := cM_of A_Table a_Table_is_value
  have M_PrefixMap___init__ : cM K "PrefixMap" "__init__" = f_PrefixMap___init__ := cM_of A_PrefixMap a_PrefixMap___init__
  have M_PrefixMap_is_same : cM K "PrefixMap" "is_same" = f_PrefixMap_is_same := cM_of A_PrefixMap a_PrefixMap_is_same
  have M_Table_sort_of_map : cM K "Table" "sort_of_map" = f_Table_sort_of_map := cM_of A_Table a_Table_sort_of_map
  have M_PrefixMap_sort_of_map : cM K "PrefixMap" "sort_of_map" = f_PrefixMap_sort_of_map := cM_of A_PrefixMap a_PrefixMap_sort_of_map
  have M_PrefixMap___eq__ : cM K "PrefixMap" "__eq__" = f_PrefixMap___eq__ := cM_of A_PrefixMap a_PrefixMap___eq__
  have M_Table_of : cM K "Table" "of" = p_Table_of := cM_of A_Table a_Table_of
  have S_Table_of : cC K "Table" "of" = f_Table_of := cC_of A_Table a_Table_of r_Table_of
  have M_Table_targets : cM K "Table" "targets" = p_Table_targets := cM_of A_Table a_Table_targets
  have G_Table_targets : cG K "Table" "targets" = f_Table_targets := cG_of A_Table a_Table_targets r_Table_targets
  have M_PrefixMap_made : cM K "PrefixMap" "made" = f_PrefixMap_made := cM_of A_PrefixMap a_PrefixMap_made
  have M_Table_made : cM K "Table" "made" = f_Table_made := cM_of A_Table a_Table_made
  have M_PrefixMap_with_row : cM K "PrefixMap" "with_row" = f_PrefixMap_with_row := cM_of A_PrefixMap a_PrefixMap_with_row
  have M_PrefixMap_without : cM K "PrefixMap" "without" = f_PrefixMap_without := cM_of A_PrefixMap a_PrefixMap_without
  have M_PrefixMap_rows : cM K "PrefixMap" "rows" = p_PrefixMap_rows := cM_of A_PrefixMap a_PrefixMap_rows
  have G_PrefixMap_rows : cG K "PrefixMap" "rows" = f_PrefixMap_rows := cG_of A_PrefixMap a_PrefixMap_rows r_PrefixMap_rows
  have M_PrefixMap_width : cM K "PrefixMap" "width" = p_PrefixMap_width := cM_of A_PrefixMap a_PrefixMap_width
  have G_PrefixMap_width : cG K "PrefixMap" "width" = f_PrefixMap_width := cG_of A_PrefixMap a_PrefixMap_width r_PrefixMap_width
  have M_PrefixMap_walk : cM K "PrefixMap" "walk" = f_PrefixMap_walk := cM_of A_PrefixMap a_PrefixMap_walk
  have M_PrefixMap_longest : cM K "PrefixMap" "longest" = f_PrefixMap_longest := cM_of A_PrefixMap a_PrefixMap_longest
  have M_Table_target_of : cM K "Table" "target_of" = f_Table_target_of := cM_of A_Table a_Table_target_of
  have M_Table_lookup : cM K "Table" "lookup" = f_Table_lookup := cM_of A_Table a_Table_lookup
  have T : Txt K mg := ⟨PySem.W.mg_none_of X G z_all,
    PySem.W.mg_none_of X G z_bool,
    PySem.W.mg_none_of X G z_dict,
    PySem.W.mg_none_of X G z_int,
    PySem.W.mg_none_of X G z_isinstance,
    PySem.W.mg_none_of X G z_len,
    PySem.W.mg_none_of X G z_list,
    PySem.W.mg_none_of X G z_min,
    PySem.W.mg_none_of X G z_range,
    PySem.W.mg_none_of X G z_repr,
    PySem.W.mg_none_of X G z_set,
    PySem.W.mg_none_of X G z_sorted,
    PySem.W.mg_none_of X G z_str,
    PySem.W.mg_none_of X G z_tuple,
    ⟨_, PySem.W.mg_of X G g_LETTERS, ⟨_, rfl⟩⟩,
    ⟨_, PySem.W.mg_of X G g_MAX_TARGET, ⟨_, rfl⟩⟩,
    ⟨_, PySem.W.mg_of X G g_MAX_WIDTH, ⟨_, rfl⟩⟩,
    (by rw [A_PrefixMap]; exact ⟨pg_PrefixMap, hd_PrefixMap, po_PrefixMap, sa_PrefixMap⟩),
    (by rw [A_Table]; exact ⟨pg_Table, hd_Table, po_Table, sa_Table⟩),
    (by rw [A_PrefixMap]; exact PySem.W.mg_of X G a_PrefixMap),
    (by rw [A_Table]; exact PySem.W.mg_of X G a_Table),
    (by rw [A_PrefixMap]; exact ⟨ic_PrefixMap, ty_PrefixMap, ss_PrefixMap⟩),
    (by rw [A_PrefixMap]; exact ⟨nb0_PrefixMap, nb1_PrefixMap, nb2_PrefixMap, nb3_PrefixMap, nb4_PrefixMap, nb5_PrefixMap, nb6_PrefixMap⟩),
    (by rw [A_Table]; exact ⟨ic_Table, ty_Table, ss_Table⟩),
    (by rw [A_Table]; exact ⟨nb0_Table, nb1_Table, nb2_Table, nb3_Table, nb4_Table, nb5_Table, nb6_Table⟩),
    (by rw [A_Table, S_Table_of]; exact ⟨.type "type", p_Table_of, ⟨rd_Table_of, ga_Table_of⟩, ⟨sf_Table_of, ⟨_, r_Table_of⟩, fi_Table_of⟩⟩),
    (by rw [A_PrefixMap, M_PrefixMap___eq__]; exact ⟨a_PrefixMap___eq__, i_PrefixMap___eq__⟩),
    (by rw [A_PrefixMap]; exact en_PrefixMap),
    (by rw [A_PrefixMap]; exact eo_PrefixMap),
    (by rw [A_Table, M_PrefixMap___eq__]; exact ⟨a_Table___eq__, i_PrefixMap___eq__⟩),
    (by rw [A_Table]; exact en_Table),
    (by rw [A_Table]; exact eo_Table),
    (by rw [A_PrefixMap]; exact ⟨⟨pg_PrefixMap, hd_PrefixMap, po_PrefixMap, sa_PrefixMap⟩, ha_PrefixMap, hn_PrefixMap, htk_PrefixMap, hm_PrefixMap⟩),
    (by rw [A_Table]; exact ⟨⟨pg_Table, hd_Table, po_Table, sa_Table⟩, ha_Table, hn_Table, htk_Table, hm_Table⟩),
    (by rw [A_PrefixMap, M_PrefixMap___len__]; exact ⟨a_PrefixMap___len__, i_PrefixMap___len__, k_PrefixMap___len__⟩),
    (by rw [A_PrefixMap, M_PrefixMap_is_same]; exact ⟨a_PrefixMap_is_same, i_PrefixMap_is_same, k_PrefixMap_is_same⟩),
    (by rw [A_PrefixMap, M_PrefixMap_is_value]; exact ⟨a_PrefixMap_is_value, i_PrefixMap_is_value, k_PrefixMap_is_value⟩),
    (by rw [A_PrefixMap, M_PrefixMap_kept_value]; exact ⟨a_PrefixMap_kept_value, i_PrefixMap_kept_value, k_PrefixMap_kept_value⟩),
    (by rw [A_PrefixMap, M_PrefixMap_longest]; exact ⟨a_PrefixMap_longest, i_PrefixMap_longest, k_PrefixMap_longest⟩),
    (by rw [A_PrefixMap, M_PrefixMap_made]; exact ⟨a_PrefixMap_made, i_PrefixMap_made, k_PrefixMap_made⟩),
    (by rw [A_PrefixMap, M_PrefixMap_sort_of_map]; exact ⟨a_PrefixMap_sort_of_map, i_PrefixMap_sort_of_map, k_PrefixMap_sort_of_map⟩),
    (by rw [A_PrefixMap, M_PrefixMap_walk]; exact ⟨a_PrefixMap_walk, i_PrefixMap_walk, k_PrefixMap_walk⟩),
    (by rw [A_PrefixMap, M_PrefixMap_with_row]; exact ⟨a_PrefixMap_with_row, i_PrefixMap_with_row, k_PrefixMap_with_row⟩),
    (by rw [A_PrefixMap, M_PrefixMap_without]; exact ⟨a_PrefixMap_without, i_PrefixMap_without, k_PrefixMap_without⟩),
    (by rw [A_Table, M_PrefixMap___len__]; exact ⟨a_Table___len__, i_PrefixMap___len__, k_PrefixMap___len__⟩),
    (by rw [A_Table, M_PrefixMap_is_same]; exact ⟨a_Table_is_same, i_PrefixMap_is_same, k_PrefixMap_is_same⟩),
    (by rw [A_Table, M_Table_is_value]; exact ⟨a_Table_is_value, i_Table_is_value, k_Table_is_value⟩),
    (by rw [A_Table, M_PrefixMap_kept_value]; exact ⟨a_Table_kept_value, i_PrefixMap_kept_value, k_PrefixMap_kept_value⟩),
    (by rw [A_Table, M_PrefixMap_longest]; exact ⟨a_Table_longest, i_PrefixMap_longest, k_PrefixMap_longest⟩),
    (by rw [A_Table, M_Table_lookup]; exact ⟨a_Table_lookup, i_Table_lookup, k_Table_lookup⟩),
    (by rw [A_Table, M_Table_made]; exact ⟨a_Table_made, i_Table_made, k_Table_made⟩),
    (by rw [A_Table, M_Table_sort_of_map]; exact ⟨a_Table_sort_of_map, i_Table_sort_of_map, k_Table_sort_of_map⟩),
    (by rw [A_Table, M_Table_target_of]; exact ⟨a_Table_target_of, i_Table_target_of, k_Table_target_of⟩),
    (by rw [A_Table, M_PrefixMap_walk]; exact ⟨a_Table_walk, i_PrefixMap_walk, k_PrefixMap_walk⟩),
    (by rw [A_Table, M_PrefixMap_with_row]; exact ⟨a_Table_with_row, i_PrefixMap_with_row, k_PrefixMap_with_row⟩),
    (by rw [A_Table, M_PrefixMap_without]; exact ⟨a_Table_without, i_PrefixMap_without, k_PrefixMap_without⟩),
    (by rw [A_PrefixMap, M_PrefixMap___init__]; exact ⟨mk_PrefixMap, a_PrefixMap___init__, i_PrefixMap___init__, kc_PrefixMap⟩),
    (by rw [A_Table, M_PrefixMap___init__]; exact ⟨mk_Table, a_Table___init__, i_PrefixMap___init__, kc_Table⟩),
    (by rw [A_PrefixMap]; exact na_PrefixMap_bits),
    (by rw [A_PrefixMap]; exact na_PrefixMap_held),
    (by rw [A_Table]; exact na_Table_bits),
    (by rw [A_Table]; exact na_Table_held),
    (by rw [A_PrefixMap]; exact nf_PrefixMap_PrefixMap),
    (by rw [A_Table, A_PrefixMap]; exact nf_Table_PrefixMap),
    (by rw [A_Table]; exact nf_Table_Table),
    (by rw [A_PrefixMap, M_PrefixMap_rows, G_PrefixMap_rows]; exact ⟨a_PrefixMap_rows, g_PrefixMap_rows, t_PrefixMap_rows, ⟨_, r_PrefixMap_rows⟩⟩),
    (by rw [A_PrefixMap, M_PrefixMap_width, G_PrefixMap_width]; exact ⟨a_PrefixMap_width, g_PrefixMap_width, t_PrefixMap_width, ⟨_, r_PrefixMap_width⟩⟩),
    (by rw [A_Table, M_PrefixMap_rows, G_PrefixMap_rows]; exact ⟨a_Table_rows, g_PrefixMap_rows, t_PrefixMap_rows, ⟨_, r_PrefixMap_rows⟩⟩),
    (by rw [A_Table, M_Table_targets, G_Table_targets]; exact ⟨a_Table_targets, g_Table_targets, t_Table_targets, ⟨_, r_Table_targets⟩⟩),
    (by rw [A_Table, M_PrefixMap_width, G_PrefixMap_width]; exact ⟨a_Table_width, g_PrefixMap_width, t_PrefixMap_width, ⟨_, r_PrefixMap_width⟩⟩),
    (by rw [A_PrefixMap]; exact sb_PrefixMap_PrefixMap),
    (by rw [A_PrefixMap, A_Table]; exact sb_PrefixMap_Table),
    (by rw [A_Table, A_PrefixMap]; exact sb_Table_PrefixMap),
    (by rw [A_Table]; exact sb_Table_Table),
    (by rw [A_Table, M_Table_is_target, S_Table_is_target]; exact ⟨⟨.type "type", ⟨rd_Table_is_target, ga_Table_is_target⟩, sf_Table_is_target⟩, ⟨_, r_Table_is_target⟩, k_Table_is_target⟩)⟩
  have h__law_pen : HF K mg "_law_pen" s__law_pen := ⟨_, _, fun_mk (st := s__law_pen) l__law_pen c__law_pen k__law_pen, PySem.W.mg_of X G a__law_pen⟩
  have h_PrefixMap_kept_value : HM K "kept_value" "PrefixMap.kept_value" s_PrefixMap_kept_value (cM K "PrefixMap" "kept_value") := by rw [M_PrefixMap_kept_value]; exact ⟨_, fun_mk (st := s_PrefixMap_kept_value) l_PrefixMap_kept_value c_PrefixMap_kept_value k_PrefixMap_kept_value⟩
  have h_is_integer : HF K mg "is_integer" s_is_integer := ⟨_, _, fun_mk (st := s_is_integer) l_is_integer c_is_integer k_is_integer, PySem.W.mg_of X G a_is_integer⟩
  have h_PrefixMap___len__ : HM K "__len__" "PrefixMap.__len__" s_PrefixMap___len__ (cM K "PrefixMap" "__len__") := by rw [M_PrefixMap___len__]; exact ⟨_, fun_mk (st := s_PrefixMap___len__) l_PrefixMap___len__ c_PrefixMap___len__ k_PrefixMap___len__⟩
  have h_is_prefix : HF K mg "is_prefix" s_is_prefix := ⟨_, _, fun_mk (st := s_is_prefix) l_is_prefix c_is_prefix k_is_prefix, PySem.W.mg_of X G a_is_prefix⟩
  have h_PrefixMap_is_value : HM K "is_value" "PrefixMap.is_value" s_PrefixMap_is_value (cM K "PrefixMap" "is_value") := by rw [M_PrefixMap_is_value]; exact ⟨_, fun_mk (st := s_PrefixMap_is_value) l_PrefixMap_is_value c_PrefixMap_is_value k_PrefixMap_is_value⟩
  have h_Table_is_target : HM K "is_target" "Table.is_target" s_Table_is_target (cS K "Table" "is_target") := by rw [S_Table_is_target]; exact ⟨_, fun_mk (st := s_Table_is_target) l_Table_is_target c_Table_is_target k_Table_is_target⟩
  have h_Table_is_value : HM K "is_value" "Table.is_value" s_Table_is_value (cM K "Table" "is_value") := by rw [M_Table_is_value]; exact ⟨_, fun_mk (st := s_Table_is_value) l_Table_is_value c_Table_is_value k_Table_is_value⟩
  have h_PrefixMap___init__ : HM K "__init__" "PrefixMap.__init__" s_PrefixMap___init__ (cM K "PrefixMap" "__init__") := by rw [M_PrefixMap___init__]; exact ⟨_, fun_mk (st := s_PrefixMap___init__) l_PrefixMap___init__ c_PrefixMap___init__ k_PrefixMap___init__⟩
  have h_PrefixMap_is_same : HM K "is_same" "PrefixMap.is_same" s_PrefixMap_is_same (cM K "PrefixMap" "is_same") := by rw [M_PrefixMap_is_same]; exact ⟨_, fun_mk (st := s_PrefixMap_is_same) l_PrefixMap_is_same c_PrefixMap_is_same k_PrefixMap_is_same⟩
  have h_Table_sort_of_map : HM K "sort_of_map" "Table.sort_of_map" s_Table_sort_of_map (cM K "Table" "sort_of_map") := by rw [M_Table_sort_of_map]; exact ⟨_, fun_mk (st := s_Table_sort_of_map) l_Table_sort_of_map c_Table_sort_of_map k_Table_sort_of_map⟩
  have h_PrefixMap_sort_of_map : HM K "sort_of_map" "PrefixMap.sort_of_map" s_PrefixMap_sort_of_map (cM K "PrefixMap" "sort_of_map") := by rw [M_PrefixMap_sort_of_map]; exact ⟨_, fun_mk (st := s_PrefixMap_sort_of_map) l_PrefixMap_sort_of_map c_PrefixMap_sort_of_map k_PrefixMap_sort_of_map⟩
  have h_PrefixMap___eq__ : HM K "__eq__" "PrefixMap.__eq__" s_PrefixMap___eq__ (cM K "PrefixMap" "__eq__") := by rw [M_PrefixMap___eq__]; exact ⟨_, fun_mk (st := s_PrefixMap___eq__) l_PrefixMap___eq__ c_PrefixMap___eq__ k_PrefixMap___eq__⟩
  have h_Table_of : HM K "of" "Table.of" s_Table_of (cC K "Table" "of") := by rw [S_Table_of]; exact ⟨_, fun_mk (st := s_Table_of) l_Table_of c_Table_of k_Table_of⟩
  have h__law_next : HF K mg "_law_next" s__law_next := ⟨_, _, fun_mk (st := s__law_next) l__law_next c__law_next k__law_next, PySem.W.mg_of X G a__law_next⟩
  have h__law_draw : HF K mg "_law_draw" s__law_draw := ⟨_, _, fun_mk (st := s__law_draw) l__law_draw c__law_draw k__law_draw, PySem.W.mg_of X G a__law_draw⟩
  have h__law_size : HF K mg "_law_size" s__law_size := ⟨_, _, fun_mk (st := s__law_size) l__law_size c__law_size k__law_size, PySem.W.mg_of X G a__law_size⟩
  have h__law_bits : HF K mg "_law_bits" s__law_bits := ⟨_, _, fun_mk (st := s__law_bits) l__law_bits c__law_bits k__law_bits, PySem.W.mg_of X G a__law_bits⟩
  have h__law_prefixes : HF K mg "_law_prefixes" s__law_prefixes := ⟨_, _, fun_mk (st := s__law_prefixes) l__law_prefixes c__law_prefixes k__law_prefixes, PySem.W.mg_of X G a__law_prefixes⟩
  have h__law_lines : HF K mg "_law_lines" s__law_lines := ⟨_, _, fun_mk (st := s__law_lines) l__law_lines c__law_lines k__law_lines, PySem.W.mg_of X G a__law_lines⟩
  have h_Table_targets : HM K "targets" "Table.targets" s_Table_targets (cG K "Table" "targets") := by rw [G_Table_targets]; exact ⟨_, fun_mk (st := s_Table_targets) l_Table_targets c_Table_targets k_Table_targets⟩
  have h_PrefixMap_made : HM K "made" "PrefixMap.made" s_PrefixMap_made (cM K "PrefixMap" "made") := by rw [M_PrefixMap_made]; exact ⟨_, fun_mk (st := s_PrefixMap_made) l_PrefixMap_made c_PrefixMap_made k_PrefixMap_made⟩
  have h_Table_made : HM K "made" "Table.made" s_Table_made (cM K "Table" "made") := by rw [M_Table_made]; exact ⟨_, fun_mk (st := s_Table_made) l_Table_made c_Table_made k_Table_made⟩
  have h_PrefixMap_with_row : HM K "with_row" "PrefixMap.with_row" s_PrefixMap_with_row (cM K "PrefixMap" "with_row") := by rw [M_PrefixMap_with_row]; exact ⟨_, fun_mk (st := s_PrefixMap_with_row) l_PrefixMap_with_row c_PrefixMap_with_row k_PrefixMap_with_row⟩
  have h_PrefixMap_without : HM K "without" "PrefixMap.without" s_PrefixMap_without (cM K "PrefixMap" "without") := by rw [M_PrefixMap_without]; exact ⟨_, fun_mk (st := s_PrefixMap_without) l_PrefixMap_without c_PrefixMap_without k_PrefixMap_without⟩
  have h_PrefixMap_rows : HM K "rows" "PrefixMap.rows" s_PrefixMap_rows (cG K "PrefixMap" "rows") := by rw [G_PrefixMap_rows]; exact ⟨_, fun_mk (st := s_PrefixMap_rows) l_PrefixMap_rows c_PrefixMap_rows k_PrefixMap_rows⟩
  have h_PrefixMap_width : HM K "width" "PrefixMap.width" s_PrefixMap_width (cG K "PrefixMap" "width") := by rw [G_PrefixMap_width]; exact ⟨_, fun_mk (st := s_PrefixMap_width) l_PrefixMap_width c_PrefixMap_width k_PrefixMap_width⟩
  have h_PrefixMap_walk : HM K "walk" "PrefixMap.walk" s_PrefixMap_walk (cM K "PrefixMap" "walk") := by rw [M_PrefixMap_walk]; exact ⟨_, fun_mk (st := s_PrefixMap_walk) l_PrefixMap_walk c_PrefixMap_walk k_PrefixMap_walk⟩
  have h__law_right : HF K mg "_law_right" s__law_right := ⟨_, _, fun_mk (st := s__law_right) l__law_right c__law_right k__law_right, PySem.W.mg_of X G a__law_right⟩
  have h__law_copies : HF K mg "_law_copies" s__law_copies := ⟨_, _, fun_mk (st := s__law_copies) l__law_copies c__law_copies k__law_copies, PySem.W.mg_of X G a__law_copies⟩
  have h_PrefixMap_longest : HM K "longest" "PrefixMap.longest" s_PrefixMap_longest (cM K "PrefixMap" "longest") := by rw [M_PrefixMap_longest]; exact ⟨_, fun_mk (st := s_PrefixMap_longest) l_PrefixMap_longest c_PrefixMap_longest k_PrefixMap_longest⟩
  have h_Table_target_of : HM K "target_of" "Table.target_of" s_Table_target_of (cM K "Table" "target_of") := by rw [M_Table_target_of]; exact ⟨_, fun_mk (st := s_Table_target_of) l_Table_target_of c_Table_target_of k_Table_target_of⟩
  have h_Table_lookup : HM K "lookup" "Table.lookup" s_Table_lookup (cM K "Table" "lookup") := by rw [M_Table_lookup]; exact ⟨_, fun_mk (st := s_Table_lookup) l_Table_lookup c_Table_lookup k_Table_lookup⟩
  have F_law := fun_mk (st := s_law) l_law c_law k_law
  refine ⟨_, fun s v => .of_eq rfl, fun base _ _ => law_end (def_ok F_law sc_law fun W => ?_) fun ns hl => law_spec hl⟩
  have n__law_pen := fn__law_pen (P := l.prog) (wd := w) (base := base) T h__law_pen 
  have n_PrefixMap_kept_value := fn_PrefixMap_kept_value (P := l.prog) (wd := w) (base := base) T h_PrefixMap_kept_value 
  have n_is_integer := fn_is_integer (P := l.prog) (wd := w) (base := base) T h_is_integer 
  have n_PrefixMap___len__ := fn_PrefixMap___len__ (P := l.prog) (wd := w) (base := base) T h_PrefixMap___len__ 
  have n_is_prefix := fn_is_prefix (P := l.prog) (wd := w) (base := base) T h_is_prefix 
  have n_PrefixMap_is_value := fn_PrefixMap_is_value (P := l.prog) (wd := w) (base := base) T h_PrefixMap_is_value 
  have n_Table_is_target := fn_Table_is_target (P := l.prog) (wd := w) (base := base) T h_Table_is_target 
  have n_Table_is_value := fn_Table_is_value (P := l.prog) (wd := w) (base := base) T h_Table_is_value n_Table_is_target
  have n_PrefixMap___init__ := fn_PrefixMap___init__ (P := l.prog) (wd := w) (base := base) T h_PrefixMap___init__ n_is_integer n_is_prefix n_Table_is_value n_PrefixMap_is_value n_PrefixMap_kept_value
  have n_PrefixMap_is_same := fn_PrefixMap_is_same (P := l.prog) (wd := w) (base := base) T h_PrefixMap_is_same 
  have n_Table_sort_of_map := fn_Table_sort_of_map (P := l.prog) (wd := w) (base := base) T h_Table_sort_of_map 
  have n_PrefixMap_sort_of_map := fn_PrefixMap_sort_of_map (P := l.prog) (wd := w) (base := base) T h_PrefixMap_sort_of_map 
  have n_PrefixMap___eq__ := fn_PrefixMap___eq__ (P := l.prog) (wd := w) (base := base) T h_PrefixMap___eq__ n_Table_sort_of_map n_PrefixMap_sort_of_map n_PrefixMap_is_same
  have n_Table_of := fn_Table_of (P := l.prog) (wd := w) (base := base) T h_Table_of n_PrefixMap___init__
  have n__law_next := fn__law_next (P := l.prog) (wd := w) (base := base) T h__law_next 
  have n__law_draw := fn__law_draw (P := l.prog) (wd := w) (base := base) T h__law_draw n__law_next
  have n__law_size := fn__law_size (P := l.prog) (wd := w) (base := base) T h__law_size n__law_draw
  have n__law_bits := fn__law_bits (P := l.prog) (wd := w) (base := base) T h__law_bits n__law_draw
  have n__law_prefixes := fn__law_prefixes (P := l.prog) (wd := w) (base := base) T h__law_prefixes n__law_draw n__law_bits
  have n__law_lines := fn__law_lines (P := l.prog) (wd := w) (base := base) T h__law_lines n__law_prefixes n__law_draw
  have n_Table_targets := fn_Table_targets (P := l.prog) (wd := w) (base := base) T h_Table_targets 
  have n_Table_targets_st := fn_Table_targets_st (P := l.prog) (wd := w) (base := base) T h_Table_targets 
  have n_PrefixMap_made := fn_PrefixMap_made (P := l.prog) (wd := w) (base := base) T h_PrefixMap_made n_PrefixMap___init__
  have n_Table_made := fn_Table_made (P := l.prog) (wd := w) (base := base) T h_Table_made n_PrefixMap___init__
  have n_PrefixMap_with_row := fn_PrefixMap_with_row (P := l.prog) (wd := w) (base := base) T h_PrefixMap_with_row n_is_prefix n_Table_made n_PrefixMap_made
  have n_PrefixMap_without := fn_PrefixMap_without (P := l.prog) (wd := w) (base := base) T h_PrefixMap_without n_Table_made n_PrefixMap_made
  have n_PrefixMap_rows := fn_PrefixMap_rows (P := l.prog) (wd := w) (base := base) T h_PrefixMap_rows 
  have n_PrefixMap_rows_st := fn_PrefixMap_rows_st (P := l.prog) (wd := w) (base := base) T h_PrefixMap_rows 
  have n_PrefixMap_width := fn_PrefixMap_width (P := l.prog) (wd := w) (base := base) T h_PrefixMap_width 
  have n_PrefixMap_walk := fn_PrefixMap_walk (P := l.prog) (wd := w) (base := base) T h_PrefixMap_walk 
  have n__law_right := fn__law_right (P := l.prog) (wd := w) (base := base) T h__law_right n_Table_targets_st n_PrefixMap_rows_st n_PrefixMap_width n_PrefixMap_walk
  have n__law_copies := fn__law_copies (P := l.prog) (wd := w) (base := base) T h__law_copies n__law_right n_PrefixMap___init__
  have n_PrefixMap_longest := fn_PrefixMap_longest (P := l.prog) (wd := w) (base := base) T h_PrefixMap_longest n_is_prefix
  have n_Table_target_of := fn_Table_target_of (P := l.prog) (wd := w) (base := base) T h_Table_target_of n_PrefixMap_longest
  have n_Table_lookup := fn_Table_lookup (P := l.prog) (wd := w) (base := base) T h_Table_lookup n_is_prefix n_Table_target_of
  exact bd_law T n__law_pen n__law_size n__law_lines n__law_right n__law_copies n_PrefixMap___init__ n_PrefixMap_with_row n_PrefixMap_without n_PrefixMap___eq__ n_PrefixMap___len__ n_Table_of n_Table_targets n_Table_lookup W
end DL
open PySem PySem.W PyProof.Rows
set_option maxRecDepth 100000 in
set_option maxHeartbeats 0 in
theorem PySem.Challenge.cw_keptroutes_k07_tables_made_holds : PySem.Challenge.rw_keptroutes_k07_tables_made.Holds := by
  w_on; o_law; k_head; (case hw => w_witness2)
  k_fill
  refine DL.walk (l := PySem.Challenge.rw_keptroutes_k07_tables_made) (k := 11) (x := "script") rfl rfl (by decide +kernel) ⟨rfl, by decide, by decide⟩ (fun w h Y => PySem.W.kIn_of Y) ?F
  case F =>
    intro w mg fa h KX G hmg
    refine' DL.all_mk KX G hmg ?a_PrefixMap ?pg_PrefixMap ?hd_PrefixMap ?po_PrefixMap ?sa_PrefixMap ?a_Table ?pg_Table ?hd_Table ?po_Table ?sa_Table ?a__law_pen ?l__law_pen ?c__law_pen ?k__law_pen ?a_PrefixMap_kept_value ?i_PrefixMap_kept_value ?l_PrefixMap_kept_value ?c_PrefixMap_kept_value ?k_PrefixMap_kept_value ?a_is_integer ?l_is_integer ?c_is_integer ?k_is_integer ?a_PrefixMap___len__ ?i_PrefixMap___len__ ?l_PrefixMap___len__ ?c_PrefixMap___len__ ?k_PrefixMap___len__ ?a_is_prefix ?l_is_prefix ?c_is_prefix ?k_is_prefix ?a_PrefixMap_is_value ?i_PrefixMap_is_value ?l_PrefixMap_is_value ?c_PrefixMap_is_value ?k_PrefixMap_is_value ?a_Table_is_target ?sf_Table_is_target ?rd_Table_is_target ?ga_Table_is_target ?r_Table_is_target ?l_Table_is_target ?c_Table_is_target ?k_Table_is_target ?a_Table_is_value ?i_Table_is_value ?l_Table_is_value ?c_Table_is_value ?k_Table_is_value ?a_PrefixMap___init__ ?i_PrefixMap___init__ ?l_PrefixMap___init__ ?c_PrefixMap___init__ ?k_PrefixMap___init__ ?a_PrefixMap_is_same ?i_PrefixMap_is_same ?l_PrefixMap_is_same ?c_PrefixMap_is_same ?k_PrefixMap_is_same ?a_Table_sort_of_map ?i_Table_sort_of_map ?l_Table_sort_of_map ?c_Table_sort_of_map ?k_Table_sort_of_map ?a_PrefixMap_sort_of_map ?i_PrefixMap_sort_of_map ?l_PrefixMap_sort_of_map ?c_PrefixMap_sort_of_map ?k_PrefixMap_sort_of_map ?a_PrefixMap___eq__ ?i_PrefixMap___eq__ ?l_PrefixMap___eq__ ?c_PrefixMap___eq__ ?k_PrefixMap___eq__ ?a_Table_of ?sf_Table_of ?rd_Table_of ?ga_Table_of ?r_Table_of ?fi_Table_of ?l_Table_of ?c_Table_of ?k_Table_of ?a__law_next ?l__law_next ?c__law_next ?k__law_next ?a__law_draw ?l__law_draw ?c__law_draw ?k__law_draw ?a__law_size ?l__law_size ?c__law_size ?k__law_size ?a__law_bits ?l__law_bits ?c__law_bits ?k__law_bits ?a__law_prefixes ?l__law_prefixes ?c__law_prefixes ?k__law_prefixes ?a__law_lines ?l__law_lines ?c__law_lines ?k__law_lines ?a_Table_targets ?g_Table_targets ?t_Table_targets ?r_Table_targets ?l_Table_targets ?c_Table_targets ?k_Table_targets ?a_PrefixMap_made ?i_PrefixMap_made ?l_PrefixMap_made ?c_PrefixMap_made ?k_PrefixMap_made ?a_Table_made ?i_Table_made ?l_Table_made ?c_Table_made ?k_Table_made ?a_PrefixMap_with_row ?i_PrefixMap_with_row ?l_PrefixMap_with_row ?c_PrefixMap_with_row ?k_PrefixMap_with_row ?a_PrefixMap_without ?i_PrefixMap_without ?l_PrefixMap_without ?c_PrefixMap_without ?k_PrefixMap_without ?a_PrefixMap_rows ?g_PrefixMap_rows ?t_PrefixMap_rows ?r_PrefixMap_rows ?l_PrefixMap_rows ?c_PrefixMap_rows ?k_PrefixMap_rows ?a_PrefixMap_width ?g_PrefixMap_width ?t_PrefixMap_width ?r_PrefixMap_width ?l_PrefixMap_width ?c_PrefixMap_width ?k_PrefixMap_width ?a_PrefixMap_walk ?i_PrefixMap_walk ?l_PrefixMap_walk ?c_PrefixMap_walk ?k_PrefixMap_walk ?a__law_right ?l__law_right ?c__law_right ?k__law_right ?a__law_copies ?l__law_copies ?c__law_copies ?k__law_copies ?a_PrefixMap_longest ?i_PrefixMap_longest ?l_PrefixMap_longest ?c_PrefixMap_longest ?k_PrefixMap_longest ?a_Table_target_of ?i_Table_target_of ?l_Table_target_of ?c_Table_target_of ?k_Table_target_of ?a_Table_lookup ?i_Table_lookup ?l_Table_lookup ?c_Table_lookup ?k_Table_lookup ?a_law ?l_law ?c_law ?k_law ?ic_PrefixMap ?ty_PrefixMap ?ss_PrefixMap ?nb0_PrefixMap ?nb1_PrefixMap ?nb2_PrefixMap ?nb3_PrefixMap ?nb4_PrefixMap ?nb5_PrefixMap ?nb6_PrefixMap ?ic_Table ?ty_Table ?ss_Table ?nb0_Table ?nb1_Table ?nb2_Table ?nb3_Table ?nb4_Table ?nb5_Table ?nb6_Table ?en_PrefixMap ?eo_PrefixMap ?a_Table___eq__ ?en_Table ?eo_Table ?ha_PrefixMap ?hn_PrefixMap ?htk_PrefixMap ?hm_PrefixMap ?ha_Table ?hn_Table ?htk_Table ?hm_Table ?a_Table___len__ ?a_Table_is_same ?a_Table_kept_value ?a_Table_longest ?a_Table_walk ?a_Table_with_row ?a_Table_without ?mk_PrefixMap ?a_Table___init__ ?mk_Table ?na_PrefixMap_bits ?na_PrefixMap_held ?na_Table_bits ?na_Table_held ?nf_PrefixMap_PrefixMap ?nf_Table_PrefixMap ?nf_Table_Table ?a_Table_rows ?a_Table_width ?sb_PrefixMap_PrefixMap ?sb_PrefixMap_Table ?sb_Table_PrefixMap ?sb_Table_Table ?kc_PrefixMap ?kc_Table ?z_all ?z_bool ?z_dict ?z_int ?z_isinstance ?z_len ?z_list ?z_min ?z_range ?z_repr ?z_set ?z_sorted ?z_str ?z_tuple ?g_LETTERS ?g_MAX_TARGET ?g_MAX_WIDTH
    (case a_PrefixMap => k_is); (case pg_PrefixMap => k_is); (case hd_PrefixMap => k_is); (case po_PrefixMap => k_is)
    (case sa_PrefixMap => k_is); (case a_Table => k_is); (case pg_Table => k_is); (case hd_Table => k_is)
    (case po_Table => k_is); (case sa_Table => k_is); (case a__law_pen => k_is); (case l__law_pen => k_is)
    (case c__law_pen => k_is); (case k__law_pen => k_is); (case a_PrefixMap_kept_value => k_is); (case i_PrefixMap_kept_value => k_is)
    (case l_PrefixMap_kept_value => k_is); (case c_PrefixMap_kept_value => k_is); (case k_PrefixMap_kept_value => k_is); (case a_is_integer => k_is)
    (case l_is_integer => k_is); (case c_is_integer => k_is); (case k_is_integer => k_is); (case a_PrefixMap___len__ => k_is)
    (case i_PrefixMap___len__ => k_is); (case l_PrefixMap___len__ => k_is); (case c_PrefixMap___len__ => k_is); (case k_PrefixMap___len__ => k_is)
    (case a_is_prefix => k_is); (case l_is_prefix => k_is); (case c_is_prefix => k_is); (case k_is_prefix => k_is)
    (case a_PrefixMap_is_value => k_is); (case i_PrefixMap_is_value => k_is); (case l_PrefixMap_is_value => k_is); (case c_PrefixMap_is_value => k_is)
    (case k_PrefixMap_is_value => k_is); (case a_Table_is_target => k_is); (case sf_Table_is_target => k_is); (case rd_Table_is_target => k_is)
    (case ga_Table_is_target => k_is); (case r_Table_is_target => k_is); (case l_Table_is_target => k_is); (case c_Table_is_target => k_is)
    (case k_Table_is_target => k_is); (case a_Table_is_value => k_is); (case i_Table_is_value => k_is); (case l_Table_is_value => k_is)
    (case c_Table_is_value => k_is); (case k_Table_is_value => k_is); (case a_PrefixMap___init__ => k_is); (case i_PrefixMap___init__ => k_is)
    (case l_PrefixMap___init__ => k_is); (case c_PrefixMap___init__ => k_is); (case k_PrefixMap___init__ => k_is); (case a_PrefixMap_is_same => k_is)
    (case i_PrefixMap_is_same => k_is); (case l_PrefixMap_is_same => k_is); (case c_PrefixMap_is_same => k_is); (case k_PrefixMap_is_same => k_is)
    (case a_Table_sort_of_map => k_is); (case i_Table_sort_of_map => k_is); (case l_Table_sort_of_map => k_is); (case c_Table_sort_of_map => k_is)
    (case k_Table_sort_of_map => k_is); (case a_PrefixMap_sort_of_map => k_is); (case i_PrefixMap_sort_of_map => k_is); (case l_PrefixMap_sort_of_map => k_is)
    (case c_PrefixMap_sort_of_map => k_is); (case k_PrefixMap_sort_of_map => k_is); (case a_PrefixMap___eq__ => k_is); (case i_PrefixMap___eq__ => k_is)
    (case l_PrefixMap___eq__ => k_is); (case c_PrefixMap___eq__ => k_is); (case k_PrefixMap___eq__ => k_is); (case a_Table_of => k_is)
    (case sf_Table_of => k_is); (case rd_Table_of => k_is); (case ga_Table_of => k_is); (case r_Table_of => k_is)
    (case fi_Table_of => k_is); (case l_Table_of => k_is); (case c_Table_of => k_is); (case k_Table_of => k_is)
    (case a__law_next => k_is); (case l__law_next => k_is); (case c__law_next => k_is); (case k__law_next => k_is)
    (case a__law_draw => k_is); (case l__law_draw => k_is); (case c__law_draw => k_is); (case k__law_draw => k_is)
    (case a__law_size => k_is); (case l__law_size => k_is); (case c__law_size => k_is); (case k__law_size => k_is)
    (case a__law_bits => k_is); (case l__law_bits => k_is); (case c__law_bits => k_is); (case k__law_bits => k_is)
    (case a__law_prefixes => k_is); (case l__law_prefixes => k_is); (case c__law_prefixes => k_is); (case k__law_prefixes => k_is)
    (case a__law_lines => k_is); (case l__law_lines => k_is); (case c__law_lines => k_is); (case k__law_lines => k_is)
    (case a_Table_targets => k_is); (case g_Table_targets => k_is); (case t_Table_targets => k_is); (case r_Table_targets => k_is)
    (case l_Table_targets => k_is); (case c_Table_targets => k_is); (case k_Table_targets => k_is); (case a_PrefixMap_made => k_is)
    (case i_PrefixMap_made => k_is); (case l_PrefixMap_made => k_is); (case c_PrefixMap_made => k_is); (case k_PrefixMap_made => k_is)
    (case a_Table_made => k_is); (case i_Table_made => k_is); (case l_Table_made => k_is); (case c_Table_made => k_is)
    (case k_Table_made => k_is); (case a_PrefixMap_with_row => k_is); (case i_PrefixMap_with_row => k_is); (case l_PrefixMap_with_row => k_is)
    (case c_PrefixMap_with_row => k_is); (case k_PrefixMap_with_row => k_is); (case a_PrefixMap_without => k_is); (case i_PrefixMap_without => k_is)
    (case l_PrefixMap_without => k_is); (case c_PrefixMap_without => k_is); (case k_PrefixMap_without => k_is); (case a_PrefixMap_rows => k_is)
    (case g_PrefixMap_rows => k_is); (case t_PrefixMap_rows => k_is); (case r_PrefixMap_rows => k_is); (case l_PrefixMap_rows => k_is)
    (case c_PrefixMap_rows => k_is); (case k_PrefixMap_rows => k_is); (case a_PrefixMap_width => k_is); (case g_PrefixMap_width => k_is)
    (case t_PrefixMap_width => k_is); (case r_PrefixMap_width => k_is); (case l_PrefixMap_width => k_is); (case c_PrefixMap_width => k_is)
    (case k_PrefixMap_width => k_is); (case a_PrefixMap_walk => k_is); (case i_PrefixMap_walk => k_is); (case l_PrefixMap_walk => k_is)
    (case c_PrefixMap_walk => k_is); (case k_PrefixMap_walk => k_is); (case a__law_right => k_is); (case l__law_right => k_is)
    (case c__law_right => k_is); (case k__law_right => k_is); (case a__law_copies => k_is); (case l__law_copies => k_is)
    (case c__law_copies => k_is); (case k__law_copies => k_is); (case a_PrefixMap_longest => k_is); (case i_PrefixMap_longest => k_is)
    (case l_PrefixMap_longest => k_is); (case c_PrefixMap_longest => k_is); (case k_PrefixMap_longest => k_is); (case a_Table_target_of => k_is)
    (case i_Table_target_of => k_is); (case l_Table_target_of => k_is); (case c_Table_target_of => k_is); (case k_Table_target_of => k_is)
    (case a_Table_lookup => k_is); (case i_Table_lookup => k_is); (case l_Table_lookup => k_is); (case c_Table_lookup => k_is)
    (case k_Table_lookup => k_is); (case a_law => k_is); (case l_law => k_is); (case c_law => k_is)
    (case k_law => k_is); (case ic_PrefixMap => k_is); (case ty_PrefixMap => k_is); (case ss_PrefixMap => k_is)
    (case nb0_PrefixMap => k_is); (case nb1_PrefixMap => k_is); (case nb2_PrefixMap => k_is); (case nb3_PrefixMap => k_is)
    (case nb4_PrefixMap => k_is); (case nb5_PrefixMap => k_is); (case nb6_PrefixMap => k_is); (case ic_Table => k_is)
    (case ty_Table => k_is); (case ss_Table => k_is); (case nb0_Table => k_is); (case nb1_Table => k_is)
    (case nb2_Table => k_is); (case nb3_Table => k_is); (case nb4_Table => k_is); (case nb5_Table => k_is)
    (case nb6_Table => k_is); (case en_PrefixMap => k_is); (case eo_PrefixMap => k_is); (case a_Table___eq__ => k_is)
    (case en_Table => k_is); (case eo_Table => k_is); (case ha_PrefixMap => k_is); (case hn_PrefixMap => k_is)
    (case htk_PrefixMap => k_is); (case hm_PrefixMap => k_is); (case ha_Table => k_is); (case hn_Table => k_is)
    (case htk_Table => k_is); (case hm_Table => k_is); (case a_Table___len__ => k_is); (case a_Table_is_same => k_is)
    (case a_Table_kept_value => k_is); (case a_Table_longest => k_is); (case a_Table_walk => k_is); (case a_Table_with_row => k_is)
    (case a_Table_without => k_is); (case mk_PrefixMap => k_is); (case a_Table___init__ => k_is); (case mk_Table => k_is)
    (case na_PrefixMap_bits => k_is); (case na_PrefixMap_held => k_is); (case na_Table_bits => k_is); (case na_Table_held => k_is)
    (case nf_PrefixMap_PrefixMap => k_is); (case nf_Table_PrefixMap => k_is); (case nf_Table_Table => k_is); (case a_Table_rows => k_is)
    (case a_Table_width => k_is); (case sb_PrefixMap_PrefixMap => k_is); (case sb_PrefixMap_Table => k_is); (case sb_Table_PrefixMap => k_is)
    (case sb_Table_Table => k_is); (case kc_PrefixMap => k_is); (case kc_Table => k_is); (case z_all => k_is)
    (case z_bool => k_is); (case z_dict => k_is); (case z_int => k_is); (case z_isinstance => k_is)
    (case z_len => k_is); (case z_list => k_is); (case z_min => k_is); (case z_range => k_is)
    (case z_repr => k_is); (case z_set => k_is); (case z_sorted => k_is); (case z_str => k_is)
    (case z_tuple => k_is); (case g_LETTERS => k_is); (case g_MAX_TARGET => k_is); (case g_MAX_WIDTH => k_is)
#print axioms PySem.Challenge.cw_keptroutes_k07_tables_made_holds
