import PyProof.Rows.All
import Wide.All
import OpenK.AllK
import Wide.FinOn
import HandS.ForMost
import HandS.Exc
import HandS.TryOnly
import HandS.ExcOwn
import HandS.WordsExc
import HandS.Lambda
import HandS.EndTab
import HandS.Wide
import HandS.Gcd
import HandS.IsInst
import HandS.TupAny
import HandS.TupMul
import HandS.Conv
import HandS.Zip
import HandS.Walk
import HandS.EndBits
import HandS.WideBits
import HandS.SortInts
import HandS.TupSets
import KE.GoesEnum
import HandS.Style
import HandS.Star
import HandS.Comp
import HandS.DictComp
import HandS.ExcInit
import HandS.ExcField
import KE.KExcSuper
import KE.KExcPX
import HandS.RaiseMore
import HandS.ExcIs
import PySem.Challenge.RW_hardbits_k31_whole_draws_and_hybrids
set_option Elab.async false
set_option linter.all false
set_option maxRecDepth 100000
/-! Ev: an evaluator of a small part of Python on plain data -/
namespace Ev
open PySem PySem.Spec
open PyProof.Rows L2

/-! ### data -/
inductive D where
  | non | bl (b : Bool) | int (i : Int) | str (s : Str) | tup (xs : List D) | lst (xs : List D) | ref (n : Nat) | gl (g : Nat) | scr (xs : List D) | opq
  deriving Inhabited
mutual
def D.beq : D → D → Bool
  | .non, .non => true
  | .bl a, .bl b => a == b
  | .int a, .int b => a == b
  | .str a, .str b => decide (a = b)
  | .tup a, .tup b => D.beqs a b
  | .lst a, .lst b => D.beqs a b
  | .ref a, .ref b => a == b
  | .gl a, .gl b => a == b
  | .scr a, .scr b => D.beqs a b
  | .opq, .opq => true
  | _, _ => false
def D.beqs : List D → List D → Bool
  | [], [] => true
  | a :: as, b :: bs => D.beq a b && D.beqs as bs
  | _, _ => false
end
mutual
theorem D.eq_of_beq : ∀ {a b : D}, D.beq a b = true → a = b
  | .non, b, h => by cases b <;> first | rfl | simp [D.beq] at h
  | .bl x, b, h => by cases b <;> simp_all [D.beq]
  | .int x, b, h => by cases b <;> simp_all [D.beq]
  | .str x, b, h => by cases b <;> simp_all [D.beq]
  | .tup x, b, h => by
    cases b with
    | tup y => rw [D.eqs_of_beqs (a := x) (b := y) (by simpa [D.beq] using h)]
    | _ => simp [D.beq] at h
  | .lst x, b, h => by
    cases b with
    | lst y => rw [D.eqs_of_beqs (a := x) (b := y) (by simpa [D.beq] using h)]
    | _ => simp [D.beq] at h
  | .ref x, b, h => by cases b <;> simp_all [D.beq]
  | .gl x, b, h => by cases b <;> simp_all [D.beq]
  | .scr x, b, h => by
    cases b with
    | scr y => rw [D.eqs_of_beqs (a := x) (b := y) (by simpa [D.beq] using h)]
    | _ => simp [D.beq] at h
  | .opq, b, h => by cases b <;> first | rfl | simp [D.beq] at h
theorem D.eqs_of_beqs : ∀ {a b : List D}, D.beqs a b = true → a = b
  | [], b, h => by cases b <;> first | rfl | simp [D.beqs] at h
  | x :: xs, b, h => by
    cases b with
    | nil => simp [D.beqs] at h
    | cons y ys =>
      simp only [D.beqs, Bool.and_eq_true] at h
      rw [D.eq_of_beq h.1, D.eqs_of_beqs h.2]
end
mutual
theorem D.beq_self : ∀ (a : D), D.beq a a = true
  | .non => rfl
  | .bl x => by simp [D.beq]
  | .int x => by simp [D.beq]
  | .str x => by simp [D.beq]
  | .tup x => by simp [D.beq, D.beqs_self x]
  | .lst x => by simp [D.beq, D.beqs_self x]
  | .ref x => by simp [D.beq]
  | .gl x => by simp [D.beq]
  | .scr x => by simp [D.beq, D.beqs_self x]
  | .opq => rfl
theorem D.beqs_self : ∀ (a : List D), D.beqs a a = true
  | [] => rfl
  | x :: xs => by simp [D.beqs, D.beq_self x, D.beqs_self xs]
end
instance : DecidableEq D := fun a b => if h : D.beq a b = true then isTrue (D.eq_of_beq h) else isFalse (fun e => h (e ▸ D.beq_self a))

inductive Cell where
  | lst (xs : List D)
  | obj (c : Nat) (fs : List (Nat × D))
  deriving DecidableEq
abbrev Store := List Cell
abbrev Env := List (Option D)
inductive Rs (α : Type) where
  | ok (a : α) (S : Store)
  | exc (c : Nat) (d : D) (S : Store)
  | no
abbrev M (α : Type) := Store → Rs α
def ret {α : Type} (a : α) : M α := fun S => .ok a S
def stk {α : Type} : M α := fun _ => .no
def bnd {α β : Type} (m : M α) (f : α → M β) : M β := fun S => match m S with
  | .ok a S' => f a S'
  | .exc c d S' => .exc c d S'
  | .no => .no
def opt {α : Type} : Option α → M α
  | some a => ret a
  | none => stk
def guard {α : Type} (b : Bool) (m : M α) : M α := if b = true then m else stk

/-! ### syntax -/
inductive Op2 where
  | add | sub | mul | fdiv | mod | pow | shl | shr | band | bor | bxor
  deriving DecidableEq
inductive Cm where
  | eq | ne | lt | le | gt | ge | is_ | isnot | in_ | notin
  deriving DecidableEq
inductive Ty where
  | tNone | tBool | tInt | tStr | tTuple | tList | tDict
  deriving DecidableEq
inductive Bi where
  | len | int | abs | max2 | min2 | maxL | minL | sum | all | any | list | tuple | isinst (t : Ty) | gcd | repr | divmod | listRg | tupRg | sortedI | bool
  deriving DecidableEq
inductive Mt where
  | append | extend | pop | bits
  deriving DecidableEq
inductive SK where
  | vl | rg1 | rg2 | en | zp | zp3 | enzp
  deriving DecidableEq
/-- what an except clause tells: a text, or a text and the repr of the data; alone, or behind a text in a pair -/
inductive HP where
  | lit (s : Str) | rp (t : Str)
  deriving DecidableEq
structure HK where
  pre : Option Str
  p : HP
  deriving DecidableEq
/-- a target of names -/
inductive Tn where
  | nm (i : Nat)
  | tp (ts : List Tn)
inductive Ex where
  | int (i : Int) | bl (b : Bool) | non | str (s : Str)
  | var (i : Nat)
  | gl (g : Nat)
  | bin (o : Op2) (m : Bool) (a b : Ex)
  | neg (a : Ex)
  | not (a : Ex) | and (a b : Ex) | or (a b : Ex)
  | cmp (o : Cm) (a b : Ex) | chain (o o' : Cm) (a b c : Ex)
  | ite (c a b : Ex)
  | tup (xs : List Ex) | lst (m : Bool) (xs : List Ex)
  | tupS (fs : List Bool) (xs : List Ex) | lstS (m : Bool) (fs : List Bool) (xs : List Ex)
  | ix (a b : Ex)
  | slA (m : Bool) (a : Ex) | slL (m : Bool) (a lo : Ex) | slH (m : Bool) (a hi : Ex) | slLH (m : Bool) (a lo hi : Ex) | rev (m : Bool) (a : Ex)
  | call (g : Nat) (args : List Ex)
  | pcall (g : Nat) (args : List Ex)
  | memo (n : Nat) (e : Ex)
  | bi (b : Bi) (m : Bool) (args : List Ex)
  | mt (k : Mt) (o : Ex) (args : List Ex)
  | met (hs : List (Nat × HK)) (fin : D) (m g : Nat) (args : List Ex)
  | fnv (g : Nat)
  | emp
  | dlen (own : List Nat) (t : Tn) (k : SK) (src : List Ex) (e : Ex)
  | metV (hs : List (Nat × HK)) (fin : D) (m i : Nat) (args : List Ex)
  | comp (m : Bool) (own : List Nat) (t : Tn) (k : SK) (src : List Ex) (ifs : List Ex) (e : Ex)
  | comp2 (m : Bool) (own : List Nat) (t : Tn) (k : SK) (src : List Ex) (ifs : List Ex) (own1 : List Nat) (t1 : Tn) (k1 : SK) (src1 : List Ex) (ifs1 : List Ex) (e : Ex)
/-- a target of an assignment -/
inductive Tg where
  | nm (i : Nat)
  | tp (ts : List Tg)
  | ix (o i : Ex)
inductive Sm where
  | asg (t : Tg) (e : Ex)
  | par (is : List Nat) (es : List Ex)
  | aug (i : Nat) (o : Op2) (e : Ex)
  | augIx (o i : Ex) (op : Op2) (e : Ex)
  | expr (e : Ex)
  | ret (e : Ex) | retN
  | ite (c : Ex) (a b : List Sm)
  | for_ (t : Tn) (k : SK) (src : List Ex) (body : List Sm)
  | while_ (c : Ex) (body : List Sm)
  | pass | brk | cont
  | raise0 (c : Nat) | raise1 (c : Nat) (e : Ex)
  | tail (n : Nat) (ss : List Sm)
  | never
inductive Fl where
  | nx (env : Env) | rt (d : D) | bk (env : Env) | ct (env : Env)

/-! ### values that hold no list of the store -/
mutual
/-- k of the value, if it holds no list of the store; it is written out on the way -/
def frc {α : Type} : D → (D → α) → α → α
  | .non, k, _ => k .non
  | .bl b, k, _ => match b with
    | true => k (.bl true)
    | false => k (.bl false)
  | .int i, k, _ => match i with
    | .ofNat n => match n with
      | 0 => k (.int (.ofNat 0))
      | n + 1 => k (.int (.ofNat (n + 1)))
    | .negSucc n => match n with
      | 0 => k (.int (.negSucc 0))
      | n + 1 => k (.int (.negSucc (n + 1)))
  | .str s, k, _ => k (.str s)
  | .tup xs, k, e => frcs xs (fun xs => k (.tup xs)) e
  | .lst xs, k, e => frcs xs (fun xs => k (.lst xs)) e
  | .ref _, _, e => e
  | .gl _, _, e => e
  | .scr xs, k, e => frcs xs (fun xs => k (.scr xs)) e
  | .opq, k, _ => k .opq
def frcs {α : Type} : List D → (List D → α) → α → α
  | [], k, _ => k []
  | x :: xs, k, e => frc x (fun x => frcs xs (fun xs => k (x :: xs)) e) e
end
mutual
def noRef : D → Bool
  | .non => true
  | .bl _ => true
  | .int _ => true
  | .str _ => true
  | .tup xs => noRefs xs
  | .lst xs => noRefs xs
  | .ref _ => false
  | .gl _ => false
  | .scr xs => noRefs xs
  | .opq => true
def noRefs : List D → Bool
  | [] => true
  | x :: xs => noRef x && noRefs xs
end
mutual
theorem frc_eq {α : Type} : ∀ (d : D) (k : D → α) (e : α), frc d k e = if noRef d = true then k d else e
  | .non, k, e => rfl
  | .bl b, k, e => by cases b <;> rfl
  | .int (.ofNat 0), k, e => rfl
  | .int (.ofNat (n + 1)), k, e => rfl
  | .int (.negSucc 0), k, e => rfl
  | .int (.negSucc (n + 1)), k, e => rfl
  | .str s, k, e => rfl
  | .tup xs, k, e => by
    show frcs xs (fun xs => k (.tup xs)) e = if noRefs xs = true then _ else _
    rw [frcs_eq]
  | .lst xs, k, e => by
    show frcs xs (fun xs => k (.lst xs)) e = if noRefs xs = true then _ else _
    rw [frcs_eq]
  | .ref _, k, e => rfl
  | .gl _, k, e => rfl
  | .scr xs, k, e => by
    show frcs xs (fun xs => k (.scr xs)) e = if noRefs xs = true then _ else _
    rw [frcs_eq]
  | .opq, k, e => rfl
theorem frcs_eq {α : Type} : ∀ (ds : List D) (k : List D → α) (e : α), frcs ds k e = if noRefs ds = true then k ds else e
  | [], k, e => rfl
  | x :: xs, k, e => by
    show frc x (fun x => frcs xs (fun xs => k (x :: xs)) e) e = if (noRef x && noRefs xs) = true then _ else _
    rw [frc_eq, frcs_eq]
    cases noRef x <;> simp
end
/-- what comes of a run from an empty store, written out, if it holds no list of the store -/
def pureV (r : Rs D) : Rs D := match r with
  | .ok d _ => frc d (fun d => .ok d []) .no
  | .exc c d _ => frc d (fun d => .exc c d []) .no
  | .no => .no
def pureC (cl : List D → M D) (ds : List D) : M D := fun S => if noRefs ds = true then (match pureV (cl ds []) with
  | .ok d _ => .ok d S
  | .exc c d _ => .exc c d S
  | .no => cl ds S) else cl ds S
theorem pureV_ok {r : Rs D} {d : D} {S : Store} (h : pureV r = .ok d S) : noRef d = true ∧ ∃ S', r = .ok d S' := by
  cases r with
  | ok a S' =>
    have h : frc a (fun d => Rs.ok d []) .no = .ok d S := h
    rw [frc_eq] at h
    split at h
    · cases h; exact ⟨by assumption, S', rfl⟩
    · cases h
  | exc c a S' =>
    have h : frc a (fun d => Rs.exc c d []) .no = .ok d S := h
    rw [frc_eq] at h
    split at h <;> cases h
  | no => cases h
theorem pureV_exc {r : Rs D} {c : Nat} {d : D} {S : Store} (h : pureV r = .exc c d S) : noRef d = true ∧ ∃ S', r = .exc c d S' := by
  cases r with
  | exc c a S' =>
    have h : frc a (fun d => Rs.exc c d []) .no = .exc _ d S := h
    rw [frc_eq] at h
    split at h
    · cases h; exact ⟨by assumption, S', rfl⟩
    · cases h
  | ok a S' =>
    have h : frc a (fun d => Rs.ok d []) .no = .exc c d S := h
    rw [frc_eq] at h
    split at h <;> cases h
  | no => cases h

/-! ### values -/
def LIM : Nat := 16777216
/-- the items of a list or a tuple -/
def seqOf (S : Store) : D → Option (List D)
  | .tup xs => some xs
  | .lst xs => some xs
  | .scr xs => some xs
  | .ref n => match S[n]? with
    | some (.lst xs) => some xs
    | _ => none
  | _ => none
def lstOf (S : Store) : D → Option (List D)
  | .lst xs => some xs
  | .ref n => match S[n]? with
    | some (.lst xs) => some xs
    | _ => none
  | _ => none
def intOf : D → Option Int
  | .int i => some i
  | _ => none
def blOf : D → Option Bool
  | .bl b => some b
  | _ => none
def intsOf : List D → Option (List Int)
  | [] => some []
  | .int i :: r => (intsOf r).map (i :: ·)
  | _ :: _ => none
def blsOf : List D → Option (List Bool)
  | [] => some []
  | .bl i :: r => (blsOf r).map (i :: ·)
  | _ :: _ => none
/-- at most n levels -/
def shal : Nat → D → Bool
  | n + 1, .tup xs => shals n xs
  | n + 1, .lst xs => shals n xs
  | 0, .tup _ => false
  | 0, .lst _ => false
  | _, .non => true
  | _, .bl _ => true
  | _, .int _ => true
  | _, .str s => s.cps.toList.all fun c => Nat.blt c 1114112
  | _, .ref _ => false
  | _, .gl _ => false
  | _, .scr _ => false
  | _, .opq => false
where shals : Nat → List D → Bool
  | _, [] => true
  | n, x :: xs => shal n x && shals n xs
end Ev
/-! Ev: promises in a world where no repr is under way -/
namespace Ev
open PySem PySem.Spec
open PyProof.Rows L2
/-- as FnOk, where no repr is under way -/
structure FnOkG (P : Program) (w : World) (K : PySem.W.Frag) (mg : Str → Option Value) (base : Heap) (CX : CXT) (k : Nat) (f : Addr) (fd : FuncData) (ps : List Str) (sp : Sp) : Prop where
  len : ∀ vs H Q E, sp vs H Q E → vs.length = ps.length
  run : ∀ (A : Around) (outer : List PySem.Env) (s : Shared) (H : Hp) (args : Args) (us : List Value) (vs : List V) (Q : VK) (E : XK), Room k A → A.guards = some [] → Env0 P w K mg base A outer s H → BindsTo s fd args (ps.zip us) → Vals vs us → sp vs H Q E →
    codeAny (model P w) A (.call (.ref f) args) (CR CX outer P w H s Q E) s
theorem FnOkG.imp {P : Program} {w : World} {K : PySem.W.Frag} {mg : Str → Option Value} {base : Heap} {CX : CXT} {k : Nat} {f : Addr} {fd : FuncData} {ps : List Str} {sp sp' : Sp} (F : FnOkG P w K mg base CX k f fd ps sp)
    (h : ∀ vs H Q E, sp' vs H Q E → sp vs H Q E) : FnOkG P w K mg base CX k f fd ps sp' :=
  ⟨fun vs H Q E q => F.len vs H Q E (h _ _ _ _ q), fun A outer s H args us vs Q E hr hg he hb hv hs => F.run A outer s H args us vs Q E hr hg he hb hv (h _ _ _ _ hs)⟩
theorem deeper_guards {A : Around} {env : PySem.Env} : (A.deeper env).guards = A.guards := by
  first | rfl | simp [Around.deeper]
section
variable {P : Program} {w : World} {K : PySem.W.Frag} {mg : Str → Option Value} {base : Heap}
/-- a def that may raise, by its body -/
theorem fn_ofG {x qual : Str} {st : Stmt} {f : Addr} {fd : FuncData} {N ps : List Str} {k : Nat} {sp : Sp} (F : Fun K x qual st f fd) (S : FnScope N ps (defScope st)) (len : ∀ vs H Q E, sp vs H Q E → vs.length = ps.length)
    (hbody : ∀ (cdv : Value) (A : Around) (outer : List PySem.Env) (s : Shared) (H : Hp) (vs : List V) (Q : VK) (E : XK), PySem.W.codeIn K cdv qual = true → fd.code = cdv → Room k (A.deeper (envOfC qual (defScope st) s.heap.objs.size f cdv)) → (A.deeper (envOfC qual (defScope st) s.heap.objs.size f cdv)).guards = some [] → sp vs H Q E →
      ∃ t, PSs (cxOf (L2.CX P w) P w K mg base N qual (defScope st) f cdv A outer s H E) (defBody st) t ∧ t { nx := fun _ H' => Q .non H', rt := Q } (L2.start N vs) H) : FnOkG P w K mg base (L2.CX P w) (k + 1) f fd ps sp := by
  obtain ⟨oc, od, kV, doc, pm, an, cdv, ct, osl, rfl, lk, hcd⟩ := F.ex
  refine ⟨len, fun A outer s H args us vs Q E hr hg e0 hb r hsp => ?_⟩
  have KX : K.In s.heap := e0.mod.kin.keeps fun b o e => (e0.bs b o e).1
  have nl : s.heap.NoLimit := e0.mod.nolimit.keeps fun b o e => (e0.bs b o e).1
  refine codeAny_call_function hr.depth (KX _ _ lk) rfl S.co S.gen rfl (PySem.W.codeRec_of KX hcd) (hb _ _ _ _ ?_)
  refine wpAny_newFunctionEnv_cells S.kind (fun ⟨n, v⟩ hy => ?_) fun env he s1 x => ?_
  · rcases S.par n (List.of_mem_zip hy).1 with q | q
    · exact .inl q
    · exact .inr ⟨q, PySem.W.cellsFrom_some _ _ _ (.inl q)⟩
  · subst he
    refine ⟨nl.keeps x.toInCall.keep, codeAny_func ?_⟩
    obtain ⟨t, ht, hq⟩ := hbody cdv A outer s H vs Q E hcd rfl (hr.deeper _) (by rw [deeper_guards]; exact hg) hsp
    have I := inv_start (CX := L2.CX P w) (E := E) S hr.hd e0 (len _ _ _ _ hsp) r x
    refine wpAny_mono (ht.run [] s1 (L2.start N vs) H _ I hq) (fun fl s' hs => ?_) fun e s' hs => hs
    cases fl with
    | ret u => obtain ⟨v, σ', H', J, rv, q⟩ := hs; exact ⟨v, H', J.os, J.bare, J.base, J.hok, rv, q⟩
    | next => obtain ⟨σ', H', J, q⟩ := hs; exact ⟨.non, H', J.os, J.bare, J.base, J.hok, rfl, q⟩
    | brk => obtain ⟨_, _, _, q⟩ := hs; exact False.elim q
    | cont => obtain ⟨_, _, _, q⟩ := hs; exact False.elim q
end
section
variable {X : Cx} {CX : CXT} {k : Nat} {f C : Addr} {fd : FuncData} {ps : List Str} {sp : Sp} {E : XK} {x : Str} {p pos : Pos} {e : Expr} {es : List Expr} {t : TA}
theorem run_fnG {pins : List (Addr × Obj)} {σ : L2.St} {H : Hp} {s : Shared} {Q : VK} {us : List Value} {vs : List V} (F : FnOkG X.prog X.w X.K X.mg X.base CX k f fd ps sp) (hr : Room k X.A) (hg : X.A.guards = some []) (hb : Binds X.K fd ps []) (hx : Passes CX X E)
    (I : Inv X pins σ H s) (r : Vals vs us) (h : sp vs H Q E) : wpAny (model X.prog X.w) X.A (PySem.call (.ref f) us) (EP X pins σ Q) X.xe s := by
  have hl : (us ++ []).length = ps.length := by rw [List.append_nil, ← r.length]; exact F.len _ _ _ _ h
  have hb' := hb s us I.kIn hl
  rw [List.append_nil] at hb'
  refine wpAny_call (codeAny_mono (F.run X.A X.stack s H ⟨us, []⟩ us vs Q E hr hg I.env0 hb' r h) fun r s' hq => ?_)
  cases r with
  | error e => exact hx pins σ H s e s' I hq
  | ok fl =>
    cases fl with
    | ret u => exact I.after hq
    | next => exact False.elim hq
    | brk => exact False.elim hq
    | cont => exact False.elim hq
theorem pe_callG (F : FnOkG X.prog X.w X.K X.mg X.base CX k f fd ps sp) (hr : Room k X.A) (hgd : X.A.guards = some []) (hg : Gl X x) (hm : X.mg x = some (.ref f)) (hk : PySem.W.keepIn X.K (.ref f) = true) (hb : Binds X.K fd ps []) (hx : Passes CX X E)
    (ha : PA X (e :: es) t) (hdb : (x == ("__debug__" : Str)) = false) (he : starEach (e :: es) X.env = (false, eval e X.env) :: starEach es X.env) (hpl : (backTo pos (starEach es X.env)).any (·.1) = false) :
    PE X (.Call (.Name x p) (e :: es) [] pos) (fun σ H Q => t σ H fun vs H1 => sp vs H1 Q E) :=
  ⟨fun pins s σ H Q I h => wpAny_Call_Name_kw (ld_glob I hg hm (PySem.W.callWith_K (h₀ := X.base) I.ok.mod.kin hk (thn (ha.run pos pins s σ H _ I h) fun us s1 ⟨vs, H1, I1, r, q⟩ => ⟨I1.kIn, run_fnG F hr hgd hb hx I1 r q⟩) he hpl) hdb)⟩
theorem pe_call0G (F : FnOkG X.prog X.w X.K X.mg X.base CX k f fd ps sp) (hr : Room k X.A) (hgd : X.A.guards = some []) (hg : Gl X x) (hm : X.mg x = some (.ref f)) (hk : PySem.W.keepIn X.K (.ref f) = true) (hb : Binds X.K fd ps []) (hx : Passes CX X E)
    (hdb : (x == ("__debug__" : Str)) = false) : PE X (.Call (.Name x p) [] [] pos) (fun σ H Q => sp [] H Q E) :=
  ⟨fun pins s σ H Q I h => wpAny_Call_Name_kw (ld_glob I hg hm (PySem.W.callWith_K0 I.kIn hk (run_fnG (us := []) F hr hgd hb hx I .nil h)) hdb)⟩
end
open LamX in
/-- the law's call, with tables of code objects -/
theorem law_callG {P : Program} {w : World} {K : PySem.W.Frag} {mg mb : Str → Option Value} {CX : CXT} {k : Nat} {fa a : Addr} {cs : List (Addr × Addr)} {fd : FuncData} {x : Str} {sp : Sp} {s₁ : Shared} {vs : List Value} {ns : List Int}
    (KX : K.In s₁.heap) (hns : s₁.heap.Ns mainGlobals mg) (hb : s₁.heap.Ns builtinsNs mb) (hbb : ∀ x : Str, x ≠ "__name__" → mb x = bootBuiltins x) (hlim : s₁.heap.NoLimit) (hg : s₁.gens = #[])
    (hT : ∀ p ∈ cs, s₁.heap.get? p.2 = some { cls := .none, data := .fields #[] }) (nT : ∀ p ∈ cs, K.lookup p.2 = none) (C : ∀ p ∈ cs, PySem.W.CodeHd s₁.heap p.1 p.2)
    (hbm : ∃ (bm : Addr) (ob : Obj), mg "__builtins__" = some (.ref bm) ∧ bm ≠ builtinsNs ∧ s₁.heap.get? bm = some ob ∧ ob.cls = .type "module" ∧ ob.dict = some builtinsNs ∧ ob.data = .plain)
    (ha : s₁.heap.get? a = some { cls := .type "list", data := .seq vs.toArray }) (hi : IntsAre vs ns) (hl : ns.length ≤ sizeLine) (hr : Room k callerA)
    (F : ∀ base : Heap, K.In base → base.Ns mainGlobals mg → (∀ p ∈ cs, TabB base mg p.1 p.2) → FnOkG P w K mg base CX k fa fd [x] sp) (hbind : ∀ (s : Shared) (u : Value), BindsTo s fd ⟨[u], []⟩ [(x, u)])
    (hsp : ∀ H : Hp, (∀ p ∈ cs, H p.2 = some (.tbl #[])) → SqL K H a (ns.map V.int) → sp [.ref a] H (fun v _ => v = .bl true) fun _ _ _ => False)
    (hCX : ∀ H e s', CX [] H s₁ (fun _ _ _ => False) e s' → False) :
    codeAny (model P w) callerA (.call (.ref fa) ⟨[.ref a], []⟩) (fun r s' => r = .ok (.ret (.bool true)) ∧ OldK s₁.heap s'.heap ∧ s'.os = s₁.os ∧ AllBare s'.gens) s₁ := by
  have rv := vals_ints hi
  have lenV := hi.length
  have emT : ∀ b : Addr, b ∈ cs.map (·.2) → s₁.heap.get? b = some { cls := .none, data := .fields #[] } := fun b hb => by
    obtain ⟨p, hp, e⟩ := List.mem_map.mp hb
    rw [← e]
    exact hT p hp
  have aT : a ∉ cs.map (·.2) := fun z => by
    have q := emT a z
    rw [ha] at q
    have z' : Data.seq vs.toArray _ = Data.fields #[] := congrArg Obj.data (Option.some.inj q)
    cases z'
  have inT : ∀ p ∈ cs, p.2 ∈ cs.map (·.2) := fun p hp => List.mem_map.mpr ⟨p, hp, rfl⟩
  -- from an abstract heap in which nothing but the script and the tables may be tracked
  have main : ∀ H : Hp, (∀ p ∈ cs, H p.2 = some (.tbl #[])) → (∀ b, H b = none ∨ b ∈ cs.map (·.2) ∨ ∃ o xs, H b = some (.frz o (.lst xs))) → SqL K H a (ns.map V.int) → HOk P w H s₁.heap → (∀ b, H b ≠ none → b = a ∨ b ∈ cs.map (·.2)) → (H a ≠ none → K.lookup a = none) →
      codeAny (model P w) callerA (.call (.ref fa) ⟨[.ref a], []⟩) (fun r s' => r = .ok (.ret (.bool true)) ∧ OldK s₁.heap s'.heap ∧ s'.os = s₁.os ∧ AllBare s'.gens) s₁ := by
    intro H hH hO hS hok hA hK
    have grd : ∀ {b : Addr} {o : Obj}, s₁.heap.get? b = some o → H b = none → (hidT s₁.heap H).get? b = some o := fun e n => hidT_get e n
    have notD : ∀ {b : Addr} {o : Obj}, s₁.heap.get? b = some o → (∀ vs n, o.data ≠ .seq vs n) → o.data ≠ .fields #[] → H b = none := fun {b o} e h1 h2 => by
      cases q : H b with
      | none => rfl
      | some u =>
        rcases hA b (by rw [q]; simp) with e' | e'
        · rw [e', ha] at e
          cases e
          exact (h1 _ _ rfl).elim
        · rw [emT b e'] at e
          cases e
          exact (h2 rfl).elim
    have notDict : ∀ {b : Addr} {o : Obj} {es : Array DictEntry} {ep : Nat}, s₁.heap.get? b = some o → o.data = .dict es ep → H b = none := fun {b o es ep} e d => by
      refine notD e (fun vs n z => ?_) fun z => ?_
      · rw [d] at z
        cases z
      · rw [d] at z
        cases z
    have nsH : ∀ {b : Addr} {m : Str → Option Value}, s₁.heap.Ns b m → (hidT s₁.heap H).Ns b m := fun {b m} ⟨o, es, ep, e, d, r⟩ => ⟨o, es, ep, grd e (notDict e d), d, r⟩
    have hKb : K.In (hidT s₁.heap H) := fun b o e => grd (KX b o e) (by
      cases q : H b with
      | none => rfl
      | some u =>
        rcases hA b (by rw [q]; simp) with e' | e'
        · rw [e'] at e q
          rw [hK (by rw [q]; simp)] at e
          cases e
        · obtain ⟨p, hp, ep⟩ := List.mem_map.mp e'
          rw [← ep, nT p hp] at e
          cases e)
    have hM : L2.Mod K mg (hidT s₁.heap H) := ⟨hKb, nsH hns, ⟨mb, nsH hb, hbb⟩, let ⟨mc, h1, h2⟩ := hlim; ⟨mc, nsH h1, h2⟩⟩
    have TB : ∀ p ∈ cs, TabB (hidT s₁.heap H) mg p.1 p.2 := fun p hp => by
      have hTp := hT p hp
      refine ⟨?_, ?_, fun z => ?_⟩
      · obtain ⟨o, us, file, tf, flags, tg, inF, text, tt, e1, r1, r2, r3, r4, r5, r6, r7, r8, hne⟩ := C p hp
        refine ⟨o, us, file, tf, flags, tg, inF, text, tt, grd e1 (notD e1 (fun vs n z => ?_) fun z => ?_), r1, r2, r3, r4, r5, r6, r7, r8, hne⟩
        · rw [r2] at z
          cases z
        · rw [r2] at z
          cases z
          simp at r3
      · obtain ⟨bm, ob, b1, b2, b3, b4, b5, b6⟩ := hbm
        have nG : bm ≠ mainGlobals := fun q => by
          obtain ⟨o, es, ep, e, hd, _⟩ := hns
          rw [q, e] at b3
          cases b3
          rw [hd] at b6
          cases b6
        have nP : bm ≠ p.2 := fun q => by
          rw [q, hTp] at b3
          cases b3
          cases b6
        refine ⟨bm, ob, b1, b2, nG, nP, grd b3 (notD b3 (fun vs n z => ?_) fun z => ?_), b4, b5, b6⟩
        · rw [b6] at z
          cases z
        · rw [b6] at z
          cases z
      · obtain ⟨o, es, ep, e, hd, _⟩ := hns
        rw [z, hTp] at e
        cases e
        cases hd
    have e0 : Env0 P w K mg (hidT s₁.heap H) callerA [] s₁ H := ⟨rfl, hM, fun b o e => of_hidT e, Nat.le_of_eq (hidT_size _ _), trivial, fun b hb => absurd (show b ∈ ([] : List Addr) from hb) (by simp), hok, .of_eq hg⟩
    refine codeAny_mono ((F _ hKb (nsH hns) TB).run callerA [] s₁ H ⟨[.ref a], []⟩ [.ref a] [.ref a] _ _ hr rfl e0 (hbind s₁ (.ref a)) (.cons rfl .nil) (hsp H hH hS)) fun r s' h => ?_
    cases r with
    | error e => exact (hCX H e s' h).elim
    | ok fl =>
      cases fl with
      | next => exact False.elim h
      | brk => exact False.elim h
      | cont => exact False.elim h
      | ret u =>
        obtain ⟨v, H', os, bare, un, hok', r', q⟩ := h
        have q' : v = .bl true := q
        subst q'
        obtain rfl : u = Value.bool true := r'
        have same : ∀ b o, b ∉ cs.map (·.2) → s₁.heap.get? b = some o → s'.heap.get? b = some o := fun b o nb e => by
          cases q : H b with
          | none => exact un.keep b o e q (by intro z; exact absurd (show b ∈ ([] : List Addr) from z) (by simp)) (by simp)
          | some u =>
            rcases hO b with z | z | ⟨ob, xs, z⟩
            · rw [q] at z; cases z
            · exact absurd z nb
            · have z2 := un.frzs b ob _ z
              obtain ⟨e1, _⟩ := hok b _ z
              obtain ⟨e2, _⟩ := hok' b _ z2
              rw [e] at e1; cases e1
              exact e2
        have more_at : ∀ p ∈ cs, ∃ more : Array Value, s'.heap.get? p.2 = some { cls := .none, data := .fields more } := fun p hp => by
          obtain ⟨more, z⟩ := un.tbls p.2 #[] (hH p hp)
          exact ⟨_, hok' p.2 _ z⟩
        refine ⟨rfl, ⟨fun b o e => ?_, fun b o e => ?_⟩, os, bare⟩
        · by_cases hb : b ∈ cs.map (·.2)
          · obtain ⟨p, hp, ep⟩ := List.mem_map.mp hb
            obtain ⟨more, hm⟩ := more_at p hp
            rw [← ep] at e ⊢
            rw [hT p hp] at e
            cases e
            exact .inr (.inl ⟨((C p hp).tab (hT p hp)).isCodeTable, rfl, #[], more, rfl, by rw [Array.empty_append]; exact hm⟩)
          · exact .inl (same b o hb e)
        · by_cases hb : b ∈ cs.map (·.2)
          · obtain ⟨p, hp, ep⟩ := List.mem_map.mp hb
            obtain ⟨more, hm⟩ := more_at p hp
            rw [← ep]
            exact ⟨_, hm⟩
          · exact ⟨o, same b o hb e⟩
  cases hk : K.lookup a with
  | some o =>
    have e := KX a o hk
    rw [ha] at e
    cases e
    refine main (fun b => if b ∈ cs.map (·.2) then some (.tbl #[]) else none) (fun p hp => if_pos (inT p hp)) (fun b => ?_) (.inr ⟨_, vs.toArray, _, hk, rfl, rfl, rfl, by rw [List.size_toArray, lenV]; exact hl, by simpa using rv⟩) (fun b u z => ?_) (fun b z => ?_) fun z => absurd (show (if a ∈ cs.map (·.2) then some (HO.tbl #[]) else none) = none from if_neg aT) z
    · by_cases hb : b ∈ cs.map (·.2)
      · exact .inr (.inl hb)
      · exact .inl (if_neg hb)
    · by_cases hb : b ∈ cs.map (·.2)
      · have z' := (if_pos hb).symm.trans z
        cases z'
        exact emT b hb
      · have z' := (if_neg hb).symm.trans z
        cases z'
    · by_cases hb : b ∈ cs.map (·.2)
      · exact .inr hb
      · exact absurd (if_neg hb) z
  | none =>
    refine main (fun b => if b = a then some (.frz { cls := .type "list", data := .seq vs.toArray } (.lst (ns.map V.int))) else if b ∈ cs.map (·.2) then some (.tbl #[]) else none) (fun p hp => (if_neg (show ¬ p.2 = a from fun z => aT (by rw [← z]; exact inT p hp))).trans (if_pos (inT p hp))) (fun b => ?_)
      (.inl (.inr ⟨{ cls := .type "list", data := .seq vs.toArray }, if_pos rfl⟩)) (fun b u z => ?_) (fun b z => ?_) fun _ => hk
    · by_cases hb : b = a
      · exact .inr (.inr ⟨_, _, if_pos hb⟩)
      · by_cases hb2 : b ∈ cs.map (·.2)
        · exact .inr (.inl hb2)
        · exact .inl ((if_neg hb).trans (if_neg hb2))
    · by_cases hb : b = a
      · have z' := (if_pos hb).symm.trans z
        cases z'
        rw [hb]
        exact ⟨ha, by rw [List.length_map]; exact hl, vs, _, rv, ha⟩
      · have z1 := (if_neg hb).symm.trans z
        by_cases hb2 : b ∈ cs.map (·.2)
        · have z' := (if_pos hb2).symm.trans z1
          cases z'
          exact emT b hb2
        · have z' := (if_neg hb2).symm.trans z1
          cases z'
    · by_cases hb : b = a
      · exact .inl hb
      · by_cases hb2 : b ∈ cs.map (·.2)
        · exact .inr hb2
        · exact absurd ((if_neg hb).trans (if_neg hb2)) z
/-- what is known of the law's promise -/
def LawG (l : PySem.W.OpenLaw) (w : World) (K : PySem.W.Frag) (k n : Nat) (x : Str) (mg : Str → Option Value) (fa : Addr) (h : Heap) (cs : List (Addr × Addr)) : Prop :=
  ∃ (fd : FuncData) (sp : Sp), (∀ p ∈ cs, K.lookup p.2 = none) ∧ (∀ (s : Shared) (u : Value), BindsTo s fd ⟨[u], []⟩ [(x, u)]) ∧
    (∀ (H : Hp) (a : Addr) (ns : List Int), ns.length ≤ n → (∀ z ∈ ns, Builtin.Int.intBits z ≤ 1048576) → (∀ p ∈ cs, H p.2 = some (.tbl #[])) → SqL K H a (ns.map V.int) → sp [.ref a] H (fun v _ => v = .bl true) fun _ _ _ => False) ∧
    ∀ base : Heap, K.In base → base.Ns mainGlobals mg → (∀ p ∈ cs, LamX.TabB base mg p.1 p.2) → FnOkG l.prog w K mg base (L2.CX l.prog w) k fa fd [x] sp
/-- the end of the row: names, the defs that make lambdas -/
theorem walk_ofG {l : PySem.W.OpenLaw} {n k : Nat} {q : Program} {loose : List Str} {XP : (Str → Option Value) → Heap → Prop} {YP : World → Heap → Prop} {d : DefRec} {K : Params → PySem.W.Frag} {x : Str} (names : List Str)
    (hn : l.most = some n) (hn2 : n ≤ sizeLine) (hdf : d.params.defaults = []) (hr : Room k callerA) (hY : ∀ (w : World) (h : Heap), YP w h → (K w.params).In h)
    (hrec : ∀ y ∈ names, ((recsOf q).find? (fun e => e.name == y)).isSome = true)
    (F : ∀ (w : World) (mg : Str → Option Value) (fa : Addr) (h : Heap), (K w.params).In h → h.Ns mainGlobals mg → mg d.name = some (.ref fa) → LawG l w (K w.params) k n x mg fa h (names.filterMap (PySem.W.tabIn (K w.params)))) :
    PySem.W.WalkO q loose XP YP l.row.toRowW d [] (fun f vs => PySem.call f vs) := by
  refine Att.attach_callB hn hdf fun w s₀ s₁ mg mb fa o pm cd doc a vs ns G Y ho hd hcd hmg hobj hints hlen hbits hg => ?_
  have KX := hY w _ Y
  obtain ⟨fd, sp, nT, hb, hsp, hF⟩ := F w mg fa _ KX G.T.g hmg
  have tabs : ∀ p ∈ names.filterMap (PySem.W.tabIn (K w.params)), PySem.W.CodeHd s₁.heap p.1 p.2 ∧ s₁.heap.get? p.2 = some (PySem.W.tabObj #[]) := fun p hp => by
    obtain ⟨y, hy, e⟩ := List.mem_filterMap.mp hp
    obtain ⟨d', hd'⟩ := Option.isSome_iff_exists.mp (hrec y hy)
    exact PySem.W.tab_of G.T KX hd' e
  exact law_callG KX G.T.g G.T.b G.T.builtins G.T.nolimit hg (fun p hp => (tabs p hp).2) nT (fun p hp => (tabs p hp).1) G.T.bmain hobj hints (Nat.le_trans hlen hn2) hr hF hb (fun H hH hS => hsp H a ns hlen hbits hH hS) fun H e s' ⟨_, _, _, _, _, _, _, _, _, _, _, _, z⟩ => z.elim
end Ev
namespace Ev
open PySem PySem.Spec
open PyProof.Rows L2

/-! ### what the kernel is to reckon at once -/
def natK {α : Type} (n : Nat) (k : Nat → α) : α := match n with
  | 0 => k 0
  | m + 1 => k (m + 1)
def intK {α : Type} (i : Int) (k : Int → α) : α := match i with
  | .ofNat n => natK n fun n => k (.ofNat n)
  | .negSucc n => natK n fun n => k (.negSucc n)
def lsK {β α : Type} : List β → (List β → α) → α
  | [], k => k []
  | x :: xs, k => lsK xs fun ys => k (x :: ys)
@[simp] theorem natK_eq {α : Type} (n : Nat) (k : Nat → α) : natK n k = k n := by cases n <;> rfl
@[simp] theorem intK_eq {α : Type} (i : Int) (k : Int → α) : intK i k = k i := by cases i <;> simp [intK]
@[simp] theorem lsK_eq {β α : Type} (xs : List β) (k : List β → α) : lsK xs k = k xs := by
  induction xs generalizing k with
  | nil => rfl
  | cons x xs ih => simp [lsK, ih]
def oInt (i : Int) : Option D := intK i fun i => some (.int i)
def rInt (i : Int) (S : Store) : Rs D := intK i fun i => .ok (.int i) S
@[simp] theorem oInt_eq (i : Int) : oInt i = some (.int i) := by simp [oInt]
@[simp] theorem rInt_eq (i : Int) (S : Store) : rInt i S = .ok (.int i) S := by simp [rInt]

def nth {α : Type} : List α → Nat → Option α
  | [], _ => none
  | x :: _, 0 => some x
  | _ :: r, n + 1 => nth r n
@[simp] theorem nth_eq {α : Type} (xs : List α) (n : Nat) : nth xs n = xs[n]? := by
  induction xs generalizing n with
  | nil => simp [nth]
  | cons x r ih => cases n <;> simp [nth, ih]
def leI : Int → Int → Bool
  | .ofNat a, .ofNat b => Nat.ble a b
  | .negSucc _, .ofNat _ => true
  | .ofNat _, .negSucc _ => false
  | .negSucc a, .negSucc b => Nat.ble b a
@[simp] theorem leI_eq (a b : Int) : leI a b = decide (a ≤ b) := by
  cases a with
  | ofNat a => cases b with
    | ofNat b =>
      show Nat.ble a b = decide ((a : Int) ≤ (b : Int))
      rw [Bool.eq_iff_iff, Nat.ble_eq, decide_eq_true_eq]; omega
    | negSucc b =>
      show false = decide ((a : Int) ≤ Int.negSucc b)
      rw [Bool.eq_iff_iff, decide_eq_true_eq]; simp; omega
  | negSucc a => cases b with
    | ofNat b =>
      show true = decide (Int.negSucc a ≤ (b : Int))
      rw [Bool.eq_iff_iff, decide_eq_true_eq]; simp; omega
    | negSucc b =>
      show Nat.ble b a = decide (Int.negSucc a ≤ Int.negSucc b)
      rw [Bool.eq_iff_iff, Nat.ble_eq, decide_eq_true_eq]; omega
def ltI (a b : Int) : Bool := !leI b a
@[simp] theorem ltI_eq (a b : Int) : ltI a b = decide (a < b) := by
  rw [ltI, leI_eq, Bool.eq_iff_iff]; simp

/-! ### a tree as the library's data; its repr -/
mutual
def toPy : D → PyData
  | .non => .none
  | .bl b => .bool b
  | .int i => .int i
  | .str s => .str s
  | .tup xs => .tuple (toPys xs)
  | .lst xs => .list (toPys xs)
  | .ref _ => .none
  | .gl _ => .none
  | .scr _ => .none
  | .opq => .none
def toPys : List D → List PyData
  | [] => []
  | x :: xs => toPy x :: toPys xs
end
def reprD (d : D) : Option Str := if shal 40 d && (toPy d).showable && !(toPy d).hasDict && Nat.ble (toPy d).shown.length 1000000 then some (toPy d).shown else none
/-! ### operations -/
mutual
def eqv : D → D → Bool
  | .non, .non => true
  | .bl a, .bl b => a == b
  | .bl a, .int j => (if a then 1 else 0) == j
  | .int i, .bl b => i == (if b then 1 else 0)
  | .int i, .int j => i == j
  | .str x, .str y => x == y
  | .lst xs, .lst ys => eqvs xs ys
  | .tup xs, .tup ys => eqvs xs ys
  | _, _ => false
def eqvs : List D → List D → Bool
  | [], [] => true
  | x :: xs, y :: ys => eqv x y && eqvs xs ys
  | _, _ => false
end
/-- a list in the store as a tree -/
def top (S : Store) : D → D
  | .ref n => match S[n]? with
    | some (.lst xs) => .lst xs
    | _ => .ref n
  | d => d
def big2 (i j : Int) : Bool := decide (i.natAbs.log2 + j.natAbs.log2 < 1000000)
def divOk (j : Int) : Bool := j != 0 && decide (j.natAbs.log2 < 9000)
def op2 (S : Store) : Op2 → D → D → Option D
  | .add, .int i, .int j => oInt (i + j)
  | .sub, .int i, .int j => oInt (i - j)
  | .sub, .bl i, .bl j => oInt ((if i then 1 else 0) - (if j then 1 else 0))
  | .mul, .int i, .int j => if big2 i j then oInt (i * j) else none
  | .fdiv, .int i, .int j => if divOk j then oInt (if 0 < j then i / j else i.fdiv j) else none
  | .mod, .int i, .int j => if j != 0 then oInt (if 0 < j then i % j else i.fmod j) else none
  | .pow, .int i, .int j => if decide (0 ≤ j) && decide ((Builtin.Int.intBits i : Int) * j ≤ 134217728) then oInt (i ^ j.toNat) else none
  | .shl, .int i, .int j => if decide (0 ≤ j) && decide (j ≤ 1000000) && decide (i.natAbs < 2 ^ 64) then oInt (i * 2 ^ j.toNat) else none
  | .shr, .int i, .int j => if decide (0 ≤ j) then oInt (i / 2 ^ j.toNat) else none
  | .band, .int i, .int j => oInt (Builtin.bitAnd i j)
  | .bor, .int i, .int j => oInt (Builtin.bitOr i j)
  | .bxor, .int i, .int j => oInt (Builtin.bitXor i j)
  | .add, .str a, .str b => if a.length + b.length ≤ LIM then some (.str (a ++ b)) else none
  | .add, .tup xs, .tup ys => if xs.length + ys.length ≤ LIM then lsK (xs ++ ys) fun zs => some (.tup zs) else none
  | .mul, .tup xs, .int k => if decide (-(2 ^ 63) ≤ k) && decide (k < 2 ^ 63) && (xs.isEmpty || decide (k = 1)) then some (.tup xs) else if !xs.isEmpty && decide (-(2 ^ 63) ≤ k) && decide (k ≤ 0) then some (.tup []) else if !xs.isEmpty && decide (2 ≤ k) && decide (k ≤ 1000) && decide (xs.length ≤ 1000) then lsK (List.replicate k.toNat xs).flatten fun zs => some (.tup zs) else none
  | .add, .int i, .bl b => oInt (i + if b = true then (1 : Int) else 0)
  | .sub, .int i, .bl b => oInt (i - if b = true then (1 : Int) else 0)
  | .mul, .int i, .bl b => oInt (i * if b = true then (1 : Int) else 0)
  | .add, .bl b, .int i => oInt ((if b = true then (1 : Int) else 0) + i)
  | .sub, .bl b, .int i => oInt ((if b = true then (1 : Int) else 0) - i)
  | .mul, .bl b, .int i => oInt ((if b = true then (1 : Int) else 0) * i)
  | _, _, _ => none
/-- the lists among them: a new list -/
def op2L (S : Store) : Op2 → D → D → Option (List D)
  | .add, a, b => (lstOf S a).bind fun xs => (lstOf S b).bind fun ys => if xs.length + ys.length ≤ LIM then some (xs ++ ys) else none
  | .mul, a, .int k => (lstOf S a).bind fun xs => if decide (-(2 ^ 63) ≤ k) && decide (k < 2 ^ 63) && decide (xs.length * k.toNat ≤ LIM) then some (List.replicate k.toNat xs).flatten else none
  | _, _, _ => none
def alloc (c : Cell) : M D := fun S => natK S.length fun n => lsK (S ++ [c]) fun S' => .ok (.ref n) S'
/-- a new list: a tree, or in the store -/
def mkL (m : Bool) (xs : List D) : M D := lsK xs fun xs => if m then alloc (.lst xs) else ret (.lst xs)
def doOp (o : Op2) (m : Bool) (a b : D) : M D := fun S => match op2 S o a b with
  | some d => .ok d S
  | none => match op2L S o a b with
    | some xs => mkL m xs S
    | none => .no
def isNon : D → Bool
  | .non => true
  | _ => false
def cmp2 (S : Store) : Cm → D → D → Option Bool
  | .eq, a, b => if shal 40 (top S a) && shal 40 (top S b) then some (eqv (top S a) (top S b)) else none
  | .ne, a, b => if shal 40 (top S a) && shal 40 (top S b) then some (!eqv (top S a) (top S b)) else none
  | .lt, .int i, .int j => some (ltI i j)
  | .le, .int i, .int j => some (leI i j)
  | .gt, .int i, .int j => some (ltI j i)
  | .ge, .int i, .int j => some (leI j i)
  | .is_, a, .non => some (isNon a)
  | .isnot, a, .non => some (!isNon a)
  | .in_, a, b => (seqOf S b).bind fun ys => if shal 0 a && shal.shals 0 ys then some (ys.any fun y => eqv y a) else none
  | .notin, a, b => (seqOf S b).bind fun ys => if shal 0 a && shal.shals 0 ys then some (!ys.any fun y => eqv y a) else none
  | _, _, _ => none
def doCmp (o : Cm) (a b : D) : M D := fun S => match cmp2 S o a b with
  | some r => .ok (.bl r) S
  | none => .no
def ixI (n : Nat) (i : Int) : Option Nat := if 0 ≤ i then (if i < n then some i.toNat else none) else if -(n : Int) ≤ i then some (i + n).toNat else none
def doIx (a b : D) : M D := fun S => match seqOf S a, b with
  | some xs, .int i => match (ixI xs.length i).bind fun j => nth xs j with
    | some d => .ok d S
    | none => .no
  | _, _ => .no
/-- a slice's bound -/
def sB (n d : Nat) : Option Int → Nat
  | none => d
  | some v => if v < 0 then (v + (n : Int)).toNat else min v.toNat n
def cutD (xs : List D) (lo hi : Option Int) : List D := (xs.drop (sB xs.length 0 lo)).take (sB xs.length xs.length hi - sB xs.length 0 lo)
def doSl (m : Bool) (a : D) (lo hi : Option Int) : M D := fun S => match a with
  | .tup xs => lsK (cutD xs lo hi) fun ys => .ok (.tup ys) S
  | a => match lstOf S a with
    | some xs => mkL m (cutD xs lo hi) S
    | none => .no
def doRev (m : Bool) (a : D) : M D := fun S => match a with
  | .tup xs => lsK xs.reverse fun ys => .ok (.tup ys) S
  | a => match lstOf S a with
    | some xs => mkL m xs.reverse S
    | none => .no
def tyOf (S : Store) : D → Option Ty
  | .non => some .tNone
  | .bl _ => some .tBool
  | .int _ => some .tInt
  | .str _ => some .tStr
  | .tup _ => some .tTuple
  | .lst _ => some .tList
  | .ref n => match S[n]? with | some (.lst _) => some .tList | _ => none
  | .gl _ => none
  | .scr _ => none
  | .opq => some .tDict
def isI (t u : Ty) : Bool := match t, u with
  | .tNone, .tNone => true
  | .tBool, .tBool => true
  | .tBool, .tInt => true
  | .tInt, .tInt => true
  | .tStr, .tStr => true
  | .tTuple, .tTuple => true
  | .tList, .tList => true
  | .tDict, .tDict => true
  | _, _ => false
def maxI : Int → List Int → Int
  | a, [] => a
  | a, b :: r => maxI (if a < b then b else a) r
def minI : Int → List Int → Int
  | a, [] => a
  | a, b :: r => minI (if b < a then b else a) r
def insI (x : Int) : List Int → List Int
  | [] => [x]
  | y :: r => if x ≤ y then x :: y :: r else y :: insI x r
def sortI : List Int → List Int
  | [] => []
  | x :: r => insI x (sortI r)
/-- tuples of ints -/
def tupsI : List D → Option (List (List Int))
  | [] => some []
  | .tup xs :: r => match intsOf xs, tupsI r with
    | some a, some b => some (a :: b)
    | _, _ => none
  | _ => none
def tcode (B : Int) : List Int → Int
  | [] => 0
  | d :: r => d * B ^ r.length + tcode B r
def insT (B : Int) (x : List Int) : List (List Int) → List (List Int)
  | [] => [x]
  | y :: r => if tcode B x ≤ tcode B y then x :: y :: r else y :: insT B x r
def sortT (B : Int) : List (List Int) → List (List Int)
  | [] => []
  | x :: r => insT B x (sortT B r)
def tsMax : Int → List (List Int) → Int
  | m, [] => m
  | m, ns :: r => tsMax (maxI m ns) r
def tsB (nss : List (List Int)) : Int := tsMax 0 nss + 1
def tsOk (B : Int) : List (List Int) → Bool
  | [] => false
  | n0 :: r => Nat.blt r.length 63 && Nat.ble 1 n0.length && (n0 :: r).all fun ns => Nat.beq ns.length n0.length && ns.all fun i => decide (0 ≤ i) && decide (i < B)
def rgF (a : Int) : Nat → List Int
  | 0 => []
  | n + 1 => intK a fun a => a :: rgF (a + 1) n
def rgI (a b : Int) : List Int := rgF a (b - a).toNat
def rgOk (a b : Int) : Bool := leI (-4611686018427387904) a && leI a 4611686018427387903 && leI (-4611686018427387904) b && leI b 4611686018427387903 && Nat.ble (b - a).toNat LIM
def doBi (k : Bi) (m : Bool) (as : List D) : M D := fun S => match k, as with
  | .len, [a] => match seqOf S a with | some xs => rInt (xs.length) S | none => .no
  | .int, [.int i] => rInt i S
  | .int, [.bl b] => rInt (if b then 1 else 0) S
  | .abs, [.int i] => rInt (if i < 0 then -i else i) S
  | .max2, [.int i, .int j] => rInt (if j > i then j else i) S
  | .min2, [.int i, .int j] => rInt (if j < i then j else i) S
  | .maxL, [a] => match lstOf S a with
    | some xs => match intsOf xs with | some (i :: r) => rInt (maxI i r) S | _ => .no
    | none => .no
  | .minL, [a] => match lstOf S a with
    | some xs => match intsOf xs with | some (i :: r) => rInt (minI i r) S | _ => .no
    | none => .no
  | .sum, [a] => match seqOf S a with
    | some xs => match intsOf xs with | some is => rInt (is.sum) S | _ => .no
    | none => .no
  | .all, [a] => match lstOf S a with
    | some xs => match blsOf xs with | some bs => .ok (.bl (bs.all id)) S | _ => .no
    | none => .no
  | .any, [a] => match lstOf S a with
    | some xs => match blsOf xs with | some bs => .ok (.bl (bs.any id)) S | _ => .no
    | none => .no
  | .list, [a] => match seqOf S a with | some xs => mkL m xs S | none => .no
  | .tuple, [a] => match seqOf S a with | some xs => .ok (.tup xs) S | none => .no
  | .isinst t, [a] => match tyOf S a with | some u => .ok (.bl (isI u t)) S | none => .no
  | .repr, [a] => match reprD (top S a) with | some s => .ok (.str s) S | none => .no
  | .gcd, [.int i, .int j] => rInt ((Nat.gcd i.natAbs j.natAbs : Nat) : Int) S
  | .divmod, [.int i, .int j] => if decide (0 < j) && decide (j < 1073741824) then intK (i / j) fun q => intK (i % j) fun r => .ok (.tup [.int q, .int r]) S else .no
  | .listRg, [.int b] => if rgOk 0 b then mkL m ((rgI 0 b).map D.int) S else .no
  | .listRg, [.int a, .int b] => if rgOk a b then mkL m ((rgI a b).map D.int) S else .no
  | .tupRg, [.int b] => if rgOk 0 b then lsK ((rgI 0 b).map D.int) fun ys => .ok (.tup ys) S else .no
  | .tupRg, [.int a, .int b] => if rgOk a b then lsK ((rgI a b).map D.int) fun ys => .ok (.tup ys) S else .no
  | .sortedI, [a] => match lstOf S a with
    | some xs => match intsOf xs with
      | some is => mkL m ((sortI is).map D.int) S
      | none => match tupsI xs with
        | some nss => if tsOk (tsB nss) nss = true then mkL m ((sortT (tsB nss) nss).map fun ns => D.tup (ns.map D.int)) S else .no
        | none => .no
    | none => .no
  | _, _ => .no
/-- a store to a list in the store -/
def putL (n : Nat) (f : List D → Option (List D × D)) : M D := fun S => match S[n]? with
  | some (.lst xs) => match f xs with
    | some (ys, d) => lsK ys fun ys => lsK (S.set n (.lst ys)) fun S' => .ok d S'
    | none => .no
  | _ => .no
def doMt (k : Mt) (o : D) (as : List D) : M D := match k, o, as with
  | .append, .ref n, [d] => putL n fun xs => if xs.length < LIM then some (xs ++ [d], .non) else none
  | .extend, .ref n, [a] => fun S => match lstOf S a with
    | some ys => putL n (fun xs => if xs.length + ys.length ≤ LIM then some (xs ++ ys, .non) else none) S
    | none => .no
  | .pop, .ref n, [] => putL n fun xs => match xs[xs.length - 1]? with | some d => some (xs.dropLast, d) | none => none
  | .bits, .int i, [] => ret (.int (Builtin.Int.intBits i))
  | _, _, _ => stk
def setIx (o i v : D) : M Unit := match o, i with
  | .ref n, .int k => fun S => match S[n]? with
    | some (.lst xs) => match ixI xs.length k with
      | some j => lsK (xs.set j v) fun ys => lsK (S.set n (.lst ys)) fun S' => .ok () S'
      | none => .no
    | _ => .no
  | _, _ => stk

/-! ### what is walked -/
abbrev Deps := List (Nat × List D)
def depOk (ds : Deps) (S : Store) : Bool := ds.all fun p => decide (S[p.1]? = some (.lst p.2))
def seqD (S : Store) (a : D) : Option (List D × Deps) := match a with
  | .ref n => (seqOf S a).map fun xs => (xs, [(n, xs)])
  | _ => (seqOf S a).map fun xs => (xs, [])
def enumD (xs : List D) : Nat → List D
  | n => match xs with
    | [] => []
    | x :: r => natK n fun n => .tup [.int n, x] :: enumD r (n + 1)
def zipD : List D → List D → List D
  | x :: xs, y :: ys => .tup [x, y] :: zipD xs ys
  | _, _ => []
def zip3D : List D → List D → List D → List D
  | x :: xs, y :: ys, z :: zs => .tup [x, y, z] :: zip3D xs ys zs
  | _, _, _ => []
def srcOf (k : SK) (as : List D) (S : Store) : Option (List D × Deps) := match k, as with
  | .vl, [a] => seqD S a
  | .rg1, [.int b] => if rgOk 0 b then some ((rgI 0 b).map D.int, []) else none
  | .rg2, [.int a, .int b] => if rgOk a b then some ((rgI a b).map D.int, []) else none
  | .en, [a] => (seqD S a).map fun p => (enumD p.1 0, p.2)
  | .zp, [a, b] => (seqD S a).bind fun p => (seqD S b).map fun q => (zipD p.1 q.1, p.2 ++ q.2)
  | .zp3, [a, b, c] => (seqD S a).bind fun p => (seqD S b).bind fun q => (seqD S c).map fun r => (zip3D p.1 q.1 r.1, p.2 ++ q.2 ++ r.2)
  | .enzp, [a, b] => (seqD S a).bind fun p => (seqD S b).map fun q => (enumD (zipD p.1 q.1) 0, p.2 ++ q.2)
  | _, _ => none
mutual
def asgT : Tn → D → Env → Option Env
  | .nm i, d, env => lsK (env.set i (some d)) some
  | .tp ts, .tup xs, env => asgTs ts xs env
  | .tp _, _, _ => none
def asgTs : List Tn → List D → Env → Option Env
  | [], [], env => some env
  | t :: ts, x :: xs, env => (asgT t x env).bind fun e => asgTs ts xs e
  | _, _, _ => none
end
def wipeD (env : Env) : List Nat → Env
  | [] => env
  | v :: vs => (wipeD env vs).set v none
/-- the turns of a comprehension -/
def compL (ds : Deps) (f : D → M (Option D)) : List D → List D → M (List D)
  | [], acc => fun S => if depOk ds S then .ok acc S else .no
  | x :: xs, acc => fun S => if depOk ds S then
      match f x S with
      | .ok (some d) S' => compL ds f xs (acc ++ [d]) S'
      | .ok none S' => compL ds f xs acc S'
      | .exc c d S' => .exc c d S'
      | .no => .no
    else .no
def forL (ds : Deps) (f : D → Env → M Fl) : List D → Env → M Fl
  | [], env => fun S => if depOk ds S then .ok (.nx env) S else .no
  | x :: xs, env => fun S => if depOk ds S then
      match f x env S with
      | .ok (.nx e) S' => forL ds f xs e S'
      | .ok (.ct e) S' => forL ds f xs e S'
      | .ok (.bk e) S' => .ok (.nx e) S'
      | .ok (.rt d) S' => .ok (.rt d) S'
      | .exc c d S' => .exc c d S'
      | .no => .no
    else .no
def whileL (c : Env → M D) (f : Env → M Fl) : Nat → Env → M Fl
  | 0, _ => stk
  | n + 1, env => fun S => match c env S with
    | .ok (.bl true) S1 => match f env S1 with
      | .ok (.nx e) S' => whileL c f n e S'
      | .ok (.ct e) S' => whileL c f n e S'
      | .ok (.bk e) S' => .ok (.nx e) S'
      | .ok (.rt d) S' => .ok (.rt d) S'
      | .exc c d S' => .exc c d S'
      | .no => .no
    | .ok (.bl false) S1 => .ok (.nx env) S1
    | .exc c d S' => .exc c d S'
    | _ => .no

/-! ### the evaluator: gv: the module's values, cl: calls -/
structure Ctx where
  gv : Nat → Option D
  cl : Nat → List D → M D
  /-- what a lambda calls -/
  cm : Option (Nat → List D → M D)
  fuel : Nat
def getV (i : Nat) (env : Env) : M D := fun S => match nth env i with
  | some (some d) => .ok d S
  | _ => .no
def tst (d : D) (a b : M D) : M D := match d with
  | .bl true => a
  | .bl false => b
  | _ => stk
def boolR (d : D) : M D := match d with
  | .bl b => ret (.bl b)
  | _ => stk
abbrev EM (α : Type) := Env → M α
def kRet (d : D) : EM D := fun _ => ret d
def kBin (o : Op2) (m : Bool) (a b : EM D) : EM D := fun env => bnd (a env) fun x => bnd (b env) fun y => doOp o m x y
def kNeg (a : EM D) : EM D := fun env => bnd (a env) fun x => match x with | .int i => rInt (-i) | _ => stk
def kNot (a : EM D) : EM D := fun env => bnd (a env) fun x => match x with | .bl b => ret (.bl (!b)) | _ => stk
def kAnd (a b : EM D) : EM D := fun env => bnd (a env) fun x => tst x (bnd (b env) boolR) (ret (.bl false))
def kOr (a b : EM D) : EM D := fun env => bnd (a env) fun x => tst x (ret (.bl true)) (bnd (b env) boolR)
def kCmp (o : Cm) (a b : EM D) : EM D := fun env => bnd (a env) fun x => bnd (b env) fun y => doCmp o x y
def kChain (o o' : Cm) (a b c : EM D) : EM D := fun env => bnd (a env) fun x => bnd (b env) fun y => bnd (doCmp o x y) fun r => tst r (bnd (c env) fun z => doCmp o' y z) (ret (.bl false))
def kIte (c a b : EM D) : EM D := fun env => bnd (c env) fun x => tst x (a env) (b env)
def kTup (xs : EM (List D)) : EM D := fun env => bnd (xs env) fun ds => ret (.tup ds)
def kLst (m : Bool) (xs : EM (List D)) : EM D := fun env => bnd (xs env) fun ds => mkL m ds
def kIx (a b : EM D) : EM D := fun env => bnd (a env) fun x => bnd (b env) fun y => doIx x y
def kSlA (m : Bool) (a : EM D) : EM D := fun env => bnd (a env) fun x => doSl m x none none
def kSlL (m : Bool) (a lo : EM D) : EM D := fun env => bnd (a env) fun x => bnd (lo env) fun y => match y with | .int i => doSl m x (some i) none | _ => stk
def kSlH (m : Bool) (a hi : EM D) : EM D := fun env => bnd (a env) fun x => bnd (hi env) fun y => match y with | .int i => doSl m x none (some i) | _ => stk
def kSlLH (m : Bool) (a lo hi : EM D) : EM D := fun env => bnd (a env) fun x => bnd (lo env) fun y => match y with | .int i => bnd (hi env) (fun z => match z with | .int j => doSl m x (some i) (some j) | _ => stk) | _ => stk
def kRev (m : Bool) (a : EM D) : EM D := fun env => bnd (a env) fun x => doRev m x
def kCall (cl : List D → M D) (args : EM (List D)) : EM D := fun env => bnd (args env) cl
def kBi (k : Bi) (m : Bool) (args : EM (List D)) : EM D := fun env => bnd (args env) fun ds => doBi k m ds
/-- an object that has the method -/
def mtOk (k : Mt) (d : D) : Bool := match k, d with
  | .bits, .int _ => true
  | .append, .ref _ => true
  | .extend, .ref _ => true
  | .pop, .ref _ => true
  | _, _ => false
def kMt (k : Mt) (o : EM D) (args : EM (List D)) : EM D := fun env => bnd (o env) fun x => if mtOk k x = true then bnd (args env) fun ds => doMt k x ds else stk
/-- one turn of a comprehension -/
def turn (t : Tn) (ifs e : EM D) (env : Env) (x : D) : M (Option D) := match asgT t x env with
  | some env' => bnd (ifs env') fun b => match b with
    | .bl true => bnd (e env') fun d => ret (some d)
    | .bl false => ret none
    | _ => stk
  | none => stk
def noX {α : Type} : Rs α → Rs α
  | .ok a S => .ok a S
  | _ => .no
def kComp (m : Bool) (own : List Nat) (t : Tn) (k : SK) (src : EM (List D)) (ifs e : EM D) : EM D := fun env => bnd (src env) fun ds S => match srcOf k ds S with
  | some (xs, dp) => guard (Nat.ble xs.length LIM) (bnd (fun S => noX (compL dp (turn t ifs e (wipeD env own)) xs [] S)) fun ys => mkL m ys) S
  | none => .no
/-- the length of a dict of ints as keys -/
def addI (acc : List Int) (k : Int) : List Int := if acc.any (fun y => y == k) = true then acc else acc ++ [k]
def kInt (e : EM D) : EM D := fun env => bnd (e env) fun d => match d with
  | .int i => ret (.int i)
  | _ => stk
def addD (acc : List Int) : D → List Int
  | .int i => addI acc i
  | _ => acc
def kDlen (own : List Nat) (t : Tn) (k : SK) (src : EM (List D)) (e : EM D) : EM D := fun env => bnd (src env) fun ds S => match srcOf k ds S with
  | some (xs, dp) => guard (Nat.ble xs.length LIM) (bnd (fun S => noX (compL dp (turn t (kRet (.bl true)) (kInt e) (wipeD env own)) xs [] S)) fun ys => fun S => rInt ((ys.foldl addD []).length) S) S
  | none => .no
/-- a comprehension with two clauses: each turn adds to what was found -/
def compA (ds : Deps) (f : D → List D → M (List D)) : List D → List D → M (List D)
  | [], acc => fun S => if depOk ds S then .ok acc S else .no
  | x :: xs, acc => fun S => if depOk ds S then
      match f x acc S with
      | .ok acc' S' => compA ds f xs acc' S'
      | .exc c d S' => .exc c d S'
      | .no => .no
    else .no
def turnA (t : Tn) (k1 : SK) (own1 : List Nat) (t1 : Tn) (ifs : EM D) (src1 : EM (List D)) (ifs1 e : EM D) (env : Env) (x : D) (acc : List D) : M (List D) := match asgT t x env with
  | some env' => bnd (ifs env') fun b => match b with
    | .bl true => bnd (src1 env') fun ds S => match srcOf k1 ds S with
      | some (xs, dp) => guard (Nat.ble (acc.length + xs.length) LIM) (compL dp (turn t1 ifs1 e (wipeD env' own1)) xs acc) S
      | none => .no
    | .bl false => ret acc
    | _ => stk
  | none => stk
def kComp2 (m : Bool) (own : List Nat) (t : Tn) (k : SK) (src : EM (List D)) (ifs : EM D) (own1 : List Nat) (t1 : Tn) (k1 : SK) (src1 : EM (List D)) (ifs1 e : EM D) : EM D := fun env => bnd (src env) fun ds S => match srcOf k ds S with
  | some (xs, dp) => bnd (fun S => noX (compA dp (turnA t k1 own1 t1 ifs src1 ifs1 e (wipeD env own)) xs [] S)) (fun ys => mkL m ys) S
  | none => .no
def hpD : HP → D → Option Str
  | .lit s, _ => some s
  | .rp t, d => (reprD d).bind fun s => if t.length + s.length ≤ LIM then some (t ++ s) else none
def preD (pre : Option Str) (s : Str) : D := match pre with
  | none => .str s
  | some a => .tup [.str a, .str s]
def hkD (h : HK) (d : D) : Option D := (hpD h.p d).map (preD h.pre)
def fndH : List (Nat × HK) → Nat → Option HK
  | [], _ => none
  | (i, h) :: r, c => if Nat.beq i c = true then some h else fndH r c
/-- what is told of a run -/
def metR (hs : List (Nat × HK)) (fin : D) : Rs D → Rs D
  | .ok _ S => .ok fin S
  | .exc c d S => match (fndH hs c).bind fun h => hkD h d with
    | some r => .ok r S
    | none => .no
  | .no => .no
def kMetE (hs : List (Nat × HK)) (fin : D) (ev : EM D) : EM D := fun env S => metR hs fin (ev env S)
def kMet (hs : List (Nat × HK)) (fin : D) (cl : List D → M D) (args : EM (List D)) : EM D := fun env S => metR hs fin (bnd (args env) cl S)
/-- the same, from an empty store where that can be -/
def kMetP (hs : List (Nat × HK)) (fin : D) (cl : List D → M D) (args : EM (List D)) : EM D := fun env S => match args env S with
  | .ok ds S => if noRefs ds = true then (match metR hs fin (pureV (cl ds [])) with
    | .ok d _ => .ok d S
    | _ => .no) else metR hs fin (cl ds S)
  | _ => .no
def kMetV (hs : List (Nat × HK)) (fin : D) (cl : Nat → List D → M D) (i : Nat) (args : EM (List D)) : EM D := fun env S => match nth env i with
  | some (some (.gl g)) => kMetP hs fin (cl g) args env S
  | _ => .no
/-- a call of what a name holds -/
def kCallV (cl : Nat → List D → M D) (i : Nat) (args : EM (List D)) : EM D := fun env S => match nth env i with
  | some (some (.gl g)) => kCall (cl g) args env S
  | _ => .no
def nones : Nat → Env
  | 0 => []
  | n + 1 => none :: nones n
/-- a value that no name is read for -/
def kMemo (n : Nat) (ev : EM D) : EM D := fun env S => if Nat.beq env.length n = true then (match pureV (ev (nones n) []) with
  | .ok d _ => .ok d S
  | _ => .no) else .no
def kNil : EM (List D) := fun _ => ret []
def kCons (x : EM D) (xs : EM (List D)) : EM (List D) := fun env => bnd (x env) fun d => bnd (xs env) fun ds => ret (d :: ds)
/-- *e, and what follows -/
def kStar (x : EM D) (xs : EM (List D)) : EM (List D) := fun env => bnd (x env) fun d S => match seqOf S d with
  | some ys => bnd (xs env) (fun ds => lsK (ys ++ ds) ret) S
  | none => .no
def kTupS (xs : EM (List D)) : EM D := fun env => bnd (xs env) fun ds => guard (Nat.ble ds.length LIM) (ret (.tup ds))
def kLstS (m : Bool) (xs : EM (List D)) : EM D := fun env => bnd (xs env) fun ds => guard (Nat.ble ds.length LIM) (mkL m ds)
def kOpt (o : Option D) : EM D := fun _ => opt o
mutual
def evE (C : Ctx) : Ex → EM D
  | .int i => kRet (.int i)
  | .bl b => kRet (.bl b)
  | .non => kRet .non
  | .str s => kRet (.str s)
  | .var i => getV i
  | .gl g => kOpt (C.gv g)
  | .bin o m a b => kBin o m (evE C a) (evE C b)
  | .neg a => kNeg (evE C a)
  | .not a => kNot (evE C a)
  | .and a b => kAnd (evE C a) (evE C b)
  | .or a b => kOr (evE C a) (evE C b)
  | .cmp o a b => kCmp o (evE C a) (evE C b)
  | .chain o o' a b c => kChain o o' (evE C a) (evE C b) (evE C c)
  | .ite c a b => kIte (evE C c) (evE C a) (evE C b)
  | .tup xs => kTup (evEs C xs)
  | .lst m xs => kLst m (evEs C xs)
  | .tupS fs xs => kTupS (evFs C fs xs)
  | .lstS m fs xs => kLstS m (evFs C fs xs)
  | .ix a b => kIx (evE C a) (evE C b)
  | .slA m a => kSlA m (evE C a)
  | .slL m a lo => kSlL m (evE C a) (evE C lo)
  | .slH m a hi => kSlH m (evE C a) (evE C hi)
  | .slLH m a lo hi => kSlLH m (evE C a) (evE C lo) (evE C hi)
  | .rev m a => kRev m (evE C a)
  | .call g args => kCall (C.cl g) (evEs C args)
  | .pcall g args => kCall (pureC (C.cl g)) (evEs C args)
  | .bi k m args => kBi k m (evEs C args)
  | .mt k o args => kMt k (evE C o) (evEs C args)
  | .met hs fin _ g args => match C.cm with
    | none => fun _ => stk
    | some cl => kMetP hs fin (cl g) (evEs { C with cl := cl, cm := none } args)
  | .fnv g => kRet (.gl g)
  | .emp => kRet .opq
  | .dlen own t k src e => kDlen own t k (evEs C src) (evE C e)
  | .metV hs fin _ i args => match C.cm with
    | none => fun _ => stk
    | some cl => kMetV hs fin cl i (evEs { C with cl := cl, cm := none } args)
  | .memo n e => kMemo n (evE C e)
  | .comp m own t k src ifs e => kComp m own t k (evEs C src) (evT C ifs) (evE C e)
  | .comp2 m own t k src ifs own1 t1 k1 src1 ifs1 e => kComp2 m own t k (evEs C src) (evT C ifs) own1 t1 k1 (evEs C src1) (evT C ifs1) (evE C e)
def evEs (C : Ctx) : List Ex → EM (List D)
  | [] => kNil
  | x :: xs => kCons (evE C x) (evEs C xs)
def evFs (C : Ctx) : List Bool → List Ex → EM (List D)
  | _, [] => kNil
  | fs, x :: xs => match fs with
    | true :: r => kStar (evE C x) (evFs C r xs)
    | _ => kCons (evE C x) (evFs C fs.tail xs)
/-- no test, or one -/
def evT (C : Ctx) : List Ex → EM D
  | [] => kRet (.bl true)
  | x :: xs => match xs with
    | [] => evE C x
    | _ => fun _ => stk
end
def gNm (i : Nat) (d : D) : EM Env := fun env => lsK (env.set i (some d)) ret
def gIx (o i : EM D) (d : D) : EM Env := fun env => bnd (o env) fun x => bnd (i env) fun y => bnd (setIx x y d) fun _ => ret env
def gTp (n : Nat) (f : List D → EM Env) (d : D) : EM Env := match d with
  | .tup xs => fun env => if Nat.beq xs.length n = true then f xs env else stk
  | .lst xs => fun env => if Nat.beq xs.length n = true then f xs env else stk
  | _ => fun _ => stk
def gNil (xs : List D) : EM Env := match xs with
  | [] => ret
  | _ => fun _ => stk
def gCons (f : D → EM Env) (g : List D → EM Env) (xs : List D) : EM Env := match xs with
  | x :: xs => fun env => bnd (f x env) fun e => g xs e
  | _ => fun _ => stk
mutual
def asgG (C : Ctx) : Tg → D → EM Env
  | .nm i => gNm i
  | .tp ts => gTp ts.length (asgGs C ts)
  | .ix o i => gIx (evE C o) (evE C i)
def asgGs (C : Ctx) : List Tg → List D → EM Env
  | [] => gNil
  | t :: ts => gCons (asgG C t) (asgGs C ts)
end
def parE : List Nat → List D → Env → Option Env
  | [], [], env => some env
  | i :: is, d :: ds, env => lsK (env.set i (some d)) (parE is ds)
  | _, _, _ => none
def sAsg (e : EM D) (g : D → EM Env) : EM Fl := fun env => bnd (e env) fun d => bnd (g d env) fun env' => ret (.nx env')
def sPar (is : List Nat) (es : EM (List D)) : EM Fl := fun env => bnd (es env) fun ds => match parE is ds env with
    | some env' => ret (.nx env')
    | none => stk
def sAug (i : Nat) (o : Op2) (e : EM D) : EM Fl := fun env => bnd (getV i env) fun x => bnd (e env) fun y => fun S => match x, y, op2 S o x y with
    | .int _, .int _, some z => lsK (env.set i (some z)) fun env => .ok (.nx env) S
    | _, _, _ => .no
def isRef : D → Bool
  | .ref _ => true
  | _ => false
def sAugIx (o i : EM D) (op : Op2) (e : EM D) : EM Fl := fun env => bnd (o env) fun x => bnd (i env) fun y => bnd (doIx x y) fun u => if isRef x = true then bnd (e env) (fun v => fun S => match u, v, op2 S op u v with
    | .int _, .int _, some z => bnd (setIx x y z) (fun _ => ret (.nx env)) S
    | _, _, _ => .no) else stk
def sExpr (e : EM D) : EM Fl := fun env => bnd (e env) fun _ => ret (.nx env)
def sRet (e : EM D) : EM Fl := fun env => bnd (e env) fun d => ret (.rt d)
def sIte (c : EM D) (a b : EM Fl) : EM Fl := fun env => bnd (c env) fun x => match x with
    | .bl true => a env
    | .bl false => b env
    | _ => stk
def fTurn (t : Tn) (body : EM Fl) (x : D) : EM Fl := fun env => match asgT t x env with
          | some env' => body env'
          | none => stk
def sFor (t : Tn) (k : SK) (src : EM (List D)) (body : EM Fl) : EM Fl := fun env => bnd (src env) fun ds => fun S => match srcOf k ds S with
      | some (xs, dp) => forL dp (fTurn t body) xs env S
      | none => .no
/-- as many turns as the numbers of the frame allow -/
def envFuel : Env → Nat
  | [] => 1000
  | some (.int i) :: r => i.natAbs + envFuel r
  | _ :: r => envFuel r
def sWhile (c : EM D) (body : EM Fl) : EM Fl := fun env => whileL c body (envFuel env) env
def sRaise0 (c : Nat) : EM Fl := fun _ S => .exc c .non S
def sRaise1 (c : Nat) (e : EM D) : EM Fl := fun env => bnd (e env) fun d S => .exc c d S
def flR : Fl → M D
  | .rt d => ret d
  | _ => stk
/-- what is left of a def: no name is read that it has not set, and it ends by a return -/
def sTail (n : Nat) (ev : EM Fl) : EM Fl := fun env S => if Nat.beq env.length n = true then (match pureV (bnd (ev (nones n)) flR []) with
  | .ok d _ => .ok (.rt d) S
  | _ => .no) else .no
def sNil : EM Fl := fun env => ret (.nx env)
def sCons (s ss : EM Fl) : EM Fl := fun env => bnd (s env) fun f => match f with
    | .nx env' => ss env'
    | f => ret f
mutual
def evS (C : Ctx) : Sm → EM Fl
  | .asg t e => sAsg (evE C e) (asgG C t)
  | .par is es => sPar is (evEs C es)
  | .aug i o e => sAug i o (evE C e)
  | .augIx o i op e => sAugIx (evE C o) (evE C i) op (evE C e)
  | .expr e => sExpr (evE C e)
  | .ret e => sRet (evE C e)
  | .retN => fun _ => ret (.rt .non)
  | .ite c a b => sIte (evE C c) (evSs C a) (evSs C b)
  | .for_ t k src body => sFor t k (evEs C src) (evSs C body)
  | .while_ c body => sWhile (evE C c) (evSs C body)
  | .pass => fun env => ret (.nx env)
  | .brk => fun env => ret (.bk env)
  | .cont => fun env => ret (.ct env)
  | .raise0 c => sRaise0 c
  | .raise1 c e => sRaise1 c (evE C e)
  | .never => fun _ => stk
  | .tail n ss => sTail n (evSs C ss)
def evSs (C : Ctx) : List Sm → EM Fl
  | [] => sNil
  | s :: ss => sCons (evS C s) (evSs C ss)
end
structure FDef where
  np : Nat
  ns : Nat
  body : List Sm
/-- a def's value -/
def fnR : Fl → M D
  | .rt d => ret d
  | .nx _ => ret .non
  | _ => stk
def runF (C : Ctx) (f : FDef) (as : List D) : M D :=
  if Nat.beq as.length f.np = true then bnd (evSs C f.body (as.map some ++ List.replicate (f.ns - f.np) none)) fnR else stk
structure Prog where
  gv : Nat → Option D
  fn : List (Option FDef)
  fuel : Nat
abbrev CallT := Nat → List D → M D
/-- the calls of a level, of the level below, and of the one below that -/
def callT (P : Prog) : Nat → CallT × Option CallT × Option CallT
  | 0 => (fun _ _ => stk, none, none)
  | k + 1 => (fun g as => match nth P.fn g with
    | some (some f) => runF ⟨P.gv, (callT P k).1, (callT P k).2.2, P.fuel⟩ f as
    | _ => stk, some (callT P k).1, (callT P k).2.1)
def callF (P : Prog) (k : Nat) : CallT := (callT P k).1
end Ev
/-! Ev against the layer: what a value is on an abstract heap -/
namespace Ev
open PySem PySem.Spec
open PyProof.Rows L2

/-- a list that nobody changes -/
def SqF (mu F : List Addr) (H : Hp) (a : Addr) (xs : List V) : Prop := H a = some (.lst xs) ∧ a ∉ mu ∧ a ∉ F
/-- the script -/
def SqS (K : PySem.W.Frag) (mu F : List Addr) (H : Hp) (a : Addr) (xs : List V) : Prop := SqF mu F H a xs ∨ (∃ o, H a = some (.frz o (.lst xs))) ∨
    ∃ (o : Obj) (its : Array Value) (n : Nat), K.lookup a = some o ∧ o.cls = .type "list" ∧ o.dict = none ∧ o.data = .seq its n ∧ its.size ≤ sizeLine ∧ Vals xs its.toList
/-- what grows in a comprehension -/
def Acc : HO → Prop
  | .lst _ => True
  | .dK _ => True
  | _ => False
/-- a dict that nobody looks into -/
def DcO (mu F : List Addr) (H : Hp) (a : Addr) : Prop := H a = some (.dK []) ∧ a ∉ mu ∧ a ∉ F
/-- the defs that make lambdas -/
class LamN where
  names : List Str
  /-- the module's names, and whether they are defs -/
  gs : List (Str × Bool)
/-- the def of this number stands there -/
def fvK [LamN] (K : PySem.W.Frag) (g : Nat) (a : Addr) : Prop := ∃ x, LamN.gs[g]? = some (x, true) ∧ PySem.W.nsIn K mainGlobals x = some (some (.ref a))
section
variable [LamN]
mutual
inductive Rp (K : PySem.W.Frag) (mu F : List Addr) (H : Hp) : V → D → Prop
  | non : Rp K mu F H .non .non
  | bl (b : Bool) : Rp K mu F H (.bl b) (.bl b)
  | int (i : Int) : Rp K mu F H (.int i) (.int i)
  | str (s : Str) : Rp K mu F H (.str s) (.str s)
  | tup {a : Addr} {vs : List V} {ds : List D} : SqT K H a vs → Rps K mu F H vs ds → Rp K mu F H (.ref a) (.tup ds)
  | lst {a : Addr} {vs : List V} {ds : List D} : SqF mu F H a vs → Rps K mu F H vs ds → Rp K mu F H (.ref a) (.lst ds)
  | ref {n : Nat} {a : Addr} : mu[n]? = some a → Rp K mu F H (.ref a) (.ref n)
  | scr {a : Addr} {vs : List V} {ds : List D} : SqS K mu F H a vs → Rps K mu F H vs ds → Rp K mu F H (.ref a) (.scr ds)
  | opq {a : Addr} : DcO mu F H a → Rp K mu F H (.ref a) .opq
  | gl {a : Addr} {g : Nat} : fvK K g a → Rp K mu F H (.ref a) (.gl g)
inductive Rps (K : PySem.W.Frag) (mu F : List Addr) (H : Hp) : List V → List D → Prop
  | nil : Rps K mu F H [] []
  | cons {v : V} {vs : List V} {d : D} {ds : List D} : Rp K mu F H v d → Rps K mu F H vs ds → Rps K mu F H (v :: vs) (d :: ds)
end
def RpC (K : PySem.W.Frag) (mu F : List Addr) (H : Hp) (a : Addr) : Cell → Prop
  | .lst ds => ∃ vs, H a = some (.lst vs) ∧ Rps K mu F H vs ds
  | .obj _ _ => False
structure Lv (mu F : List Addr) (H : Hp) : Prop where
  nd : mu.Nodup
  mt : ∀ a, a ∈ mu → Mut (H a)
  out : ∀ a, a ∈ mu → a ∉ F
  frn : ∀ a, a ∈ F → ∃ o, H a = some o ∧ ∀ ps, o ≠ .tbl ps
/-- their tables of code objects, with the names of what stands there -/
def tbOf (K : PySem.W.Frag) : List (Addr × Str) := LamN.names.filterMap fun x => (PySem.W.tabIn K x).map fun cp => (cp.2, x ++ ".<locals>." ++ "<lambda>")

structure Gd (K : PySem.W.Frag) (mu F : List Addr) (H : Hp) (S : Store) : Prop where
  live : Lv mu F H
  len : mu.length = S.length
  cell : ∀ (n : Nat) (c : Cell) (a : Addr), S[n]? = some c → mu[n]? = some a → RpC K mu F H a c
  tb : LamX.Tabs (tbOf K) H
/-- free, or a table -/
def Fr0 (H : Hp) (a : Addr) : Prop := ∀ o, H a = some o → ∃ ps, o = .tbl ps
theorem Fr0.of {H : Hp} {a : Addr} (h : H a = none) : Fr0 H a := fun o e => by rw [h] at e; cases e
structure Xt (mu : List Addr) (H : Hp) (mu' : List Addr) (H' : Hp) : Prop where
  pre : ∃ l, mu' = mu ++ l ∧ ∀ a, a ∈ l → Fr0 H a
  keep : ∀ a o, H a = some o → a ∉ mu → (∀ ps, o ≠ .tbl ps) → H' a = some o
def EnvR (K : PySem.W.Frag) (mu F : List Addr) (H : Hp) (σ : L2.St) (env : Env) : Prop :=
  σ.length = env.length ∧ ∀ (i : Nat) (d : D), env[i]? = some (some d) → ∃ v, σ[i]? = some (some v) ∧ Rp K mu F H v d

section
variable {K : PySem.W.Frag} {mu mu' mu'' F : List Addr} {H H' H'' : Hp} {S S' : Store} {a : Addr}
theorem SqS.sq {xs : List V} (h : SqS K mu F H a xs) : SqL K H a xs := h.elim (fun h => .inl (.inl h.1)) fun h => h.elim (fun h => .inl (.inr h)) .inr
theorem Lv.fne (L : Lv mu F H) (h : a ∈ F) : H a ≠ none := fun z => by
  obtain ⟨o, e, _⟩ := L.frn a h
  rw [z] at e; cases e
theorem Lv.ex (L : Lv mu F H) (h : a ∈ mu) : ∃ o, H a = some o := by
  have := L.mt a h
  cases e : H a with
  | none => rw [e] at this; exact this.elim
  | some o => exact ⟨o, rfl⟩
theorem Lv.not_tup (L : Lv mu F H) {xs : List V} (h : H a = some (.tup xs)) : a ∉ mu := fun hm => by
  have := L.mt a hm; rw [h] at this; exact this
theorem Lv.not_frz (L : Lv mu F H) {o : Obj} {u : HO} (h : H a = some (.frz o u)) : a ∉ mu := fun hm => by
  have := L.mt a hm; rw [h] at this; exact this
theorem Xt.refl (mu : List Addr) (H : Hp) : Xt mu H mu H := ⟨⟨[], by simp, by simp⟩, fun _ _ h _ _ => h⟩
theorem Xt.sub (e : Xt mu H mu' H') (h : a ∈ mu) : a ∈ mu' := by
  obtain ⟨l, rfl, _⟩ := e.pre
  exact List.mem_append_left _ h
theorem Xt.notin (e : Xt mu H mu' H') {o : HO} (h : H a = some o) (hn : a ∉ mu) (ho : ∀ ps, o ≠ .tbl ps) : a ∉ mu' := by
  obtain ⟨l, rfl, hl⟩ := e.pre
  intro hm
  rcases List.mem_append.mp hm with hm | hm
  · exact hn hm
  · obtain ⟨ps, e⟩ := hl a hm o h; exact ho ps e
theorem Xt.get (e : Xt mu H mu' H') {n : Nat} (h : mu[n]? = some a) : mu'[n]? = some a := by
  obtain ⟨l, rfl, _⟩ := e.pre
  rw [List.getElem?_append_left]
  · exact h
  · exact (List.getElem?_eq_some_iff.mp h).1
theorem Xt.trans (e : Xt mu H mu' H') (L : Lv mu' F H') (e' : Xt mu' H' mu'' H'') : Xt mu H mu'' H'' := by
  refine ⟨?_, fun a o h hn ho => e'.keep a o (e.keep a o h hn ho) (e.notin h hn ho) ho⟩
  obtain ⟨l, rfl, hl⟩ := e.pre
  obtain ⟨l', rfl, hl'⟩ := e'.pre
  refine ⟨l ++ l', by simp, fun a ha => ?_⟩
  rcases List.mem_append.mp ha with ha | ha
  · exact hl a ha
  · intro o q
    have h' := hl' a ha
    by_cases hm : a ∈ mu
    · obtain ⟨o', e'⟩ := L.ex (List.mem_append_left l hm)
      obtain ⟨ps, z⟩ := h' o' e'
      have := L.mt a (List.mem_append_left l hm)
      rw [e', z] at this
      exact this.elim
    · by_cases ht : ∃ ps, o = .tbl ps
      · exact ht
      · exact h' o (e.keep a o q hm fun ps z => ht ⟨ps, z⟩)
theorem sqT_keep {xs : List V} (L : ∀ b, b ∈ mu → Mut (H b)) (e : Xt mu H mu' H') (h : SqT K H a xs) : SqT K H' a xs := by
  rcases h with (h | ⟨o, h⟩) | h
  · exact .inl (.inl (e.keep _ _ h (fun hm => by have := L _ hm; rw [h] at this; exact this) (fun _ z => nomatch z)))
  · exact .inl (.inr ⟨o, e.keep _ _ h (fun hm => by have := L _ hm; rw [h] at this; exact this) (fun _ z => nomatch z)⟩)
  · exact .inr h
theorem sqF_keep {xs : List V} (e : Xt mu H mu' H') (h : SqF mu F H a xs) : SqF mu' F H' a xs := ⟨e.keep _ _ h.1 h.2.1 (fun _ z => nomatch z), e.notin h.1 h.2.1 (fun _ z => nomatch z), h.2.2⟩
theorem sqS_keep {xs : List V} (L : ∀ b, b ∈ mu → Mut (H b)) (e : Xt mu H mu' H') (h : SqS K mu F H a xs) : SqS K mu' F H' a xs := by
  rcases h with h | ⟨o, h⟩ | h
  · exact .inl (sqF_keep e h)
  · exact .inr (.inl ⟨o, e.keep _ _ h (fun hm => by have := L _ hm; rw [h] at this; exact this) (fun _ z => nomatch z)⟩)
  · exact .inr (.inr h)
mutual
theorem Rp.mono0 (L : ∀ b, b ∈ mu → Mut (H b)) (e : Xt mu H mu' H') : ∀ {v : V} {d : D}, Rp K mu F H v d → Rp K mu' F H' v d
  | _, _, .non => .non
  | _, _, .bl b => .bl b
  | _, _, .int i => .int i
  | _, _, .str s => .str s
  | _, _, .tup h r => .tup (sqT_keep L e h) (Rps.mono0 L e r)
  | _, _, .lst h r => .lst (sqF_keep e h) (Rps.mono0 L e r)
  | _, _, .ref h => .ref (e.get h)
  | _, _, .scr h r => .scr (sqS_keep L e h) (Rps.mono0 L e r)
  | _, _, .opq h => .opq ⟨e.keep _ _ h.1 h.2.1 (fun _ z => nomatch z), e.notin h.1 h.2.1 (fun _ z => nomatch z), h.2.2⟩
  | _, _, .gl h => .gl h
theorem Rps.mono0 (L : ∀ b, b ∈ mu → Mut (H b)) (e : Xt mu H mu' H') : ∀ {vs : List V} {ds : List D}, Rps K mu F H vs ds → Rps K mu' F H' vs ds
  | _, _, .nil => .nil
  | _, _, .cons r t => .cons (Rp.mono0 L e r) (Rps.mono0 L e t)
end
theorem Rp.mono (L : Lv mu F H) (e : Xt mu H mu' H') {v : V} {d : D} (r : Rp K mu F H v d) : Rp K mu' F H' v d := r.mono0 L.mt e
theorem Rps.mono (L : Lv mu F H) (e : Xt mu H mu' H') {v : List V} {d : List D} (r : Rps K mu F H v d) : Rps K mu' F H' v d := r.mono0 L.mt e
/-- other addresses are kept out, all free so far -/
def Fx (F F' : List Addr) (H : Hp) : Prop := ∀ a, a ∈ F' → a ∈ F ∨ H a = none
theorem Fx.refl (F : List Addr) (H : Hp) : Fx F F H := fun _ h => .inl h
mutual
theorem Rp.grow {F' : List Addr} (f : Fx F F' H) : ∀ {v : V} {d : D}, Rp K mu F H v d → Rp K mu F' H v d
  | _, _, .non => .non
  | _, _, .bl b => .bl b
  | _, _, .int i => .int i
  | _, _, .str s => .str s
  | _, _, .tup h r => .tup h (Rps.grow f r)
  | _, _, .lst h r => .lst ⟨h.1, h.2.1, fun hf => (f _ hf).elim h.2.2 fun z => by rw [h.1] at z; cases z⟩ (Rps.grow f r)
  | _, _, .ref h => .ref h
  | _, _, .scr h r => .scr (h.elim (fun h => .inl ⟨h.1, h.2.1, fun hf => (f _ hf).elim h.2.2 fun z => by rw [h.1] at z; cases z⟩) .inr) (Rps.grow f r)
  | _, _, .opq h => .opq ⟨h.1, h.2.1, fun hf => (f _ hf).elim h.2.2 fun z => by rw [h.1] at z; cases z⟩
  | _, _, .gl h => .gl h
theorem Rps.grow {F' : List Addr} (f : Fx F F' H) : ∀ {vs : List V} {ds : List D}, Rps K mu F H vs ds → Rps K mu F' H vs ds
  | _, _, .nil => .nil
  | _, _, .cons r t => .cons (Rp.grow f r) (Rps.grow f t)
end
theorem Rp.far {F' : List Addr} (L : Lv mu F H) (f : Fx F F' H) (e : Xt mu H mu' H') {v : V} {d : D} (r : Rp K mu F H v d) : Rp K mu' F' H' v d := (r.grow f).mono0 L.mt e
theorem Rps.far {F' : List Addr} (L : Lv mu F H) (f : Fx F F' H) (e : Xt mu H mu' H') {v : List V} {d : List D} (r : Rps K mu F H v d) : Rps K mu' F' H' v d := (r.grow f).mono0 L.mt e
/-- as Xt, but the lists of F may have changed -/
structure XtE (F : List Addr) (mu : List Addr) (H : Hp) (mu' : List Addr) (H' : Hp) : Prop where
  pre : ∃ l, mu' = mu ++ l ∧ ∀ a, a ∈ l → Fr0 H a
  keep : ∀ a o, H a = some o → a ∉ mu → (a ∉ F ∨ ¬ Acc o) → (∀ ps, o ≠ .tbl ps) → H' a = some o
theorem Xt.e (e : Xt mu H mu' H') : XtE F mu H mu' H' := ⟨e.pre, fun a o h hn _ ho => e.keep a o h hn ho⟩
theorem XtE.notin (e : XtE F mu H mu' H') {o : HO} (h : H a = some o) (hn : a ∉ mu) (ho : ∀ ps, o ≠ .tbl ps) : a ∉ mu' := by
  obtain ⟨l, rfl, hl⟩ := e.pre
  intro hm
  rcases List.mem_append.mp hm with hm | hm
  · exact hn hm
  · obtain ⟨ps, e⟩ := hl a hm o h; exact ho ps e
theorem XtE.get (e : XtE F mu H mu' H') {n : Nat} (h : mu[n]? = some a) : mu'[n]? = some a := by
  obtain ⟨l, rfl, _⟩ := e.pre
  rw [List.getElem?_append_left]
  · exact h
  · exact (List.getElem?_eq_some_iff.mp h).1
theorem XtE.trans {G : List Addr} (e : XtE F mu H mu' H') (L : Lv mu' G H') (e' : Xt mu' H' mu'' H'') : (∀ a, a ∈ F → ∃ o, H' a = some o ∧ ∀ ps, o ≠ .tbl ps) → XtE F mu H mu'' H'' := fun hF => by
  refine ⟨?_, fun a o h hn hl ho => e'.keep a o (e.keep a o h hn hl ho) (e.notin h hn ho) ho⟩
  obtain ⟨l, rfl, hl⟩ := e.pre
  obtain ⟨l', rfl, hl'⟩ := e'.pre
  refine ⟨l ++ l', by simp, fun a ha => ?_⟩
  rcases List.mem_append.mp ha with ha | ha
  · exact hl a ha
  · intro o q
    have h' := hl' a ha
    by_cases hm : a ∈ mu
    · obtain ⟨o', e'⟩ := L.ex (List.mem_append_left l hm)
      obtain ⟨ps, z⟩ := h' o' e'
      have := L.mt a (List.mem_append_left l hm)
      rw [e', z] at this
      exact this.elim
    · by_cases ht : ∃ ps, o = .tbl ps
      · exact ht
      · by_cases hf : a ∈ F
        · obtain ⟨o2, e2, z2⟩ := hF a hf
          obtain ⟨ps, z⟩ := h' o2 e2
          exact (z2 ps z).elim
        · exact h' o (e.keep a o q hm (.inl hf) fun ps z => ht ⟨ps, z⟩)
theorem XtE.put {p : Addr} {u u' : HO} (e : XtE F mu H mu' H') (hp : H' p = some u) (hu : Acc u) (hF : p ∈ F) : XtE F mu H mu' (upd H' p u') :=
  ⟨e.pre, fun a o h hn hl ho => by
    rw [upd_ne]
    · exact e.keep a o h hn hl ho
    · intro z
      subst z
      have := e.keep a o h hn hl ho
      rw [hp] at this
      cases this
      rcases hl with hl | hl
      · exact hl hF
      · exact hl hu⟩
theorem sqT_keepE {xs : List V} (L : ∀ b, b ∈ mu → Mut (H b)) (e : XtE F mu H mu' H') (h : SqT K H a xs) : SqT K H' a xs := by
  rcases h with (h | ⟨o, h⟩) | h
  · exact .inl (.inl (e.keep _ _ h (fun hm => by have := L _ hm; rw [h] at this; exact this) (.inr fun z => z) (fun _ z => nomatch z)))
  · exact .inl (.inr ⟨o, e.keep _ _ h (fun hm => by have := L _ hm; rw [h] at this; exact this) (.inr fun z => z) (fun _ z => nomatch z)⟩)
  · exact .inr h
theorem sqF_keepE {F' : List Addr} {xs : List V} (f : Fx F F' H) (e : XtE F mu H mu' H') (h : SqF mu F H a xs) : SqF mu' F' H' a xs := ⟨e.keep _ _ h.1 h.2.1 (.inl h.2.2) (fun _ z => nomatch z), e.notin h.1 h.2.1 (fun _ z => nomatch z), fun hf => (f _ hf).elim h.2.2 fun z => by rw [h.1] at z; cases z⟩
theorem sqS_keepE {F' : List Addr} {xs : List V} (L : ∀ b, b ∈ mu → Mut (H b)) (f : Fx F F' H) (e : XtE F mu H mu' H') (h : SqS K mu F H a xs) : SqS K mu' F' H' a xs := by
  rcases h with h | ⟨o, h⟩ | h
  · exact .inl (sqF_keepE f e h)
  · exact .inr (.inl ⟨o, e.keep _ _ h (fun hm => by have := L _ hm; rw [h] at this; exact this) (.inr fun z => z) (fun _ z => nomatch z)⟩)
  · exact .inr (.inr h)
mutual
theorem Rp.farE {F' : List Addr} (L : ∀ b, b ∈ mu → Mut (H b)) (f : Fx F F' H) (e : XtE F mu H mu' H') : ∀ {v : V} {d : D}, Rp K mu F H v d → Rp K mu' F' H' v d
  | _, _, .non => .non
  | _, _, .bl b => .bl b
  | _, _, .int i => .int i
  | _, _, .str s => .str s
  | _, _, .tup h r => .tup (sqT_keepE L e h) (Rps.farE L f e r)
  | _, _, .lst h r => .lst (sqF_keepE f e h) (Rps.farE L f e r)
  | _, _, .ref h => .ref (e.get h)
  | _, _, .scr h r => .scr (sqS_keepE L f e h) (Rps.farE L f e r)
  | _, _, .opq h => .opq ⟨e.keep _ _ h.1 h.2.1 (.inl h.2.2) (fun _ z => nomatch z), e.notin h.1 h.2.1 (fun _ z => nomatch z), fun hf => (f _ hf).elim h.2.2 fun z => by rw [h.1] at z; cases z⟩
  | _, _, .gl h => .gl h
theorem Rps.farE {F' : List Addr} (L : ∀ b, b ∈ mu → Mut (H b)) (f : Fx F F' H) (e : XtE F mu H mu' H') : ∀ {vs : List V} {ds : List D}, Rps K mu F H vs ds → Rps K mu' F' H' vs ds
  | _, _, .nil => .nil
  | _, _, .cons r t => .cons (Rp.farE L f e r) (Rps.farE L f e t)
end
theorem EnvR.far {F' : List Addr} {σ : L2.St} {env : Env} (L : Lv mu F H) (f : Fx F F' H) (e : Xt mu H mu' H') (h : EnvR K mu F H σ env) : EnvR K mu' F' H' σ env :=
  ⟨h.1, fun i d q => let ⟨v, h1, h2⟩ := h.2 i d q; ⟨v, h1, h2.far L f e⟩⟩
theorem EnvR.farE {F' : List Addr} {σ : L2.St} {env : Env} (L : Lv mu F H) (f : Fx F F' H) (e : XtE F mu H mu' H') (h : EnvR K mu F H σ env) : EnvR K mu' F' H' σ env :=
  ⟨h.1, fun i d q => let ⟨v, h1, h2⟩ := h.2 i d q; ⟨v, h1, h2.farE L.mt f e⟩⟩
theorem Lv.frnE {G : List Addr} (L : Lv mu' F H') (_ : XtE G mu H mu' H') (_ : ∀ a, a ∈ F → ∃ o, H a = some o ∧ ∀ ps, o ≠ .tbl ps) : ∀ a, a ∈ F → ∃ o, H' a = some o ∧ ∀ ps, o ≠ .tbl ps := L.frn
theorem EnvR.mono {σ : L2.St} {env : Env} (L : Lv mu F H) (e : Xt mu H mu' H') (h : EnvR K mu F H σ env) : EnvR K mu' F H' σ env :=
  ⟨h.1, fun i d q => let ⟨v, h1, h2⟩ := h.2 i d q; ⟨v, h1, h2.mono L e⟩⟩
theorem EnvR.set {σ : L2.St} {env : Env} {i : Nat} {v : V} {d : D} (h : EnvR K mu F H σ env) (r : Rp K mu F H v d) : EnvR K mu F H (σ.set i (some v)) (env.set i (some d)) := by
  refine ⟨by simp [h.1], fun j e q => ?_⟩
  by_cases hj : i = j
  · subst hj
    by_cases hl : i < env.length
    · rw [List.getElem?_set_self hl] at q
      cases q
      exact ⟨v, by rw [List.getElem?_set_self (by rw [h.1]; exact hl)], r⟩
    · rw [List.getElem?_eq_none (by simpa using hl)] at q; cases q
  · rw [List.getElem?_set_ne hj] at q
    obtain ⟨w, h1, h2⟩ := h.2 j e q
    exact ⟨w, by rw [List.getElem?_set_ne hj]; exact h1, h2⟩
theorem EnvR.wipe {σ : L2.St} {env : Env} (h : EnvR K mu F H σ env) : ∀ vs : List Nat, EnvR K mu F H (wipe σ vs) (wipeD env vs)
  | [] => h
  | w :: vs => by
    have ih := EnvR.wipe h vs
    unfold L2.wipe wipeD
    refine ⟨by simp [ih.1], fun j e q => ?_⟩
    by_cases hj : w = j
    · subst hj
      by_cases hl : w < (wipeD env vs).length
      · rw [List.getElem?_set_self hl] at q; cases q
      · rw [List.getElem?_eq_none (by simpa using hl)] at q; cases q
    · rw [List.getElem?_set_ne hj] at q
      obtain ⟨w', h1, h2⟩ := ih.2 j e q
      exact ⟨w', by rw [List.getElem?_set_ne hj]; exact h1, h2⟩
theorem Rps.length : ∀ {vs : List V} {ds : List D}, Rps K mu F H vs ds → vs.length = ds.length
  | _, _, .nil => rfl
  | _, _, .cons _ t => by simp [Rps.length t]
theorem Rps.get : ∀ {vs : List V} {ds : List D} {i : Nat} {d : D}, Rps K mu F H vs ds → ds[i]? = some d → ∃ v, vs[i]? = some v ∧ Rp K mu F H v d
  | _, _, _, _, .nil, h => by simp at h
  | _, _, 0, _, .cons r _, h => by simp at h; subst h; exact ⟨_, rfl, r⟩
  | _, _, i + 1, _, .cons _ t, h => by
    obtain ⟨v, h1, h2⟩ := Rps.get (i := i) t (by simpa using h)
    exact ⟨v, by simpa using h1, h2⟩
theorem Rps.get' : ∀ {vs : List V} {ds : List D} {i : Nat} {v : V}, Rps K mu F H vs ds → vs[i]? = some v → ∃ d, ds[i]? = some d ∧ Rp K mu F H v d
  | _, _, _, _, .nil, h => by simp at h
  | _, _, 0, _, .cons r _, h => by simp at h; subst h; exact ⟨_, rfl, r⟩
  | _, _, i + 1, _, .cons _ t, h => by
    obtain ⟨v, h1, h2⟩ := Rps.get' (i := i) t (by simpa using h)
    exact ⟨v, by simpa using h1, h2⟩
theorem Rps.append : ∀ {vs ws : List V} {ds es : List D}, Rps K mu F H vs ds → Rps K mu F H ws es → Rps K mu F H (vs ++ ws) (ds ++ es)
  | _, _, _, _, .nil, h => h
  | _, _, _, _, .cons r t, h => .cons r (Rps.append t h)
theorem Rps.take : ∀ {vs : List V} {ds : List D} (n : Nat), Rps K mu F H vs ds → Rps K mu F H (vs.take n) (ds.take n)
  | _, _, 0, _ => .nil
  | _, _, _ + 1, .nil => .nil
  | _, _, n + 1, .cons r t => .cons r (Rps.take n t)
theorem Rps.drop : ∀ {vs : List V} {ds : List D} (n : Nat), Rps K mu F H vs ds → Rps K mu F H (vs.drop n) (ds.drop n)
  | _, _, 0, h => h
  | _, _, _ + 1, .nil => .nil
  | _, _, n + 1, .cons _ t => Rps.drop n t
theorem Rps.reverse : ∀ {vs : List V} {ds : List D}, Rps K mu F H vs ds → Rps K mu F H vs.reverse ds.reverse
  | _, _, .nil => .nil
  | _, _, .cons r t => by
    rw [List.reverse_cons, List.reverse_cons]
    exact (Rps.reverse t).append (.cons r .nil)
theorem Rps.set {v : V} {d : D} (r : Rp K mu F H v d) : ∀ {vs : List V} {ds : List D} (i : Nat), Rps K mu F H vs ds → Rps K mu F H (vs.set i v) (ds.set i d)
  | _, _, _, .nil => .nil
  | _, _, 0, .cons _ t => .cons r t
  | _, _, i + 1, .cons q t => .cons q (Rps.set r i t)
theorem Rps.dropLast {vs : List V} {ds : List D} (h : Rps K mu F H vs ds) : Rps K mu F H vs.dropLast ds.dropLast := by
  rw [List.dropLast_eq_take, List.dropLast_eq_take, h.length]; exact h.take _
theorem Rps.repl {vs : List V} {ds : List D} (h : Rps K mu F H vs ds) : ∀ n : Nat, Rps K mu F H (List.replicate n vs).flatten (List.replicate n ds).flatten
  | 0 => by simpa using .nil
  | n + 1 => by rw [List.replicate_succ, List.replicate_succ, List.flatten_cons, List.flatten_cons]; exact h.append (h.repl n)
theorem Rps.ints : ∀ (is : List Int), Rps K mu F H (is.map V.int) (is.map D.int)
  | [] => .nil
  | i :: r => .cons (.int i) (Rps.ints r)
theorem Rps.of_ints : ∀ {is : List Int} {ds : List D} {vs : List V}, Rps K mu F H vs ds → intsOf ds = some is → vs = is.map V.int
  | is, _, _, .nil, h => by simp [intsOf] at h; subst h; rfl
  | is, d :: ds, _, .cons r t, h => by
    cases d with
    | int i =>
      cases r
      cases q : intsOf ds with
      | none => simp [intsOf, q] at h
      | some js =>
        simp [intsOf, q] at h
        subst h
        rw [Rps.of_ints t q]; rfl
    | _ => simp [intsOf] at h
theorem Rps.of_bls : ∀ {is : List Bool} {ds : List D} {vs : List V}, Rps K mu F H vs ds → blsOf ds = some is → vs = is.map V.bl
  | is, _, _, .nil, h => by simp [blsOf] at h; subst h; rfl
  | is, d :: ds, _, .cons r t, h => by
    cases d with
    | bl i =>
      cases r
      cases q : blsOf ds with
      | none => simp [blsOf, q] at h
      | some js =>
        simp [blsOf, q] at h
        subst h
        rw [Rps.of_bls t q]; rfl
    | _ => simp [blsOf] at h
/-- a list in the store -/
theorem Gd.ref {n : Nat} {ds : List D} (g : Gd K mu F H S) (h : mu[n]? = some a) (hs : S[n]? = some (.lst ds)) : ∃ vs, H a = some (.lst vs) ∧ Rps K mu F H vs ds := g.cell n _ a hs h
/-- a sequence that is read -/
theorem Gd.seq {v : V} {d : D} {ds : List D} (g : Gd K mu F H S) (r : Rp K mu F H v d) (h : seqOf S d = some ds) : ∃ a vs, v = .ref a ∧ (SqL K H a vs ∨ SqT K H a vs) ∧ Rps K mu F H vs ds := by
  cases r with
  | tup q t => simp [seqOf] at h; subst h; exact ⟨_, _, rfl, .inr q, t⟩
  | lst q t => simp [seqOf] at h; subst h; exact ⟨_, _, rfl, .inl (.inl (.inl q.1)), t⟩
  | scr q t => simp [seqOf] at h; subst h; exact ⟨_, _, rfl, .inl q.sq, t⟩
  | @ref n a q =>
    simp only [seqOf] at h
    split at h
    · rename_i xs e
      cases h
      obtain ⟨vs, h1, h2⟩ := g.ref q e
      exact ⟨_, _, rfl, .inl (.inl (.inl h1)), h2⟩
    · cases h
  | _ => simp [seqOf] at h
theorem Gd.list {v : V} {d : D} {ds : List D} (g : Gd K mu F H S) (r : Rp K mu F H v d) (h : lstOf S d = some ds) : ∃ a vs, v = .ref a ∧ H a = some (.lst vs) ∧ Rps K mu F H vs ds := by
  cases r with
  | lst q t => simp [lstOf] at h; subst h; exact ⟨_, _, rfl, q.1, t⟩
  | @ref n a q =>
    simp only [lstOf] at h
    split at h
    · rename_i xs e
      cases h
      obtain ⟨vs, h1, h2⟩ := g.ref q e
      exact ⟨_, _, rfl, h1, h2⟩
    · cases h
  | _ => simp [lstOf] at h
end

/-! ### what a run gives -/
abbrev PXT := Nat → D → Store → Prop
def WY {α : Type} (r : Rs α) (P : α → Store → Prop) (PX : PXT) : Prop := match r with
  | .ok a S => P a S
  | .exc c d S => PX c d S
  | .no => False
abbrev WP {α : Type} (r : Rs α) (P : α → Store → Prop) : Prop := WY r P fun _ _ _ => False
theorem WY.mono2 {α : Type} {r : Rs α} {P Q : α → Store → Prop} {PX QX : PXT} (h : WY r P PX) (hpq : ∀ a S, P a S → Q a S) (hx : ∀ c d S, PX c d S → QX c d S) : WY r Q QX := by
  cases r with
  | ok a S => exact hpq a S h
  | exc c d S => exact hx c d S h
  | no => exact h
theorem WY.mono {α : Type} {r : Rs α} {P Q : α → Store → Prop} {PX : PXT} (h : WY r P PX) (hpq : ∀ a S, P a S → Q a S) : WY r Q PX := h.mono2 hpq fun _ _ _ q => q
theorem WY.bnd {α β : Type} {m : M α} {f : α → M β} {S : Store} {P : β → Store → Prop} {PX : PXT} : WY (bnd m f S) P PX ↔ WY (m S) (fun a S' => WY (f a S') P PX) PX := by
  unfold Ev.bnd
  cases m S <;> rfl
theorem WY.ret {α : Type} {a : α} {S : Store} {P : α → Store → Prop} {PX : PXT} : WY (ret a S) P PX ↔ P a S := Iff.rfl
theorem WY.guard {α : Type} {b : Bool} {m : M α} {S : Store} {P : α → Store → Prop} {PX : PXT} : WY (guard b m S) P PX ↔ (b = true ∧ WY (m S) P PX) := by
  unfold Ev.guard
  cases b with
  | false => exact ⟨fun h => h.elim, fun h => nomatch h.1⟩
  | true => exact ⟨fun h => ⟨rfl, h⟩, fun h => h.2⟩
theorem WY.opt {α : Type} {o : Option α} {S : Store} {P : α → Store → Prop} {PX : PXT} : WY (opt o S) P PX ↔ ∃ a, o = some a ∧ P a S := by
  cases o with
  | none => exact ⟨fun h => h.elim, fun ⟨_, h, _⟩ => nomatch h⟩
  | some a => exact ⟨fun h => ⟨a, rfl, h⟩, fun ⟨_, h, p⟩ => by cases h; exact p⟩
/-- an exception's class: its name, the field that it keeps -/
structure XRow where
  name : Str
  fld : Option Str
abbrev XTab := Nat → Option XRow
/-- what is known of a context, for exceptions: the module's names, the classes, the wish -/
structure XI where
  mg : Str → Option Value
  xt : XTab
  W : XK
def XI.nox (Y : XI) : XI := { Y with W := fun _ _ _ => False }
/-- what is in the air -/
def RX (K : PySem.W.Frag) (Y : XI) (mu F : List Addr) (H : Hp) (c : Nat) (d : D) (cls : Value) (dd : Option Addr) : Prop :=
  ∃ r C, Y.xt c = some r ∧ Y.mg r.name = some (.ref C) ∧ cls = .ref C ∧ match r.fld with
    | none => d = .non
    | some f => ∃ a fs v, dd = some a ∧ H a = some (.xd fs) ∧ fs.lookup f = some v ∧ Rp K mu F H v d
def PoX (K : PySem.W.Frag) (Y : XI) (mu F : List Addr) (H : Hp) : PXT := fun c d S' => ∀ cls dd H' mu', Xt mu H mu' H' → Gd K mu' F H' S' → RX K Y mu' F H' c d cls dd → Y.W cls dd H'
theorem PoX.cl {K : PySem.W.Frag} {Y : XI} {F mu mu1 : List Addr} {H H1 : Hp} {c : Nat} {d : D} {S : Store} (e : Xt mu H mu1 H1) (L : Lv mu1 F H1) (h : PoX K Y mu F H c d S) : PoX K Y mu1 F H1 c d S := fun cls dd H' mu' e' g r => h cls dd H' mu' (e.trans L e') g r
theorem WY.noX {α : Type} {r : Rs α} {P : α → Store → Prop} {PX QX : PXT} (h : WY (noX r) P PX) : WY r P QX := by
  cases r with
  | ok a S => exact h
  | exc _ _ _ => exact h.elim
  | no => exact h
/-- what is wanted behind an expression -/
def Po (K : PySem.W.Frag) (mu F : List Addr) (H : Hp) (Q : VK) : D → Store → Prop := fun d S' => ∀ v H' mu', Xt mu H mu' H' → Gd K mu' F H' S' → Rp K mu' F H' v d → Q v H'
def PoS (K : PySem.W.Frag) (mu F : List Addr) (H : Hp) (Q : List V → Hp → Prop) : List D → Store → Prop := fun ds S' => ∀ vs H' mu', Xt mu H mu' H' → Gd K mu' F H' S' → Rps K mu' F H' vs ds → Q vs H'
def tE (K : PySem.W.Frag) (Y : XI) (ev : EM D) : TE := fun σ H Q => ∃ env mu F S, EnvR K mu F H σ env ∧ Gd K mu F H S ∧ WY (ev env S) (Po K mu F H Q) (PoX K Y mu F H)
def tA (K : PySem.W.Frag) (Y : XI) (ev : EM (List D)) : TA := fun σ H Q => ∃ env mu F S, EnvR K mu F H σ env ∧ Gd K mu F H S ∧ WY (ev env S) (PoS K mu F H Q) (PoX K Y mu F H)
/-- a test -/
def tT (K : PySem.W.Frag) (Y : XI) (ev : EM D) : TT := fun σ H Q => ∃ env mu F S, EnvR K mu F H σ env ∧ Gd K mu F H S ∧ WY (ev env S) (fun d S' => ∃ b, d = .bl b ∧ ∀ H' mu', Xt mu H mu' H' → Gd K mu' F H' S' → Q b H') (PoX K Y mu F H)
theorem PE.imp {X : Cx} {e : Expr} {t t' : TE} (h : PE X e t) (hi : ∀ σ H Q, t' σ H Q → t σ H Q) : PE X e t' := ⟨fun pins s σ H Q I q => h.run pins s σ H Q I (hi σ H Q q)⟩
theorem PT.imp {X : Cx} {e : Expr} {t t' : TT} (h : PT X e t) (hi : ∀ σ H Q, t' σ H Q → t σ H Q) : PT X e t' := ⟨fun pins s σ H Q I q => h.run pins s σ H Q I (hi σ H Q q)⟩
theorem PW.imp {X : Cx} {e : Expr} {t t' : TT} (h : PW X e t) (hi : ∀ σ H Q, t' σ H Q → t σ H Q) : PW X e t' := ⟨fun wh pins s σ H Q I q => h.run wh pins s σ H Q I (hi σ H Q q)⟩
theorem PA.imp {X : Cx} {e : List Expr} {t t' : TA} (h : PA X e t) (hi : ∀ σ H Q, t' σ H Q → t σ H Q) : PA X e t' := ⟨fun p pins s σ H Q I q => h.run p pins s σ H Q I (hi σ H Q q)⟩
theorem PS.imp {X : Cx} {e : Stmt} {t t' : TS} (h : PS X e t) (hi : ∀ D σ H, t' D σ H → t D σ H) : PS X e t' := ⟨fun pins s σ H D I q => h.run pins s σ H D I (hi D σ H q)⟩
theorem PSs.imp {X : Cx} {e : List Stmt} {t t' : TS} (h : PSs X e t) (hi : ∀ D σ H, t' D σ H → t D σ H) : PSs X e t' := ⟨fun pins s σ H D I q => h.run pins s σ H D I (hi D σ H q)⟩
theorem tE_bl {K : PySem.W.Frag} {Y : XI} {ev : EM D} {σ : L2.St} {H : Hp} {Q : Bool → Hp → Prop} (h : tT K Y ev σ H Q) : tB (tE K Y ev) σ H Q := by
  obtain ⟨env, mu, F, S, he, hg, hw⟩ := h
  refine ⟨env, mu, F, S, he, hg, hw.mono ?_⟩
  rintro d S' ⟨b, rfl, q⟩ v H' mu' e g r
  cases r
  exact ⟨b, rfl, q H' mu' e g⟩
end
end Ev
/-! Ev: operations by values -/
namespace Ev
open PySem PySem.Spec
open PyProof.Rows L2
variable [LamN]

section
variable {K : PySem.W.Frag} {mu mu' mu'' F : List Addr} {H H' H'' : Hp} {S S' : Store} {a p : Addr} {Q : VK}
/-! ### new objects, stores -/
theorem Xt.new {o : HO} (hp : H p = none) : Xt mu H mu (upd H p o) :=
  ⟨⟨[], by simp, by simp⟩, fun b u h _ _ => by rw [upd_ne (ne_of_none h hp)]; exact h⟩
theorem Xt.newM {o : HO} (hp : H p = none) : Xt mu H (mu ++ [p]) (upd H p o) :=
  ⟨⟨[p], rfl, fun b hb => by simp at hb; subst hb; exact .of hp⟩, fun b u h _ _ => by rw [upd_ne (ne_of_none h hp)]; exact h⟩
theorem Lv.notin (L : Lv mu F H) (hp : H p = none) : p ∉ mu := fun h => by
  obtain ⟨o, e⟩ := L.ex h
  rw [hp] at e; cases e
theorem Lv.new {o : HO} (L : Lv mu F H) (hp : H p = none) : Lv mu F (upd H p o) :=
  ⟨L.nd, fun b hb => by rw [upd_ne (show b ≠ p from fun e => L.notin hp (by rw [← e]; exact hb))]; exact L.mt b hb, L.out, fun b hb => by rw [upd_ne (show b ≠ p from fun e => L.fne hb (by rw [e]; exact hp))]; exact L.frn b hb⟩
theorem Lv.newM {xs : List V} (L : Lv mu F H) (hp : H p = none) : Lv (mu ++ [p]) F (upd H p (.lst xs)) := by
  refine ⟨?_, fun b hb => ?_, fun b hb => ?_, (L.new hp).frn⟩
  · rw [List.nodup_append]
    refine ⟨L.nd, by simp, fun b hb c hc e => ?_⟩
    simp at hc
    subst hc e
    exact L.notin hp hb
  · rcases List.mem_append.mp hb with hb | hb
    · exact (L.new hp).mt b hb
    · simp at hb; subst hb; rw [upd_same]; trivial
  · rcases List.mem_append.mp hb with hb | hb
    · exact L.out b hb
    · simp at hb; subst hb; exact fun hf => L.fne hf hp
theorem RpC.mono {c : Cell} (L : Lv mu F H) (e : Xt mu H mu' H') (h : RpC K mu F H a c) (ha : ∀ o, H a = some o → H' a = some o) : RpC K mu' F H' a c := by
  cases c with
  | lst ds =>
    obtain ⟨vs, h1, h2⟩ := h
    exact ⟨vs, ha _ h1, h2.mono L e⟩
  | obj _ _ => exact h.elim
theorem Gd.new {o : HO} (g : Gd K mu F H S) (hp : H p = none) : Gd K mu F (upd H p o) S :=
  ⟨g.live.new hp, g.len, fun n c b h1 h2 => (g.cell n c b h1 h2).mono g.live (Xt.new hp) fun u hu => by rw [upd_ne (ne_of_none hu hp)]; exact hu, g.tb.ext fun b u e => by rw [upd_ne (ne_of_none e hp)]; exact e⟩
theorem Gd.newM {vs : List V} {ds : List D} (g : Gd K mu F H S) (hp : H p = none) (r : Rps K mu F H vs ds) : Gd K (mu ++ [p]) F (upd H p (.lst vs)) (S ++ [.lst ds]) := by
  refine ⟨g.live.newM hp, by simp [g.len], fun n c b h1 h2 => ?_, g.tb.ext fun b u e => by rw [upd_ne (ne_of_none e hp)]; exact e⟩
  by_cases hn : n < S.length
  · rw [List.getElem?_append_left hn] at h1
    rw [List.getElem?_append_left (by rw [g.len]; exact hn)] at h2
    exact (g.cell n c b h1 h2).mono g.live (Xt.newM hp) fun u hu => by rw [upd_ne (ne_of_none hu hp)]; exact hu
  · rw [List.getElem?_append_right (by omega)] at h1
    rw [List.getElem?_append_right (by rw [g.len]; omega), g.len] at h2
    have hz : n - S.length = 0 := by
      by_cases h0 : n - S.length = 0
      · exact h0
      · rw [List.getElem?_eq_none (by simp; omega)] at h1; cases h1
    rw [hz] at h1 h2
    simp at h1 h2
    subst h1 h2
    exact ⟨vs, upd_same, r.mono g.live (Xt.newM hp)⟩
theorem Xt.put {o : HO} (hm : p ∈ mu) : Xt mu H mu (upd H p o) :=
  ⟨⟨[], by simp, by simp⟩, fun b u h hb _ => by rw [upd_ne (show b ≠ p from fun e => hb (by rw [e]; exact hm))]; exact h⟩
/-- a list changes: the tables stay -/
theorem tabs_put {T : List (Addr × Str)} {u o : HO} (t : LamX.Tabs T H) (h : H p = some u) (hu : Acc u) : LamX.Tabs T (upd H p o) := fun q hq => by
  obtain ⟨ps, h1, h2, h3⟩ := t q hq
  refine ⟨ps, by rw [upd_ne (fun e => by rw [e, h] at h1; cases h1; exact hu)]; exact h1, h2, fun pos cv hc => ?_⟩
  obtain ⟨c, e1, e2⟩ := h3 pos cv hc
  exact ⟨c, e1, by rw [upd_ne (fun e => by rw [e, h] at e2; unfold LamX.CodeO at e2; cases e2; exact hu)]; exact e2⟩
theorem Gd.put {n : Nat} {vs : List V} {ds ds0 : List D} (g : Gd K mu F H S) (hn : mu[n]? = some p) (r : Rps K mu F H vs ds) : Gd K mu F (upd H p (.lst vs)) (S.set n (.lst ds)) := by
  have hm : p ∈ mu := List.mem_of_getElem? hn
  have hps : ∃ xs, H p = some (.lst xs) := by
    have hl : n < S.length := by rw [← g.len]; exact (List.getElem?_eq_some_iff.mp hn).1
    have := g.cell n S[n] p (List.getElem?_eq_getElem hl) hn
    cases e : S[n] with
    | lst ds => rw [e] at this; obtain ⟨vs, h1, _⟩ := this; exact ⟨vs, h1⟩
    | obj _ _ => rw [e] at this; exact this.elim
  obtain ⟨xs0, hps⟩ := hps
  refine ⟨⟨g.live.nd, fun b hb => ?_, g.live.out, fun b hb => ?_⟩, by simp [g.len], fun m c b h1 h2 => ?_, tabs_put g.tb hps trivial⟩
  · by_cases e : b = p
    · subst e; rw [upd_same]; trivial
    · rw [upd_ne e]; exact g.live.mt b hb
  · rw [upd_ne (show b ≠ p from fun e => g.live.out p hm (by rw [← e]; exact hb))]; exact g.live.frn b hb
  · by_cases e : n = m
    · subst e
      rw [hn] at h2; cases h2
      have hl : n < S.length := by rw [← g.len]; exact (List.getElem?_eq_some_iff.mp hn).1
      rw [List.getElem?_set_self hl] at h1
      cases h1
      exact ⟨vs, upd_same, r.mono g.live (Xt.put hm)⟩
    · rw [List.getElem?_set_ne e] at h1
      have hb : b ≠ p := fun q => by
        subst q
        obtain ⟨i1, j1⟩ := List.getElem?_eq_some_iff.mp hn
        obtain ⟨i2, j2⟩ := List.getElem?_eq_some_iff.mp h2
        exact e ((List.getElem_inj (h₀ := i1) (h₁ := i2) g.live.nd).mp (j1.trans j2.symm))
      exact (g.cell m c b h1 h2).mono g.live (Xt.put hm) fun u hu => by rw [upd_ne hb]; exact hu
/-- what mkL asks -/
theorem mkL_ok {m : Bool} {vs : List V} {ds : List D} (g : Gd K mu F H S) (r : Rps K mu F H vs ds) {PX : PXT} (h : WY (mkL m ds S) (Po K mu F H Q) PX) : ∀ p, H p = none → Q (.ref p) (upd H p (.lst vs)) := fun p hp => by
  unfold mkL at h
  rw [lsK_eq] at h
  cases m with
  | false =>
    have h : Po K mu F H Q (.lst ds) S := h
    exact h _ _ mu (Xt.new hp) (g.new hp) (.lst ⟨upd_same, g.live.notin hp, fun hf => g.live.fne hf hp⟩ (r.mono g.live (Xt.new hp)))
  | true =>
    have h : WY (alloc (.lst ds) S) (Po K mu F H Q) PX := h
    unfold alloc at h
    rw [natK_eq, lsK_eq] at h
    have h : Po K mu F H Q (.ref S.length) (S ++ [.lst ds]) := h
    exact h _ _ (mu ++ [p]) (Xt.newM hp) (g.newM hp r) (.ref (by rw [← g.len]; simp))
theorem Po.flat {v : V} {d : D} (g : Gd K mu F H S) (r : Rp K mu F H v d) (h : Po K mu F H Q d S) : Q v H := h v H mu (Xt.refl mu H) g r
theorem Po.tup {vs : List V} {ds : List D} (g : Gd K mu F H S) (r : Rps K mu F H vs ds) (h : Po K mu F H Q (.tup ds) S) : ∀ p, H p = none → Q (.ref p) (upd H p (.tup vs)) := fun p hp =>
  h _ _ mu (Xt.new hp) (g.new hp) (.tup (.inl (.inl upd_same)) (r.mono g.live (Xt.new hp)))

/-! ### equality -/
mutual
theorem dp_of : ∀ {n : Nat} {v : V} {d : D}, shal n d = true → Rp K mu F H v d → Dp K H v (toPy d)
  | _, _, _, _, .non => .non
  | _, _, _, _, .bl b => .bl b
  | _, _, _, _, .int i => .int i
  | _, _, _, _, .str s => .str s
  | 0, _, _, h, .tup q t => by simp [shal] at h
  | n + 1, _, _, h, .tup q t => .tup q (dps_of (n := n) (by simpa [shal] using h) t)
  | 0, _, _, h, .lst q t => by simp [shal] at h
  | n + 1, _, _, h, .lst q t => .lst (.inl (.inl q.1)) (dps_of (n := n) (by simpa [shal] using h) t)
  | 0, _, _, h, .ref _ => by simp [shal] at h
  | _ + 1, _, _, h, .ref _ => by simp [shal] at h
  | 0, _, _, h, .scr _ _ => by simp [shal] at h
  | _ + 1, _, _, h, .scr _ _ => by simp [shal] at h
  | 0, _, _, h, .opq _ => by simp [shal] at h
  | _ + 1, _, _, h, .opq _ => by simp [shal] at h
  | 0, _, _, h, .gl _ => by simp [shal] at h
  | _ + 1, _, _, h, .gl _ => by simp [shal] at h
theorem dps_of : ∀ {n : Nat} {vs : List V} {ds : List D}, shal.shals n ds = true → Rps K mu F H vs ds → DpAll K H vs (toPys ds)
  | _, _, _, _, .nil => .nil
  | n, _, _, h, .cons r t => by
    simp only [shal.shals, Bool.and_eq_true] at h
    exact .cons (dp_of (n := n) h.1 r) (dps_of (n := n) h.2 t)
end
theorem strOk_of {s : Str} (h : (s.cps.toList.all fun c => Nat.blt c 1114112) = true) : PyData.strOk s = true := by
  unfold PyData.strOk
  rw [← Array.all_toList, ← h]
  congr 1
  funext c
  rw [Bool.eq_iff_iff]
  simp [Nat.blt_eq]
mutual
theorem lay_of : ∀ {n : Nat} (d : D), shal n d = true → (toPy d).canLay0 = true
  | _, .non, _ => by simp [toPy, PyData.canLay0]
  | _, .bl b, _ => by simp [toPy, PyData.canLay0]
  | _, .int i, _ => by simp [toPy, PyData.canLay0]
  | n, .str s, h => by simp only [toPy, PyData.canLay0]; exact strOk_of (by cases n <;> simpa [shal] using h)
  | 0, .tup xs, h => by simp [shal] at h
  | 0, .lst xs, h => by simp [shal] at h
  | n + 1, .tup xs, h => by simp only [toPy, PyData.canLay0]; exact lays_of (n := n) xs (by simpa [shal] using h)
  | n + 1, .lst xs, h => by simp only [toPy, PyData.canLay0]; exact lays_of (n := n) xs (by simpa [shal] using h)
  | _, .ref _, _ => by simp [toPy, PyData.canLay0]
  | _, .gl _, _ => by simp [toPy, PyData.canLay0]
  | _, .scr _, _ => by simp [toPy, PyData.canLay0]
  | _, .opq, _ => by simp [toPy, PyData.canLay0]
theorem lays_of : ∀ {n : Nat} (ds : List D), shal.shals n ds = true → PyData.canLayAll0 (toPys ds) = true
  | _, [], _ => by simp [toPys, PyData.canLayAll0]
  | n, d :: ds, h => by
    simp only [shal.shals, Bool.and_eq_true] at h
    simp [toPys, PyData.canLayAll0, lay_of (n := n) d h.1, lays_of (n := n) ds h.2]
end
mutual
theorem depth_of : ∀ {n : Nat} {d : D}, shal n d = true → (toPy d).depth ≤ n
  | n, .non, _ => by simp [toPy, PyData.depth]
  | n, .bl b, _ => by simp [toPy, PyData.depth]
  | n, .int b, _ => by simp [toPy, PyData.depth]
  | n, .str b, _ => by simp [toPy, PyData.depth]
  | 0, .tup xs, h => by simp [shal] at h
  | n + 1, .tup xs, h => by
    have := depths_of (n := n) (ds := xs) (by simpa [shal] using h)
    simp only [toPy, PyData.depth]; omega
  | 0, .lst xs, h => by simp [shal] at h
  | n + 1, .lst xs, h => by
    have := depths_of (n := n) (ds := xs) (by simpa [shal] using h)
    simp only [toPy, PyData.depth]; omega
  | n, .ref _, h => by simp [toPy, PyData.depth]
  | n, .gl _, h => by simp [toPy, PyData.depth]
  | n, .scr _, h => by simp [toPy, PyData.depth]
  | n, .opq, h => by simp [toPy, PyData.depth]
theorem depths_of : ∀ {n : Nat} {ds : List D}, shal.shals n ds = true → PyData.depthAll (toPys ds) ≤ n
  | n, [], _ => by simp [toPys, PyData.depthAll]
  | n, d :: ds, h => by
    simp only [shal.shals, Bool.and_eq_true] at h
    have h1 := depth_of (n := n) h.1
    have h2 := depths_of (n := n) h.2
    simp only [toPys, PyData.depthAll]; omega
end
theorem shaped_of {d : D} (h : shal 40 d = true) : SeqAt.shaped (toPy d) = true := by
  unfold SeqAt.shaped
  rw [lay_of d h, Bool.true_and]
  exact decide_eq_true (Nat.le_trans (depth_of h) (by decide))
mutual
theorem eqv_of : ∀ {n m : Nat} (a b : D), shal n a = true → shal m b = true → PyData.eqv (toPy a) (toPy b) = eqv a b
  | n, m, .non, b, h, h' => by cases b <;> cases m <;> simp_all [toPy, PyData.eqv, eqv, shal]
  | n, m, .bl x, b, h, h' => by cases b <;> cases m <;> simp_all [toPy, PyData.eqv, eqv, shal]
  | n, m, .int x, b, h, h' => by cases b <;> cases m <;> simp_all [toPy, PyData.eqv, eqv, shal]
  | n, m, .str x, b, h, h' => by cases b <;> cases m <;> simp_all [toPy, PyData.eqv, eqv, shal]
  | 0, m, .tup xs, b, h, h' => by simp [shal] at h
  | 0, m, .lst xs, b, h, h' => by simp [shal] at h
  | n + 1, m, .tup xs, b, h, h' => by
    cases b with
    | tup ys =>
      cases m with
      | zero => simp [shal] at h'
      | succ m => simp only [toPy, PyData.eqv, eqv]; exact eqvs_of (n := n) (m := m) xs ys (by simpa [shal] using h) (by simpa [shal] using h')
    | _ => cases m <;> simp_all [toPy, PyData.eqv, eqv, shal]
  | n + 1, m, .lst xs, b, h, h' => by
    cases b with
    | lst ys =>
      cases m with
      | zero => simp [shal] at h'
      | succ m => simp only [toPy, PyData.eqv, eqv]; exact eqvs_of (n := n) (m := m) xs ys (by simpa [shal] using h) (by simpa [shal] using h')
    | _ => cases m <;> simp_all [toPy, PyData.eqv, eqv, shal]
  | n, m, .ref _, b, h, h' => by cases n <;> simp [shal] at h
  | n, m, .gl _, b, h, h' => by cases n <;> simp [shal] at h
  | n, m, .scr _, b, h, h' => by cases n <;> simp [shal] at h
  | n, m, .opq, b, h, h' => by cases n <;> simp [shal] at h
theorem eqvs_of : ∀ {n m : Nat} (a b : List D), shal.shals n a = true → shal.shals m b = true → PyData.eqvAll (toPys a) (toPys b) = eqvs a b
  | n, m, [], b, h, h' => by cases b <;> simp [toPys, PyData.eqvAll, eqvs]
  | n, m, x :: xs, b, h, h' => by
    cases b with
    | nil => simp [toPys, PyData.eqvAll, eqvs]
    | cons y ys =>
      simp only [shal.shals, Bool.and_eq_true] at h h'
      simp only [toPys, PyData.eqvAll, eqvs]
      rw [eqv_of (n := n) (m := m) x y h.1 h'.1, eqvs_of (n := n) (m := m) xs ys h.2 h'.2]
end
theorem Gd.top {v : V} {d : D} (g : Gd K mu F H S) (r : Rp K mu F H v d) (h : shal 40 (top S d) = true) : Dp K H v (toPy (top S d)) := by
  cases r with
  | @ref n a q =>
    unfold Ev.top at h ⊢
    cases e : S[n]? with
    | none => simp [e, shal] at h
    | some c => cases c with
      | obj _ _ => simp [e, shal] at h
      | lst xs =>
      simp only [e] at h ⊢
      obtain ⟨vs, h1, h2⟩ := g.ref q e
      exact .lst (.inl (.inl h1)) (dps_of (n := 39) (by simpa [shal] using h) h2)
  | tup q t => exact dp_of h (.tup q t)
  | lst q t => exact dp_of h (.lst q t)
  | scr q t => simp [Ev.top, shal] at h
  | opq q => simp [Ev.top, shal] at h
  | gl q => simp [Ev.top, shal] at h
  | _ => exact dp_of (mu := mu) (F := F) h (by constructor)
end
end Ev
set_option maxHeartbeats 4000000
/-! Ev: tuple * int, with an int below 2 -/
namespace Ev
open PySem PySem.Spec
open PyProof.Rows L2
theorem tuple_mul1 (l : Addr) (items : Array Value) (n : Nat) (dd : Option Addr) (sl : Array (Option Value)) (x : Int) (u : Tok) (c0 : (decide (x < -(2 ^ 63)) || decide (x ≥ 2 ^ 63)) = false) (c1 : (items.isEmpty || x == 1) = true) :
    Meets (Builtin.«tuple.__mul__» ⟨[.ref l, .int x u], []⟩) (fun _ R s => s.heap.get? l = some { cls := .type "tuple", dict := dd, data := .seq items n, slots := sl } ∧ R (.ok (.ret (.ref l))) s) :=
  .of_wp fun prog w A R s h => by
    obtain ⟨hp, g, d, tk, os⟩ := s
    obtain ⟨hl, h⟩ := h
    have f1 := AutoSeq1.idx_int
    wp_walk using wpAny_loadPart' hl
    repeat (first
      | (refine wpAny_ite_false (decide_eq_false (by rw [c0]; exact Bool.false_ne_true)) ?_; wp_walk using wpAny_loadPart' hl)
      | (refine wpAny_ite_true (decide_eq_true c1) ?_; wp_walk using wpAny_loadPart' hl))
    exact ⟨_, rfl, h⟩
theorem tuple_mul0 (l : Addr) (items : Array Value) (n : Nat) (dd : Option Addr) (sl : Array (Option Value)) (x : Int) (u : Tok) (c0 : (decide (x < -(2 ^ 63)) || decide (x ≥ 2 ^ 63)) = false) (c1 : (items.isEmpty || x == 1) = false) (c2 : (decide (x ≤ 0) || items.isEmpty) = true) :
    Meets (Builtin.«tuple.__mul__» ⟨[.ref l, .int x u], []⟩) (fun _ R s => s.heap.get? l = some { cls := .type "tuple", dict := dd, data := .seq items n, slots := sl } ∧
      R (.ok (.ret (Value.ref s.heap.objs.size))) { s with heap := s.heap.push { cls := Value.type "tuple", data := Data.seq #[] }, toks := s.toks }) :=
  .of_wp fun prog w A R s h => by
    obtain ⟨hp, g, d, tk, os⟩ := s
    obtain ⟨hl, h⟩ := h
    have f1 := AutoSeq1.idx_int
    wp_walk using wpAny_loadPart' hl
    repeat (first
      | (refine wpAny_ite_false (decide_eq_false (by rw [c0]; exact Bool.false_ne_true)) ?_; wp_walk using wpAny_loadPart' hl)
      | (refine wpAny_ite_false (decide_eq_false (by rw [c1]; exact Bool.false_ne_true)) ?_; wp_walk using wpAny_loadPart' hl)
      | (refine wpAny_ite_true (decide_eq_true c2) ?_; wp_walk using wpAny_loadPart' hl))
    exact ⟨_, rfl, h⟩
section
variable {X : Cx}
theorem op_repT1 : OpR X (binaryOp .Mult) (fun x y H Q => ∃ l k xs, x = V.ref l ∧ y = V.int k ∧ SqT X.K H l xs ∧ -(2 ^ 63) ≤ k ∧ k < 2 ^ 63 ∧ (xs = [] ∨ k = 1) ∧ Q (.ref l) H) := by
  intro pins s σ H x y v u Q I rx ry h
  obtain ⟨l, k, xs, rfl, rfl, hT, h1, h2, h3, q⟩ := h
  cases rx
  obtain ⟨t, rfl⟩ := ry
  obtain ⟨its, r, ⟨⟨cls, dd, data, sl⟩, ho, hc, n, hd⟩, hs⟩ := I.tuple hT
  simp only at hc hd
  subst hc hd
  have c0 : (decide (k < -(2 ^ 63)) || decide (k ≥ 2 ^ 63)) = false := by
    rw [decide_eq_false (by omega), decide_eq_false (by omega)] <;> rfl
  have c1 : (its.toArray.isEmpty || k == 1) = true := by
    rcases h3 with rfl | rfl
    · cases r; rfl
    · simp
  refine wpAny_binaryOp_repeat_ref (T := "tuple") (U := "int") (by decide) ⟨_, ho, rfl⟩ (fun s' => typeIs_int s' k t) noFill_tuple_mul F.fills_int_mul F.slot_int_rmul repeat_tuple F.slot_int_index.lookup
    (call_meets F.slot_int_rmul (typeIs_int s k t) F.entry_int_rmul (F.args_int_rmul_2 _ _) (int_rmul_tuple k t l its.toArray n dd sl)
      ⟨ho, rfl, ⟨_, ho, rfl⟩, call_meets F.slot_tuple_mul ⟨_, ho, rfl⟩ F.entry_tuple_mul (F.args_tuple_mul_2 _ _) (tuple_mul1 l its.toArray n dd sl k t c0 c1) ⟨ho, ?_⟩⟩)
  exact ⟨.ref l, _, I, rfl, q⟩
theorem op_repT0 : OpR X (binaryOp .Mult) (fun x y H Q => ∃ l k xs, x = V.ref l ∧ y = V.int k ∧ SqT X.K H l xs ∧ xs ≠ [] ∧ -(2 ^ 63) ≤ k ∧ k ≤ 0 ∧ ∀ p, H p = none → Q (.ref p) (upd H p (.tup []))) := by
  intro pins s σ H x y v u Q I rx ry h
  obtain ⟨l, k, xs, rfl, rfl, hT, hne, h1, h2, q⟩ := h
  cases rx
  obtain ⟨t, rfl⟩ := ry
  obtain ⟨its, r, ⟨⟨cls, dd, data, sl⟩, ho, hc, n, hd⟩, hs⟩ := I.tuple hT
  simp only at hc hd
  subst hc hd
  have hle : its.length = xs.length := r.length.symm
  have hi : its.toArray.isEmpty = false := by
    cases its with
    | nil => exact absurd (List.eq_nil_of_length_eq_zero hle.symm) hne
    | cons a b => rfl
  have c0 : (decide (k < -(2 ^ 63)) || decide (k ≥ 2 ^ 63)) = false := by
    rw [decide_eq_false (by omega), decide_eq_false (by omega)] <;> rfl
  have c1 : (its.toArray.isEmpty || k == 1) = false := by
    rw [hi, Bool.false_or]
    exact beq_eq_false_iff_ne.mpr (by omega)
  have c2 : (decide (k ≤ 0) || its.toArray.isEmpty) = true := by
    rw [decide_eq_true h2] <;> rfl
  refine wpAny_binaryOp_repeat_ref (T := "tuple") (U := "int") (by decide) ⟨_, ho, rfl⟩ (fun s' => typeIs_int s' k t) noFill_tuple_mul F.fills_int_mul F.slot_int_rmul repeat_tuple F.slot_int_index.lookup
    (call_meets F.slot_int_rmul (typeIs_int s k t) F.entry_int_rmul (F.args_int_rmul_2 _ _) (int_rmul_tuple k t l its.toArray n dd sl)
      ⟨ho, rfl, ⟨_, ho, rfl⟩, call_meets F.slot_tuple_mul ⟨_, ho, rfl⟩ F.entry_tuple_mul (F.args_tuple_mul_2 _ _) (tuple_mul0 l its.toArray n dd sl k t c0 c1 c2) ⟨ho, ?_⟩⟩)
  refine ⟨.ref s.heap.objs.size, _, I.laid (t' := s.toks) (o := .tup []) (fun b ob q => Heap.get?_push_of_some _ q) (Nat.le_refl _) ?_, rfl, q _ (I.hok.fresh (Nat.le_refl _))⟩
  exact ⟨by rw [sizeLine_eq]; show 0 ≤ _; omega, _, .nil, IsTup.new _ _⟩
end
end Ev
/-! Ev: the rules by values -/
namespace Ev
open PySem PySem.Spec
open PyProof.Rows L2
variable [LamN]

theorem LIM_eq : LIM = sizeLine := by rw [sizeLine_eq]; rfl
/-- two values at a heap that an operation takes to the end -/
def R2of (K : PySem.W.Frag) (f : D → D → M D) : R2 := fun v w H Q => ∃ mu F S x y PX, Gd K mu F H S ∧ Rp K mu F H v x ∧ Rp K mu F H w y ∧ WY (f x y S) (Po K mu F H Q) PX
def RLof (K : PySem.W.Frag) (f : List D → M D) : List V → Hp → VK → Prop := fun vs H Q => ∃ mu F S xs PX, Gd K mu F H S ∧ Rps K mu F H vs xs ∧ WY (f xs S) (Po K mu F H Q) PX
section
variable {X : Cx}
theorem Rp.int_inv {K : PySem.W.Frag} {mu F : List Addr} {H : Hp} {v : V} {i : Int} (r : Rp K mu F H v (.int i)) : v = .int i := by cases r; rfl
theorem Rp.bl_inv {K : PySem.W.Frag} {mu F : List Addr} {H : Hp} {v : V} {i : Bool} (r : Rp K mu F H v (.bl i)) : v = .bl i := by cases r; rfl

/-! ### raw rules for ints of any size -/
def CDivG (i j : Int) : Prop := j ≠ 0 ∧ j.natAbs.log2 < 9000
theorem op_fdivG : OpR X (binaryOp .FloorDiv) (rI CDivG fun i j => .int (i.fdiv j)) := opI fun i j _ _ _ _ _ hc q => floordiv_int hc.1 q (.inl (PyProof.noPylong_of_log2 hc.2))
def CPowG (i j : Int) : Prop := 0 ≤ j ∧ (Builtin.Int.intBits i : Int) * j ≤ 2 ^ 27
theorem op_powG : OpR X (binaryOp .Pow) (rI CPowG fun i j => .int (i ^ j.toNat)) := opI fun _ _ _ _ _ _ _ hc q => pow_int hc.1 hc.2 q

def opO : Op2 → Operator
  | .add => .Add | .sub => .Sub | .mul => .Mult | .fdiv => .FloorDiv | .mod => .Mod | .pow => .Pow | .shl => .LShift | .shr => .RShift | .band => .BitAnd | .bor => .BitOr | .bxor => .BitXor
theorem doOp_some {o : Op2} {m : Bool} {x y d : D} {S : Store} {P : D → Store → Prop} {PX : PXT} (h : op2 S o x y = some d) (hw : WY (doOp o m x y S) P PX) : P d S := by
  unfold doOp at hw; rw [h] at hw; exact hw
theorem doOp_none {o : Op2} {m : Bool} {x y : D} {S : Store} {P : D → Store → Prop} {PX : PXT} (h : op2 S o x y = none) (hw : WY (doOp o m x y S) P PX) : ∃ ds, op2L S o x y = some ds ∧ WY (mkL m ds S) P PX := by
  unfold doOp at hw; rw [h] at hw
  cases e : op2L S o x y with
  | none => simp only [e] at hw; exact hw.elim
  | some ds => simp only [e] at hw; exact ⟨ds, rfl, hw⟩
/-- an operation on two ints -/
theorem opI_ok {o : Op2} {m : Bool} {r : R2} (ho : OpR X (binaryOp (opO o)) r) (hr : ∀ i j d S, op2 S o (.int i) (.int j) = some d → ∃ k, d = .int k ∧ ∀ H Q, Q (.int k) H → r (.int i) (.int j) H Q)
    {i j : Int} {pins : List (Addr × Obj)} {s : Shared} {σ : L2.St} {H : Hp} {v u : Value} {Q : VK} (I : Inv X pins σ H s) (rx : RelV (.int i) v) (ry : RelV (.int j) u) {mu F : List Addr} {S : Store} (g : Gd X.K mu F H S)
    (hl : op2L S o (.int i) (.int j) = none) {PX : PXT} (hw : WY (doOp o m (.int i) (.int j) S) (Po X.K mu F H Q) PX) : wpAny (model X.prog X.w) X.A (binaryOp (opO o) v u) (EP X pins σ Q) X.xe s := by
  cases e : op2 S o (.int i) (.int j) with
  | none =>
    obtain ⟨ds, h1, _⟩ := doOp_none e hw
    rw [hl] at h1; cases h1
  | some d =>
    obtain ⟨k, rfl, h⟩ := hr i j d S e
    exact ho pins s σ H _ _ v u Q I rx ry (h H Q ((doOp_some e hw).flat g (.int k)))
theorem lstOf_int {S : Store} {i : Int} : lstOf S (.int i) = none := rfl
theorem op2L_int (S : Store) (o : Op2) (i j : Int) : op2L S o (.int i) (.int j) = none := by cases o <;> rfl
theorem op_int_ok {o : Op2} {m : Bool} {i j : Int} {pins : List (Addr × Obj)} {s : Shared} {σ : L2.St} {H : Hp} {v u : Value} {Q : VK} (I : Inv X pins σ H s) (rx : RelV (.int i) v) (ry : RelV (.int j) u) {mu F : List Addr} {S : Store} (g : Gd X.K mu F H S)
    {PX : PXT} (hw : WY (doOp o m (.int i) (.int j) S) (Po X.K mu F H Q) PX) : wpAny (model X.prog X.w) X.A (binaryOp (opO o) v u) (EP X pins σ Q) X.xe s := by
  have hl := op2L_int S o i j
  cases o with
  | add => exact opI_ok (o := .add) op_add (fun i j d S h => ⟨i + j, by simpa [op2] using h.symm, fun H Q q => ⟨i, j, rfl, rfl, q⟩⟩) I rx ry g hl hw
  | sub => exact opI_ok (o := .sub) op_sub (fun i j d S h => ⟨i - j, by simpa [op2] using h.symm, fun H Q q => ⟨i, j, rfl, rfl, q⟩⟩) I rx ry g hl hw
  | mul => exact opI_ok (o := .mul) op_mulW (fun i j d S h => by
      simp only [op2, oInt_eq] at h
      split at h
      · rename_i hb
        exact ⟨i * j, (Option.some.inj h).symm, fun H Q q => ⟨i, j, rfl, rfl, by simpa [big2, CMulW] using hb, q⟩⟩
      · cases h) I rx ry g hl hw
  | fdiv => exact opI_ok (o := .fdiv) op_fdivG (fun i j d S h => by
      simp only [op2, oInt_eq] at h
      split at h
      · rename_i hb
        simp only [divOk, Bool.and_eq_true, bne_iff_ne, ne_eq, decide_eq_true_eq] at hb
        refine ⟨_, (Option.some.inj h).symm, fun H Q q => ⟨i, j, rfl, rfl, hb, ?_⟩⟩
        split at q
        · show Q (.int (i.fdiv j)) H
          rw [Int.fdiv_eq_ediv_of_nonneg i (by omega)]; exact q
        · exact q
      · cases h) I rx ry g hl hw
  | mod => exact opI_ok (o := .mod) op_modN (fun i j d S h => by
      simp only [op2, oInt_eq] at h
      split at h
      · rename_i hb
        simp only [bne_iff_ne, ne_eq] at hb
        refine ⟨_, (Option.some.inj h).symm, fun H Q q => ⟨i, j, rfl, rfl, hb, ?_⟩⟩
        split at q
        · show Q (.int (i.fmod j)) H
          rw [Int.fmod_eq_emod_of_nonneg i (by omega)]; exact q
        · exact q
      · cases h) I rx ry g hl hw
  | pow => exact opI_ok (o := .pow) op_powG (fun i j d S h => by
      simp only [op2, oInt_eq] at h
      split at h
      · rename_i hb
        simp only [Bool.and_eq_true, decide_eq_true_eq] at hb
        exact ⟨_, (Option.some.inj h).symm, fun H Q q => ⟨i, j, rfl, rfl, ⟨hb.1, hb.2⟩, q⟩⟩
      · cases h) I rx ry g hl hw
  | shl => exact opI_ok (o := .shl) op_shl (fun i j d S h => by
      simp only [op2, oInt_eq] at h
      split at h
      · rename_i hb
        simp only [Bool.and_eq_true, decide_eq_true_eq] at hb
        exact ⟨_, (Option.some.inj h).symm, fun H Q q => ⟨i, j, rfl, rfl, ⟨hb.1.1, hb.1.2, hb.2⟩, q⟩⟩
      · cases h) I rx ry g hl hw
  | shr => exact opI_ok (o := .shr) op_shr (fun i j d S h => by
      simp only [op2, oInt_eq] at h
      split at h
      · rename_i hb
        simp only [decide_eq_true_eq] at hb
        exact ⟨_, (Option.some.inj h).symm, fun H Q q => ⟨i, j, rfl, rfl, hb, q⟩⟩
      · cases h) I rx ry g hl hw
  | band => exact opI_ok (o := .band) op_and (fun i j d S h => ⟨_, by simpa [op2] using h.symm, fun H Q q => ⟨i, j, rfl, rfl, q⟩⟩) I rx ry g hl hw
  | bor => exact opI_ok (o := .bor) op_or (fun i j d S h => ⟨_, by simpa [op2] using h.symm, fun H Q q => ⟨i, j, rfl, rfl, q⟩⟩) I rx ry g hl hw
  | bxor => exact opI_ok (o := .bxor) op_xor (fun i j d S h => ⟨_, by simpa [op2] using h.symm, fun H Q q => ⟨i, j, rfl, rfl, q⟩⟩) I rx ry g hl hw
theorem op_sub_bb : OpR X (binaryOp .Sub) (fun x y H Q => ∃ i k, x = .bl i ∧ y = .bl k ∧ Q (.int (b2i i - b2i k)) H) := by
  intro pins s σ H x y v u Q I rx ry h
  obtain ⟨i, k, rfl, rfl, q⟩ := h
  cases rx
  cases ry
  exact sub_bool ⟨.int (b2i i - b2i k), H, I.tok _, ⟨_, rfl⟩, q⟩
/-- the operations that are carried -/
theorem op_ok (o : Op2) (m : Bool) : OpR X (binaryOp (opO o)) (R2of X.K (doOp o m)) := by
  intro pins s σ H v w u1 u2 Q I r1 r2 h
  obtain ⟨mu, F, S, x, y, PX, g, rx, ry, hw⟩ := h
  cases e : op2 S o x y with
  | some d =>
    have q := doOp_some e hw
    unfold op2 at e
    split at e
    all_goals first
      | (rw [rx.int_inv] at r1; rw [ry.int_inv] at r2; exact op_int_ok (m := m) I r1 r2 g hw)
      | skip
    · -- bool - bool
      rw [rx.bl_inv] at r1; rw [ry.bl_inv] at r2
      rw [oInt_eq] at e
      cases e
      exact op_sub_bb pins s σ H _ _ u1 u2 Q I r1 r2 ⟨_, _, rfl, rfl, Po.flat g (.int _) q⟩
    · -- text + text
      rename_i t1 t2
      split at e
      · rename_i hz
        cases e
        cases rx
        cases ry
        exact op_add_str pins s σ H _ _ u1 u2 Q I r1 r2 ⟨_, _, rfl, rfl, by rw [← LIM_eq]; exact hz, Po.flat g (.str _) q⟩
      · cases e
    · -- tuple + tuple
      rename_i xs ys
      split at e
      · rename_i hz
        rw [lsK_eq] at e
        cases e
        cases rx with
        | @tup a vs _ qa ta =>
          cases ry with
          | @tup b ws _ qb tb =>
            refine op_catA pins s σ H _ _ u1 u2 Q I r1 r2 ⟨a, b, vs, ws, rfl, rfl, qa, qb, by rw [ta.length, tb.length, ← LIM_eq]; exact hz, fun h => ?_, fun h0 h => ?_, fun _ _ => Po.tup g (ta.append tb) q⟩
            · subst h
              cases ta
              exact Po.flat g (.tup qb tb) q
            · subst h
              cases tb
              rw [List.append_nil] at q
              exact Po.flat g (.tup qa ta) q
      · cases e
    · -- tuple * int
      rename_i xs k
      split at e
      · rename_i hz
        simp only [Bool.and_eq_true, decide_eq_true_eq, Bool.or_eq_true, List.isEmpty_iff] at hz
        obtain ⟨⟨h0, h1⟩, h2⟩ := hz
        cases e
        rw [ry.int_inv] at r2
        cases rx with
        | @tup a vs _ qa ta =>
          refine op_repT1 pins s σ H _ _ u1 u2 Q I r1 r2 ⟨a, k, vs, rfl, rfl, qa, h0, h1, h2.imp_left fun h => ?_, q _ _ _ (Xt.refl _ _) g (.tup qa ta)⟩
          subst h
          cases ta; rfl
      split at e
      · rename_i hz
        simp only [Bool.and_eq_true, decide_eq_true_eq, Bool.not_eq_true', List.isEmpty_eq_false_iff] at hz
        obtain ⟨⟨h0, h1⟩, h2⟩ := hz
        cases e
        rw [ry.int_inv] at r2
        cases rx with
        | @tup a vs _ qa ta =>
          refine op_repT0 pins s σ H _ _ u1 u2 Q I r1 r2 ⟨a, k, vs, rfl, rfl, qa, fun h => ?_, h1, h2, Po.tup g .nil q⟩
          subst h
          cases ta
          exact h0 rfl
      split at e
      · rename_i hz
        simp only [Bool.and_eq_true, decide_eq_true_eq, Bool.not_eq_true', List.isEmpty_eq_false_iff] at hz
        obtain ⟨⟨⟨h0, h1⟩, h2⟩, h3⟩ := hz
        rw [lsK_eq] at e
        cases e
        rw [ry.int_inv] at r2
        cases rx with
        | @tup a vs _ qa ta =>
          refine op_repT pins s σ H _ _ u1 u2 Q I r1 r2 ⟨a, k, vs, rfl, rfl, qa, fun h => ?_, h1, h2, by rw [ta.length]; exact h3, Po.tup g (ta.repl _) q⟩
          subst h
          cases ta
          exact h0 rfl
      · cases e
    · rw [oInt_eq] at e
      cases e
      rw [rx.int_inv] at r1; rw [ry.bl_inv] at r2
      obtain ⟨t1, rfl⟩ := r1
      cases r2
      exact PySem.add_int_bool ⟨.int _, H, I.tok _, ⟨_, rfl⟩, Po.flat g (.int _) q⟩
    · rw [oInt_eq] at e
      cases e
      rw [rx.int_inv] at r1; rw [ry.bl_inv] at r2
      obtain ⟨t1, rfl⟩ := r1
      cases r2
      exact PySem.IntBool.sub_int_bool ⟨.int _, H, I.tok _, ⟨_, rfl⟩, Po.flat g (.int _) q⟩
    · rw [oInt_eq] at e
      cases e
      rw [rx.int_inv] at r1; rw [ry.bl_inv] at r2
      obtain ⟨t1, rfl⟩ := r1
      cases r2
      exact PySem.IntBool.mul_int_bool ⟨.int _, H, I.tok _, ⟨_, rfl⟩, Po.flat g (.int _) q⟩
    · rw [oInt_eq] at e
      cases e
      rw [rx.bl_inv] at r1; rw [ry.int_inv] at r2
      obtain ⟨t2, rfl⟩ := r2
      cases r1
      exact PySem.IntBool.add_bool_int ⟨.int _, H, I.tok _, ⟨_, rfl⟩, Po.flat g (.int _) q⟩
    · rw [oInt_eq] at e
      cases e
      rw [rx.bl_inv] at r1; rw [ry.int_inv] at r2
      obtain ⟨t2, rfl⟩ := r2
      cases r1
      exact PySem.IntBool.sub_bool_int ⟨.int _, H, I.tok _, ⟨_, rfl⟩, Po.flat g (.int _) q⟩
    · rw [oInt_eq] at e
      cases e
      rw [rx.bl_inv] at r1; rw [ry.int_inv] at r2
      obtain ⟨t2, rfl⟩ := r2
      cases r1
      exact PySem.IntBool.mul_bool_int ⟨.int _, H, I.tok _, ⟨_, rfl⟩, Po.flat g (.int _) q⟩
    · cases e
  | none =>
    obtain ⟨ds, h1, h2⟩ := doOp_none e hw
    cases o <;> simp only [op2L] at h1 <;> first | (cases h1; done) | skip
    · cases e1 : lstOf S x with
      | none => rw [e1] at h1; cases h1
      | some xs =>
        cases e2 : lstOf S y with
        | none => rw [e1, e2] at h1; cases h1
        | some ys =>
          rw [e1, e2] at h1
          simp only [Option.bind_some] at h1
          split at h1
          · rename_i hz
            cases h1
            obtain ⟨a, vs, rfl, ha, ra⟩ := g.list rx e1
            obtain ⟨b, ws, rfl, hb, rb⟩ := g.list ry e2
            exact op_cat pins s σ H _ _ u1 u2 Q I r1 r2 ⟨a, b, vs, ws, rfl, rfl, ha, hb, by rw [ra.length, rb.length, ← LIM_eq]; exact hz, mkL_ok g (ra.append rb) h2⟩
          · cases h1
    · cases y with
      | int k =>
        cases e1 : lstOf S x with
        | none => simp [e1] at h1
        | some xs =>
          simp only [e1, Option.bind_some] at h1
          split at h1
          · rename_i hz
            simp only [Bool.and_eq_true, decide_eq_true_eq] at hz
            cases h1
            rw [ry.int_inv] at r2
            obtain ⟨a, vs, rfl, ha, ra⟩ := g.list rx e1
            exact op_rep pins s σ H _ _ u1 u2 Q I r1 r2 ⟨a, k, vs, rfl, rfl, ha, hz.1.1, hz.1.2, by rw [ra.length, ← LIM_eq]; exact hz.2, mkL_ok g (ra.repl _) h2⟩
          · cases h1
      | _ => simp at h1
end
end Ev
/-! Ev: comparisons, items, slices, built-ins by values -/
namespace Ev
open PySem PySem.Spec
open PyProof.Rows L2
variable [LamN]
section
variable {X : Cx}
def cmO : Cm → CmpOp
  | .eq => .Eq | .ne => .NotEq | .lt => .Lt | .le => .LtE | .gt => .Gt | .ge => .GtE | .is_ => .Is | .isnot => .IsNot | .in_ => .In | .notin => .NotIn
theorem flat_rp {K : PySem.W.Frag} {mu F : List Addr} {H : Hp} {v : V} {d : D} (r : Rp K mu F H v d) (h : shal 0 d = true) : flatV v = true := by
  cases r <;> first | rfl | simp [shal] at h
theorem flats_rp {K : PySem.W.Frag} {mu F : List Addr} {H : Hp} : ∀ {vs : List V} {ds : List D}, Rps K mu F H vs ds → shal.shals 0 ds = true → vs.all flatV = true
  | _, _, .nil, _ => rfl
  | _, _, .cons r t, h => by
    simp only [shal.shals, Bool.and_eq_true] at h
    simp only [List.all_cons, Bool.and_eq_true]
    exact ⟨flat_rp r h.1, flats_rp t h.2⟩
theorem eqV_rp {K : PySem.W.Frag} {mu F : List Addr} {H : Hp} {v w : V} {d e : D} (r : Rp K mu F H v d) (q : Rp K mu F H w e) (h : shal 0 d = true) (h' : shal 0 e = true) : eqV v w = eqv d e := by
  cases r <;> cases q <;> first | rfl | (simp [shal] at h; done) | (simp [shal] at h'; done)
theorem inV_rp {K : PySem.W.Frag} {mu F : List Addr} {H : Hp} {v : V} {d : D} (r : Rp K mu F H v d) (h : shal 0 d = true) : ∀ {vs : List V} {ds : List D}, Rps K mu F H vs ds → shal.shals 0 ds = true → inV v vs = ds.any fun y => eqv y d
  | _, _, .nil, _ => rfl
  | _, _, .cons q t, h' => by
    simp only [shal.shals, Bool.and_eq_true] at h'
    have ih := inV_rp r h t h'.2
    unfold inV at ih ⊢
    rw [List.any_cons, List.any_cons, ih, eqV_rp q r h'.1 h]
theorem doCmp_some {o : Cm} {x y : D} {S : Store} {P : D → Store → Prop} {PX : PXT} (hw : WY (doCmp o x y S) P PX) : ∃ b, cmp2 S o x y = some b ∧ P (.bl b) S := by
  unfold doCmp at hw
  cases e : cmp2 S o x y with
  | none => simp only [e] at hw; exact hw.elim
  | some b => simp only [e] at hw; exact ⟨b, rfl, hw⟩
theorem non_rp {K : PySem.W.Frag} {mu F : List Addr} {H : Hp} {v : V} {d : D} (r : Rp K mu F H v d) : decide (v = .non) = isNon d := by
  cases r <;> rfl
theorem cmp_ok (o : Cm) (hu : X.A.units + 64 < cLine) : OpR X (compareOp (cmO o)) (R2of X.K (doCmp o)) := by
  intro pins s σ H v w u1 u2 Q I r1 r2 h
  obtain ⟨mu, F, S, x, y, PX, g, rx, ry, hw⟩ := h
  obtain ⟨b, e, q⟩ := doCmp_some hw
  have q' : Q (.bl b) H := Po.flat g (.bl b) q
  unfold cmp2 at e
  split at e
  · split at e
    · rename_i hs
      simp only [Bool.and_eq_true] at hs
      cases e
      refine op_eqD hu pins s σ H _ _ u1 u2 Q I r1 r2 ⟨_, _, g.top rx hs.1, g.top ry hs.2, shaped_of hs.1, shaped_of hs.2, ?_⟩
      rw [eqv_of _ _ hs.1 hs.2]; exact q'
    · cases e
  · split at e
    · rename_i hs
      simp only [Bool.and_eq_true] at hs
      cases e
      refine op_neD hu pins s σ H _ _ u1 u2 Q I r1 r2 ⟨_, _, g.top rx hs.1, g.top ry hs.2, shaped_of hs.1, shaped_of hs.2, ?_⟩
      rw [eqv_of _ _ hs.1 hs.2]; exact q'
    · cases e
  · rw [rx.int_inv] at r1; rw [ry.int_inv] at r2; cases e; rw [ltI_eq] at q'
    exact op_lt pins s σ H _ _ u1 u2 Q I r1 r2 ⟨_, _, rfl, rfl, q'⟩
  · rw [rx.int_inv] at r1; rw [ry.int_inv] at r2; cases e; rw [leI_eq] at q'
    exact op_le pins s σ H _ _ u1 u2 Q I r1 r2 ⟨_, _, rfl, rfl, q'⟩
  · rw [rx.int_inv] at r1; rw [ry.int_inv] at r2; cases e; rw [ltI_eq] at q'
    exact op_gt pins s σ H _ _ u1 u2 Q I r1 r2 ⟨_, _, rfl, rfl, q'⟩
  · rw [rx.int_inv] at r1; rw [ry.int_inv] at r2; cases e; rw [leI_eq] at q'
    exact op_ge pins s σ H _ _ u1 u2 Q I r1 r2 ⟨_, _, rfl, rfl, q'⟩
  · have hn := non_rp rx
    cases ry
    refine op_isN pins s σ H _ _ u1 u2 Q I r1 r2 ⟨rfl, ?_⟩
    rw [hn]
    cases e; exact q'
  · have hn := non_rp rx
    cases ry
    refine op_notN pins s σ H _ _ u1 u2 Q I r1 r2 ⟨rfl, ?_⟩
    rw [hn]
    cases e; exact q'
  · cases e1 : seqOf S y with
    | none => simp [e1] at e
    | some ys =>
      simp only [e1, Option.bind_some] at e
      split at e
      · rename_i hs
        simp only [Bool.and_eq_true] at hs
        cases e
        obtain ⟨a, vs, rfl, ha, ra⟩ := g.seq ry e1
        refine op_in_seq pins s σ H _ _ u1 u2 Q I r1 r2 ⟨a, vs, rfl, ha, flat_rp rx hs.1, flats_rp ra hs.2, ?_⟩
        rw [inV_rp rx hs.1 ra hs.2]; exact q'
      · cases e
  · cases e1 : seqOf S y with
    | none => simp [e1] at e
    | some ys =>
      simp only [e1, Option.bind_some] at e
      split at e
      · rename_i hs
        simp only [Bool.and_eq_true] at hs
        cases e
        obtain ⟨a, vs, rfl, ha, ra⟩ := g.seq ry e1
        refine op_notIn_seq pins s σ H _ _ u1 u2 Q I r1 r2 ⟨a, vs, rfl, ha, flat_rp rx hs.1, flats_rp ra hs.2, ?_⟩
        rw [inV_rp rx hs.1 ra hs.2]; exact q'
      · cases e
  · cases e

/-! ### items -/
theorem ixI_eq (n : Nat) (i : Int) : ixI n i = ixN n i := rfl
theorem ix_ok : IxR X (R2of X.K doIx) := by
  intro value slice pins s σ H v w u1 u2 Q I r1 r2 h hs
  obtain ⟨mu, F, S, x, y, PX, g, rx, ry, hw⟩ := h
  unfold doIx at hw
  split at hw
  · rename_i xs i e
    cases e1 : (ixI xs.length i).bind fun j => nth xs j with
    | none => simp only [e1] at hw; exact hw.elim
    | some d =>
      simp only [e1] at hw
      have hw : Po X.K mu F H Q d S := hw
      obtain ⟨a, vs, rfl, ha, ra⟩ := g.seq rx e
      cases ry
      obtain ⟨j, hj, hd⟩ := Option.bind_eq_some_iff.mp e1
      rw [nth_eq] at hd
      obtain ⟨z, hz, rz⟩ := ra.get hd
      have hat : atI vs i = some z := by
        unfold atI
        rw [ra.length, ← ixI_eq, hj]; exact hz
      have q := Po.flat g rz hw
      rcases ha with ha | ha
      · exact ix_list value slice pins s σ H _ _ u1 u2 Q I r1 r2 ⟨a, vs, i, z, rfl, rfl, ha, hat, q⟩ hs
      · exact ix_tup value slice pins s σ H _ _ u1 u2 Q I r1 r2 ⟨a, vs, i, z, rfl, rfl, ha, hat, q⟩ hs
  · exact hw.elim

/-! ### slices -/
theorem sB_eq (n d : Nat) (o : Option Int) : sB n d o = HT.sIx n d o := by cases o <;> rfl
theorem Rps.cut {K : PySem.W.Frag} {mu F : List Addr} {H : Hp} {vs : List V} {ds : List D} (r : Rps K mu F H vs ds) (lo hi : Option Int) : Rps K mu F H (cutV vs lo hi) (cutD ds lo hi) := by
  unfold cutV cutD
  rw [r.length, sB_eq, sB_eq]
  exact (r.drop _).take _
def RSof (K : PySem.W.Frag) (m : Bool) : V → Option Int → Option Int → Hp → VK → Prop := fun v lo hi H Q => ∃ mu F S x PX, Gd K mu F H S ∧ Rp K mu F H v x ∧ WY (doSl m x lo hi S) (Po K mu F H Q) PX
theorem sl_ok (m : Bool) : SlR X (RSof X.K m) := by
  intro pins s σ H v u vl vu lo hi sl Q I rx hs pl pu h
  obtain ⟨mu, F, S, x, PX, g, r, hw⟩ := h
  cases r with
  | @tup a vs ds q t =>
    have hw : WY (lsK (cutD ds lo hi) fun ys => Rs.ok (.tup ys) S) (Po X.K mu F H Q) PX := hw
    rw [lsK_eq] at hw
    have hw : Po X.K mu F H Q (.tup (cutD ds lo hi)) S := hw
    refine sl_tupA pins s σ H _ u vl vu lo hi sl Q I rx hs pl pu ⟨a, vs, rfl, q, fun hh => ?_, fun _ => Po.tup g (t.cut lo hi) hw⟩
    have e : cutD ds lo hi = ds := by
      unfold cutD
      rw [sB_eq, sB_eq, ← t.length, hh.1, hh.2, List.drop_zero, t.length, Nat.sub_zero, List.take_length]
    rw [e] at hw
    exact Po.flat g (.tup q t) hw
  | _ =>
    all_goals
      unfold doSl at hw
      simp only at hw
      split at hw
      · rename_i xs e
        obtain ⟨a, vs, e1, ha, ra⟩ := g.list (by first | exact Rp.lst ‹_› ‹_› | exact Rp.ref ‹_› | exact Rp.scr ‹_› ‹_› | exact Rp.opq ‹_› | exact Rp.gl ‹_› | constructor) e
        first
          | (cases e1; exact sl_list pins s σ H _ u vl vu lo hi sl Q I rx hs pl pu ⟨_, vs, rfl, .inl (.inl ha), mkL_ok g (ra.cut lo hi) hw⟩)
          | cases e1
      · exact hw.elim

/-! ### built-ins -/
theorem tup_list {its : List Value} {s : Shared} {t : Addr} (h : IsTup s.heap t its.toArray) : s.heap.IsTuple t its.toArray := h
theorem sum_rawT {prog : Program} {w : World} {A : Around} {E : Value → Shared → Prop} {s : Shared} {l : Addr} {its : List Value} {ns : List Int} {Q : Value → Shared → Prop} (hh : A.handled = none) (hl : s.heap.IsTuple l its.toArray) (hi : IntsAre its ns)
    (h : ∀ h' tk t', (∀ b o, s.heap.get? b = some o → h'.get? b = some o) → Q (.int ns.sum t') { s with heap := h', toks := tk }) : wpAny (model prog w) A (call (.builtin "sum") [.ref l]) Q E s := by
  obtain ⟨xs, e⟩ := hi.allInts.items
  have hn : numsOf (intItems xs).toList = ns := by rw [← e]; exact hi.numsOf
  rw [nums_intItems] at hn
  rw [e] at hl
  have hlt : l < s.heap.objs.size := by obtain ⟨o, ho, _⟩ := id hl; exact Heap.lt_size ho
  refine PySem.call_sum_walkG (wpAny_pyIter_tuple hl ?_)
  refine ⟨_, _, _, _, _, _, numAt xs, rfl, Walks.tuple (A := A.in1) hh s.heap.objs.size l (Nat.ne_of_lt hlt) (intItems xs), ⟨⟨_, Heap.get?_push_size _ rfl, rfl, rfl⟩, ?_⟩, fun b hb => ?_, fun _ _ => intItems_at, fun h' tk t' hk => ?_⟩
  · obtain ⟨o, ho, hr⟩ := hl
    exact ⟨o, Heap.get?_push_of_some _ ho, hr⟩
  · show b < (s.heap.push _).objs.size
    rw [Heap.size_push]
    simp only [List.mem_cons, List.not_mem_nil, or_false] at hb
    rcases hb with rfl | rfl
    · exact Nat.lt_succ_self _
    · exact Nat.lt_succ_of_lt hlt
  · have := h h' tk t' fun b o hb => hk b o (fun hm => by
      simp only [List.mem_cons, List.not_mem_nil, or_false] at hm
      subst hm
      exact absurd (Heap.lt_size hb) (Nat.lt_irrefl _)) (Heap.get?_push_of_some _ hb)
    rw [preSum_eq, List.take_of_length_le (by simp [intItems]), hn]
    exact this
theorem cr_sumT (hc : X.calm = true) : CallR X (.builtin "sum") (fun vs H Q => ∃ (a : Addr) (ns : List Int), vs = [V.ref a] ∧ SqT X.K H a (ns.map V.int) ∧ Q (.int ns.sum) H) := by
  intro pins s σ H vs us Q I r h
  obtain ⟨a, ns, rfl, hs, q⟩ := h
  obtain ⟨its, rv, hl, _⟩ := I.tuple hs
  rw [Vals.ref1 r]
  exact sum_rawT (I.ok.hd hc) hl rv.ints fun h' tk t' hk => ⟨.int _, H, I.kept hk, ⟨_, rfl⟩, q⟩
theorem maxI_le : ∀ (r : List Int) (a : Int), a ≤ maxI a r ∧ ∀ y ∈ r, y ≤ maxI a r
  | [], a => ⟨Int.le_refl _, fun y h => nomatch h⟩
  | b :: r, a => by
    unfold maxI
    split
    · have := maxI_le r b
      exact ⟨by omega, fun y hy => by rcases List.mem_cons.mp hy with rfl | hy; exact this.1; exact this.2 y hy⟩
    · have := maxI_le r a
      exact ⟨this.1, fun y hy => by rcases List.mem_cons.mp hy with rfl | hy; omega; exact this.2 y hy⟩
theorem maxI_mem : ∀ (r : List Int) (a : Int), maxI a r ∈ a :: r
  | [], a => List.mem_cons_self
  | b :: r, a => by
    unfold maxI
    split
    · exact List.mem_cons_of_mem _ (maxI_mem r b)
    · rcases List.mem_cons.mp (maxI_mem r a) with h | h
      · rw [h]; exact List.mem_cons_self
      · exact List.mem_cons_of_mem _ (List.mem_cons_of_mem _ h)
theorem minI_le : ∀ (r : List Int) (a : Int), minI a r ≤ a ∧ ∀ y ∈ r, minI a r ≤ y
  | [], a => ⟨Int.le_refl _, fun y h => nomatch h⟩
  | b :: r, a => by
    unfold minI
    split
    · have := minI_le r b
      exact ⟨by omega, fun y hy => by rcases List.mem_cons.mp hy with rfl | hy; exact this.1; exact this.2 y hy⟩
    · have := minI_le r a
      exact ⟨this.1, fun y hy => by rcases List.mem_cons.mp hy with rfl | hy; omega; exact this.2 y hy⟩
theorem minI_mem : ∀ (r : List Int) (a : Int), minI a r ∈ a :: r
  | [], a => List.mem_cons_self
  | b :: r, a => by
    unfold minI
    split
    · exact List.mem_cons_of_mem _ (minI_mem r b)
    · rcases List.mem_cons.mp (minI_mem r a) with h | h
      · rw [h]; exact List.mem_cons_self
      · exact List.mem_cons_of_mem _ (List.mem_cons_of_mem _ h)
def tyName : Ty → String
  | .tNone => "NoneType" | .tBool => "bool" | .tInt => "int" | .tStr => "str" | .tTuple => "tuple" | .tList => "list" | .tDict => "dict"
theorem kitB_ty : ∀ t u : Ty, kitB (tyName t) (tyName u) = some (isI t u) := by
  intro t u
  cases t <;> cases u <;> decide +kernel
theorem tyX_rp {K : PySem.W.Frag} {mu F : List Addr} {H : Hp} {S : Store} {v : V} {d : D} {t : Ty} (g : Gd K mu F H S) (r : Rp K mu F H v d) (h : tyOf S d = some t) : TyX K H v (.type (tyName t)) := by
  cases r with
  | non => cases h; exact .base .non
  | bl b => cases h; exact .base (.bl b)
  | int b => cases h; exact .base (.int b)
  | str b => cases h; exact .base (.str b)
  | tup q _ =>
    cases h
    rcases q with (q | ⟨o, q⟩) | ⟨o, its, n, q, c, _⟩
    · exact .base (.tup q)
    · exact .fTuple q
    · exact .kTuple q c
  | lst q _ => cases h; exact .base (.lst q.1)
  | @ref n a q =>
    cases e : S[n]? with
    | none => simp [tyOf, e] at h
    | some c => cases c with
      | obj _ _ => simp [tyOf, e] at h
      | lst xs =>
        simp only [tyOf, e] at h
        cases h
        obtain ⟨vs, h1, _⟩ := g.ref q e
        exact .base (.lst h1)
  | scr _ _ => cases h
  | opq q => cases h; exact .base (.dK q.1)
  | gl _ => cases h
theorem isi_ok (t : Ty) {v : V} {H : Hp} {Q : VK} {mu F : List Addr} {S : Store} {d : D} {u : Ty} (g : Gd X.K mu F H S) (r : Rp X.K mu F H v d) (h : tyOf S d = some u) (q : Q (.bl (isI u t)) H) : rIsi X.K [v, .ty (tyName t)] H Q :=
  ⟨v, _, _, _, _, rfl, .ty _, tyX_rp g r h, kit_ty (kitB_ty u t), q⟩

/-- what is called by a built-in's name -/
def biF : Bi → Value
  | .len => .builtin "len" | .int => .type "int" | .abs => .builtin "abs" | .max2 => .builtin "max" | .min2 => .builtin "min" | .maxL => .builtin "max" | .minL => .builtin "min"
  | .sum => .builtin "sum" | .all => .builtin "all" | .any => .builtin "any" | .list => .type "list" | .tuple => .type "tuple" | .gcd => .builtin "math.gcd" | .divmod => .builtin "divmod"
  | .sortedI => .builtin "sorted" | .repr => .builtin "repr" | _ => .none
theorem vals_ref {K : PySem.W.Frag} {mu F : List Addr} {H : Hp} {vs : List V} {d : D} (r : Rps K mu F H vs [d]) : ∃ v, vs = [v] ∧ Rp K mu F H v d := by
  cases r with
  | cons r t => cases t; exact ⟨_, rfl, r⟩
theorem vals_ref2 {K : PySem.W.Frag} {mu F : List Addr} {H : Hp} {vs : List V} {d e : D} (r : Rps K mu F H vs [d, e]) : ∃ v w, vs = [v, w] ∧ Rp K mu F H v d ∧ Rp K mu F H w e := by
  cases r with
  | cons r t => obtain ⟨w, rfl, q⟩ := vals_ref t; exact ⟨_, w, rfl, r, q⟩
theorem insI_perm (x : Int) : ∀ l : List Int, (insI x l).Perm (x :: l)
  | [] => List.Perm.refl _
  | y :: r => by
    unfold insI
    split
    · exact List.Perm.refl _
    · exact ((insI_perm x r).cons y).trans (List.Perm.swap x y r)
theorem sortI_perm : ∀ l : List Int, (sortI l).Perm l
  | [] => List.Perm.refl _
  | x :: r => (insI_perm x (sortI r)).trans ((sortI_perm r).cons x)
theorem insI_sorted (x : Int) : ∀ l : List Int, l.Pairwise (· ≤ ·) → (insI x l).Pairwise (· ≤ ·)
  | [], _ => by simp [insI]
  | y :: r, h => by
    unfold insI
    rw [List.pairwise_cons] at h
    split
    · rename_i hx
      rw [List.pairwise_cons]
      refine ⟨fun z hz => ?_, List.pairwise_cons.mpr h⟩
      rcases List.mem_cons.mp hz with rfl | hz
      · exact hx
      · exact Int.le_trans hx (h.1 z hz)
    · rename_i hx
      rw [List.pairwise_cons]
      refine ⟨fun z hz => ?_, insI_sorted x r h.2⟩
      rcases List.mem_cons.mp ((insI_perm x r).mem_iff.mp hz) with rfl | hz
      · omega
      · exact h.1 z hz
theorem sortI_sorted : ∀ l : List Int, (sortI l).Pairwise (· ≤ ·)
  | [] => List.Pairwise.nil
  | x :: r => insI_sorted x _ (sortI_sorted r)
theorem sorted_eq {l l' : List Int} (p : l.Perm l') (h : l.Pairwise (· ≤ ·)) (h' : l'.Pairwise (· ≤ ·)) : l = l' := p.eq_of_pairwise (fun a b _ _ h1 h2 => Int.le_antisymm h1 h2) h h'
/-! ### tuples of ints, sorted -/
theorem tcode_eq (B : Int) : ∀ ns, tcode B ns = TS.code B ns
  | [] => rfl
  | d :: r => by
    show d * B ^ r.length + tcode B r = d * B ^ r.length + TS.code B r
    rw [tcode_eq B r]
theorem tcode_inj {B : Int} : ∀ {a b : List Int}, a.length = b.length → TS.Bd B a → TS.Bd B b → TS.code B a = TS.code B b → a = b
  | [], [], _, _, _, _ => rfl
  | [], _ :: _, h, _, _, _ => by simp at h
  | _ :: _, [], h, _, _, _ => by simp at h
  | x :: a, y :: b, h, ha, hb, e => by
    have hl : a.length = b.length := by simpa using h
    rcases Int.lt_trichotomy x y with q | q | q
    · have := TS.code_lt hl ha.tail hb.tail q
      omega
    · subst q
      have e' : x * B ^ a.length + TS.code B a = x * B ^ b.length + TS.code B b := e
      rw [hl] at e'
      rw [tcode_inj hl ha.tail hb.tail (by omega)]
    · have := TS.code_lt hl.symm hb.tail ha.tail q
      omega
theorem insT_perm (B : Int) (x : List Int) : ∀ l : List (List Int), (insT B x l).Perm (x :: l)
  | [] => List.Perm.refl _
  | y :: r => by
    unfold insT
    split
    · exact List.Perm.refl _
    · exact ((insT_perm B x r).cons y).trans (List.Perm.swap x y r)
theorem sortT_perm (B : Int) : ∀ l : List (List Int), (sortT B l).Perm l
  | [] => List.Perm.refl _
  | x :: r => (insT_perm B x (sortT B r)).trans ((sortT_perm B r).cons x)
theorem insT_sorted (B : Int) (x : List Int) : ∀ l : List (List Int), l.Pairwise (fun a b => tcode B a ≤ tcode B b) → (insT B x l).Pairwise (fun a b => tcode B a ≤ tcode B b)
  | [], _ => by simp [insT]
  | y :: r, h => by
    unfold insT
    rw [List.pairwise_cons] at h
    split
    · rename_i hx
      rw [List.pairwise_cons]
      refine ⟨fun z hz => ?_, List.pairwise_cons.mpr h⟩
      rcases List.mem_cons.mp hz with rfl | hz
      · exact hx
      · exact Int.le_trans hx (h.1 z hz)
    · rename_i hx
      rw [List.pairwise_cons]
      refine ⟨fun z hz => ?_, insT_sorted B x r h.2⟩
      rcases List.mem_cons.mp ((insT_perm B x r).mem_iff.mp hz) with rfl | hz
      · omega
      · exact h.1 z hz
theorem sortT_sorted (B : Int) : ∀ l : List (List Int), (sortT B l).Pairwise (fun a b => tcode B a ≤ tcode B b)
  | [] => List.Pairwise.nil
  | x :: r => insT_sorted B x _ (sortT_sorted B r)
theorem perm_lift {α β : Type} {f : α → β} {ys zs : List β} (h : ys.Perm zs) : ∀ l : List α, l.map f = zs → ∃ l' : List α, l'.Perm l ∧ l'.map f = ys := by
  induction h with
  | nil => exact fun l e => ⟨l, .refl _, e⟩
  | cons x h ih =>
    intro l e
    match l, e with
    | a :: l, e =>
      rw [List.map_cons] at e
      injection e with e1 e2
      obtain ⟨l', h1, h2⟩ := ih l e2
      exact ⟨a :: l', h1.cons a, by rw [List.map_cons, h2, e1]⟩
  | swap x y r =>
    intro l e
    match l, e with
    | a :: b :: l, e =>
      rw [List.map_cons, List.map_cons] at e
      injection e with e1 e2
      injection e2 with e2 e3
      exact ⟨b :: a :: l, .swap a b l, by rw [List.map_cons, List.map_cons, e1, e2, e3]⟩
  | trans h1 h2 ih1 ih2 =>
    intro l e
    obtain ⟨l1, p1, e1⟩ := ih2 l e
    obtain ⟨l2, p2, e2⟩ := ih1 l1 e1
    exact ⟨l2, p2.trans p1, e2⟩
theorem map_inj_on {α β : Type} {f : α → β} : ∀ {l l' : List α}, (∀ a b, a ∈ l → b ∈ l' → f a = f b → a = b) → l.map f = l'.map f → l = l'
  | [], [], _, _ => rfl
  | [], _ :: _, _, e => by simp at e
  | _ :: _, [], _, e => by simp at e
  | a :: l, b :: l', h, e => by
    rw [List.map_cons, List.map_cons] at e
    injection e with e1 e2
    rw [h a b (by simp) (by simp) e1, map_inj_on (fun a b ha hb => h a b (List.mem_cons_of_mem _ ha) (List.mem_cons_of_mem _ hb)) e2]
theorem tupsI_zip {K : PySem.W.Frag} {mu F : List Addr} {H : Hp} : ∀ {xs : List V} {ds : List D} {nss : List (List Int)}, Rps K mu F H xs ds → tupsI ds = some nss → ∃ l : List (V × List Int), l.map (·.1) = xs ∧ l.map (·.2) = nss ∧ ∀ p ∈ l, TupI K H p.1 p.2 ∧ Rp K mu F H p.1 (.tup (p.2.map D.int))
  | _, _, nss, .nil, h => by
    have h : some [] = some nss := h
    cases h
    exact ⟨[], rfl, rfl, fun p hp => by simp at hp⟩
  | _, _, nss, .cons (v := v) (d := d) r rs, h => by
    unfold tupsI at h
    split at h
    · cases ‹_ = []›
    · rename_i xs' r' e
      cases e
      split at h
      · rename_i a b e1 e2
        cases h
        obtain ⟨l, h1, h2, h3⟩ := tupsI_zip rs e2
        cases r with
        | @tup t vs _ q rt =>
          have e3 := Rps.of_ints rt e1
          subst e3
          refine ⟨(.ref t, a) :: l, by rw [List.map_cons, h1], by rw [List.map_cons, h2], fun p hp => ?_⟩
          rcases List.mem_cons.mp hp with rfl | hp
          · exact ⟨⟨t, rfl, q⟩, .tup q (Rps.ints a)⟩
          · exact h3 p hp
      · cases h
    · cases h
theorem rps_of_zip {K : PySem.W.Frag} {mu F : List Addr} {H : Hp} : ∀ {l : List (V × List Int)}, (∀ p ∈ l, Rp K mu F H p.1 (.tup (p.2.map D.int))) → Rps K mu F H (l.map (·.1)) (l.map fun p => D.tup (p.2.map D.int))
  | [], _ => .nil
  | p :: l, h => .cons (h p (by simp)) (rps_of_zip fun q hq => h q (List.mem_cons_of_mem _ hq))
theorem sortT_rps {K : PySem.W.Frag} {mu F : List Addr} {H : Hp} {d : Nat} {B : Int} {xs ys : List V} {nss : List (List Int)} {l : List (V × List Int)} (e1 : l.map (·.1) = xs) (e2 : l.map (·.2) = nss) (hl : ∀ p ∈ l, TupI K H p.1 p.2 ∧ Rp K mu F H p.1 (.tup (p.2.map D.int)))
    (hb : ∀ ns ∈ nss, ns.length = d ∧ TS.Bd B ns) (hp : ys.Perm xs) (hs : ys.Pairwise (fun x y => ∀ n m, TupI K H x n → TupI K H y m → TS.code B n ≤ TS.code B m)) : Rps K mu F H ys ((sortT B nss).map fun ns => D.tup (ns.map D.int)) := by
  obtain ⟨l', p1, rfl⟩ := perm_lift hp l e1
  have hl' : ∀ p ∈ l', TupI K H p.1 p.2 ∧ Rp K mu F H p.1 (.tup (p.2.map D.int)) := fun p hp => hl p (p1.mem_iff.mp hp)
  have pn : (l'.map (·.2)).Perm nss := by rw [← e2]; exact p1.map _
  rw [List.pairwise_map] at hs
  have s1 : (l'.map (·.2)).Pairwise (fun a b => tcode B a ≤ tcode B b) := by
    rw [List.pairwise_map]
    refine List.Pairwise.imp_of_mem (fun {p q} hp hq h => ?_) hs
    rw [tcode_eq, tcode_eq]
    exact h _ _ (hl' p hp).1 (hl' q hq).1
  have e3 : l'.map (·.2) = sortT B nss := by
    refine map_inj_on (f := tcode B) (fun a b ha hb' h => ?_) (sorted_eq ((pn.trans (sortT_perm B nss).symm).map _) (List.pairwise_map.mpr s1) (List.pairwise_map.mpr (sortT_sorted B nss)))
    have q1 := hb a (pn.mem_iff.mp ha)
    have q2 := hb b ((sortT_perm B nss).mem_iff.mp hb')
    rw [tcode_eq, tcode_eq] at h
    exact tcode_inj (q1.1.trans q2.1.symm) q1.2 q2.2 h
  rw [← e3, List.map_map]
  exact rps_of_zip fun p hp => (hl' p hp).2
theorem tsOk_ok {B : Int} {nss : List (List Int)} (h : tsOk B nss = true) : ∃ d, 1 ≤ d ∧ nss.length < 64 ∧ ∀ ns ∈ nss, ns.length = d ∧ TS.Bd B ns := by
  unfold tsOk at h
  split at h
  · cases h
  · rename_i n0 r
    simp only [Bool.and_eq_true, List.all_eq_true, decide_eq_true_eq] at h
    obtain ⟨⟨h1, h2⟩, h3⟩ := h
    refine ⟨n0.length, Nat.le_of_ble_eq_true h2, by have := Nat.lt_of_lt_of_le (Nat.lt_succ_self r.length) (Nat.le_of_ble_eq_true h1); rw [List.length_cons]; omega, fun ns hn => ?_⟩
    have := h3 ns hn
    exact ⟨Nat.eq_of_beq_eq_true this.1, fun m hm => this.2 m hm⟩
theorem depth_le {d : D} (h : shal 40 d = true) : (toPy d).depth ≤ 40 := depth_of h
/-- repr(e) -/
theorem repr_ok (hgd : X.A.guards = some []) (hu : X.A.units + 64 < cLine) : CallR X (.builtin "repr") (fun vs H Q => ∃ v d, vs = [v] ∧ Dp X.K H v d ∧ d.showable = true ∧ d.hasDict = false ∧ d.shown.length ≤ 1000000 ∧ d.depth ≤ 40 ∧ Q (.str d.shown) H) := by
  intro pins s σ H vs us Q I rv h
  obtain ⟨v, d, rfl, hd, hs, hh, hl, hdp, q⟩ := h
  obtain ⟨u, rfl, ru⟩ := vals1 rv
  have hsz : d.shown.length ≤ sizeLine := by rw [sizeLine_eq]; omega
  have big : ∀ {a : Addr}, v = .ref a → wpAny (model X.prog X.w) X.A (PySem.call (.builtin "repr") [u]) (EP X pins σ Q) X.xe s := fun {a} ev => by
    obtain ⟨as, rd⟩ := Dp.reads I d v u hd ru
    subst ev
    obtain rfl : u = .ref a := ru
    exact repr_of_reads' rd hs (fun e => by rw [hh] at e; cases e) hgd (by omega) (fun _ _ e => e) (fun h' t tk k => ⟨.str _, H, I.kept k, ⟨_, rfl⟩, q⟩) hsz
  cases hd with
  | non =>
    obtain rfl : u = .none := ru
    exact PySem.P.repr_of_none ⟨.str _, H, I.tok _, ⟨_, rfl⟩, q⟩
  | bl b =>
    obtain rfl : u = .bool b := ru
    exact PySem.P.repr_of_bool ⟨.str _, H, I.tok _, ⟨_, rfl⟩, q⟩
  | int i =>
    obtain ⟨t, rfl⟩ := ru
    exact PySem.P.repr_of_int (by simpa [PyData.showable] using hs) ⟨.str _, H, I.tok _, ⟨_, rfl⟩, q⟩
  | str x =>
    obtain ⟨t, rfl⟩ := ru
    exact PySem.P.repr_of_str ⟨.str _, H, I.tok _, ⟨_, rfl⟩, q⟩ hsz
  | lst _ _ => exact big rfl
  | tup _ _ => exact big rfl
theorem reprD_some {d : D} {t : Str} (h : reprD d = some t) : shal 40 d = true ∧ (toPy d).showable = true ∧ (toPy d).hasDict = false ∧ (toPy d).shown.length ≤ 1000000 ∧ (toPy d).shown = t := by
  unfold reprD at h
  split at h
  · rename_i z
    simp only [Bool.and_eq_true, Bool.not_eq_true', Nat.ble_eq] at z
    cases h
    exact ⟨z.1.1.1, z.1.1.2, z.1.2, z.2, rfl⟩
  · cases h
theorem bi_ok (k : Bi) (m : Bool) (hc : X.calm = true) (hgd : X.A.guards = some []) (hu : X.A.units + 64 < cLine) (hk : biF k ≠ .none) : CallR X (biF k) (RLof X.K (doBi k m)) := by
  intro pins s σ H vs us Q I rv h
  obtain ⟨mu, F, S, xs, PX, g, r, hw⟩ := h
  have q0 : ∀ {d : D} {v : V}, WY (Rs.ok d S) (Po X.K mu F H Q) PX → Rp X.K mu F H v d → Q v H := fun {d v} h r => Po.flat g r (show Po X.K mu F H Q d S from h)
  unfold doBi at hw
  simp only [rInt_eq] at hw
  split at hw
  · obtain ⟨v, rfl, r1⟩ := vals_ref r
    split at hw
    · rename_i e
      obtain ⟨a, ws, rfl, ha, ra⟩ := g.seq r1 e
      refine call_len_seq pins s σ H _ us Q I rv ⟨a, ws, rfl, ha, ?_⟩
      rw [ra.length]; exact q0 hw (.int _)
    · exact hw.elim
  · obtain ⟨v, rfl, r1⟩ := vals_ref r
    cases r1
    exact call_int1 pins s σ H _ us Q I rv (.inl ⟨_, rfl, q0 hw (.int _)⟩)
  · obtain ⟨v, rfl, r1⟩ := vals_ref r
    cases r1
    exact call_int1 pins s σ H _ us Q I rv (.inr ⟨_, rfl, q0 hw (.int _)⟩)
  · obtain ⟨v, rfl, r1⟩ := vals_ref r
    cases r1
    exact call_abs pins s σ H _ us Q I rv ⟨_, rfl, q0 hw (.int _)⟩
  · obtain ⟨v, w, rfl, r1, r2⟩ := vals_ref2 r
    cases r1; cases r2
    exact call_max2 hc pins s σ H _ us Q I rv ⟨_, _, rfl, q0 hw (.int _)⟩
  · obtain ⟨v, w, rfl, r1, r2⟩ := vals_ref2 r
    cases r1; cases r2
    exact call_min2 hc pins s σ H _ us Q I rv ⟨_, _, rfl, q0 hw (.int _)⟩
  · obtain ⟨v, rfl, r1⟩ := vals_ref r
    split at hw
    · rename_i e
      obtain ⟨a, ws, rfl, ha, ra⟩ := g.list r1 e
      split at hw
      · rename_i i l ei
        refine cr_max hc pins s σ H _ us Q I rv ⟨a, i :: l, rfl, .inl (.inl (by rw [← ra.of_ints ei]; exact ha)), by simp, fun x hx hx2 => ?_⟩
        have e1 : x = maxI i l := Int.le_antisymm (by rcases List.mem_cons.mp hx with rfl | h; exact (maxI_le l _).1; exact (maxI_le l _).2 x h) (hx2 _ (maxI_mem l i))
        rw [e1]; exact q0 hw (.int _)
      · exact hw.elim
    · exact hw.elim
  · obtain ⟨v, rfl, r1⟩ := vals_ref r
    split at hw
    · rename_i e
      obtain ⟨a, ws, rfl, ha, ra⟩ := g.list r1 e
      split at hw
      · rename_i i l ei
        refine cr_min hc pins s σ H _ us Q I rv ⟨a, i :: l, rfl, .inl (.inl (by rw [← ra.of_ints ei]; exact ha)), by simp, fun x hx hx2 => ?_⟩
        have e1 : x = minI i l := Int.le_antisymm (hx2 _ (minI_mem l i)) (by rcases List.mem_cons.mp hx with rfl | h; exact (minI_le l _).1; exact (minI_le l _).2 x h)
        rw [e1]; exact q0 hw (.int _)
      · exact hw.elim
    · exact hw.elim
  · obtain ⟨v, rfl, r1⟩ := vals_ref r
    split at hw
    · rename_i e
      obtain ⟨a, ws, rfl, ha, ra⟩ := g.seq r1 e
      split at hw
      · rename_i is ei
        rcases ha with ha | ha
        · exact cr_sum hc pins s σ H _ us Q I rv ⟨a, is, rfl, by rw [← ra.of_ints ei]; exact ha, q0 hw (.int _)⟩
        · exact cr_sumT hc pins s σ H _ us Q I rv ⟨a, is, rfl, by rw [← ra.of_ints ei]; exact ha, q0 hw (.int _)⟩
      · exact hw.elim
    · exact hw.elim
  · obtain ⟨v, rfl, r1⟩ := vals_ref r
    split at hw
    · rename_i e
      obtain ⟨a, ws, rfl, ha, ra⟩ := g.list r1 e
      split at hw
      · rename_i bs ei
        exact cr_all hc pins s σ H _ us Q I rv ⟨a, bs, rfl, .inl (.inl (by rw [← ra.of_bls ei]; exact ha)), q0 hw (.bl _)⟩
      · exact hw.elim
    · exact hw.elim
  · obtain ⟨v, rfl, r1⟩ := vals_ref r
    split at hw
    · rename_i e
      obtain ⟨a, ws, rfl, ha, ra⟩ := g.list r1 e
      split at hw
      · rename_i bs ei
        exact cr_any hc pins s σ H _ us Q I rv ⟨a, bs, rfl, .inl (.inl (by rw [← ra.of_bls ei]; exact ha)), q0 hw (.bl _)⟩
      · exact hw.elim
    · exact hw.elim
  · obtain ⟨v, rfl, r1⟩ := vals_ref r
    split at hw
    · rename_i e
      obtain ⟨a, ws, rfl, ha, ra⟩ := g.seq r1 e
      exact call_list_of pins s σ H _ us Q I rv ⟨a, ws, rfl, ha, mkL_ok g ra hw⟩
    · exact hw.elim
  · obtain ⟨v, rfl, r1⟩ := vals_ref r
    split at hw
    · rename_i xs e
      have hw : Po X.K mu F H Q (.tup xs) S := hw
      obtain ⟨a, ws, rfl, ha, ra⟩ := g.seq r1 e
      rcases ha with ha | ha
      · exact call_tuple_of pins s σ H _ us Q I rv ⟨a, ws, rfl, .inl ⟨ha, Po.tup g ra hw⟩⟩
      · exact call_tuple_of pins s σ H _ us Q I rv ⟨a, ws, rfl, .inr ⟨ha, Po.flat g (.tup ha ra) hw⟩⟩
    · exact hw.elim
  · exact absurd rfl hk
  · obtain ⟨v, rfl, r1⟩ := vals_ref r
    split at hw
    · rename_i t e
      obtain ⟨e1, e2, e3, e4, e5⟩ := reprD_some e
      exact repr_ok hgd hu pins s σ H _ us Q I rv ⟨v, _, rfl, g.top r1 e1, e2, e3, e4, depth_le e1, by rw [e5]; exact q0 hw (.str _)⟩
    · exact hw.elim
  · obtain ⟨v, w, rfl, r1, r2⟩ := vals_ref2 r
    cases r1; cases r2
    exact cr_gcd pins s σ H _ us Q I rv ⟨_, _, rfl, q0 hw (.int _)⟩
  · obtain ⟨v, w, rfl, r1, r2⟩ := vals_ref2 r
    cases r1; cases r2
    split at hw
    · rename_i hd
      simp only [Bool.and_eq_true, decide_eq_true_eq] at hd
      simp only [intK_eq] at hw
      refine call_divmod pins s σ H _ us Q I rv ⟨_, _, rfl, hd, Po.tup g (.cons (.int _) (.cons (.int _) .nil)) (show Po X.K mu F H Q _ S from hw)⟩
    · exact hw.elim
  · exact absurd rfl hk
  · exact absurd rfl hk
  · exact absurd rfl hk
  · exact absurd rfl hk
  · obtain ⟨v, rfl, r1⟩ := vals_ref r
    split at hw
    · rename_i e
      obtain ⟨a, ws, rfl, ha, ra⟩ := g.list r1 e
      split at hw
      · rename_i is ei
        refine cr_sortedI pins s σ H _ us Q I rv ⟨a, is, rfl, .inl (.inl (by rw [← ra.of_ints ei]; exact ha)), fun ns p hp hs hn => ?_⟩
        have e1 : ns = sortI is := sorted_eq (hp.trans (sortI_perm is).symm) hs (sortI_sorted is)
        rw [e1]
        exact mkL_ok g (Rps.ints _) hw p hn
      · split at hw
        · rename_i nss en
          split at hw
          · rename_i ok
            obtain ⟨d, hd, h64, hb⟩ := tsOk_ok ok
            obtain ⟨l, l1, l2, l3⟩ := tupsI_zip ra en
            have hlen : ws.length = nss.length := by rw [← l1, ← l2, List.length_map, List.length_map]
            refine cr_sortT (B := tsB nss) hd pins s σ H _ us Q I rv ⟨a, ws, rfl, .inl (.inl ha), by rw [hlen]; exact h64, fun x hx => ?_, fun ys p hp hs hn => ?_⟩
            · rw [← l1] at hx
              obtain ⟨q, hq, rfl⟩ := List.mem_map.mp hx
              exact ⟨q.2, (l3 q hq).1, hb q.2 (by rw [← l2]; exact List.mem_map.mpr ⟨q, hq, rfl⟩)⟩
            · exact mkL_ok g (sortT_rps l1 l2 l3 hb hp hs) hw p hn
          · exact hw.elim
        · exact hw.elim
    · exact hw.elim
  · exact hw.elim
end
end Ev
/-! Ev: enumerate and zip of lists and tuples in any mix -/
namespace Ev
open PySem PySem.Spec
open PyProof.Rows L2
variable [LamN]

/-- a list (true) or a tuple (false) that is read -/
def SqK (K : PySem.W.Frag) (H : Hp) : Bool → Addr → List V → Prop
  | true, a, xs => SqL K H a xs
  | false, a, xs => SqT K H a xs
def ItK (h : Heap) (it a : Addr) (i : Nat) : Bool → Prop
  | true => h.IsListIter it a i
  | false => h.IsTupleIter it a i
def AtK (h : Heap) (a : Addr) (its : Array Value) : Bool → Prop
  | true => h.IsList a its
  | false => h.IsTuple a its
def bgO (a : Addr) : Bool → Obj
  | true => { cls := .type "list_iterator", data := .fields #[.ref a, .int 0 0] }
  | false => { cls := .type "tuple_iterator", data := .fields #[.ref a, .int 0 0] }
theorem drawK {prog : Program} {w : World} {A : Around} (b : Bool) (hh : A.handled = none) (it a : Addr) (hne : a ≠ it) (items : Array Value) :
    Draws prog w A it [it, a] items.size (fun i v => items[i]? = some v) (fun i h => ItK h it a i b ∧ AtK h a items b) := by
  cases b with
  | true => exact Draws.list hh it a hne items
  | false => exact Draws.tuple hh it a hne items
theorem begK (b : Bool) (a : Addr) (items : Array Value) : Begins (.ref a) (bgO a b) fun h => AtK h a items b := by
  cases b with
  | true => exact begins_list a items
  | false => exact begins_tuple a items
theorem ItK.new {h : Heap} {it a : Addr} {b : Bool} (e : h.get? it = some (bgO a b)) : ItK h it a 0 b := by
  cases b with
  | true => exact ⟨_, e, rfl, rfl⟩
  | false => exact ⟨_, e, rfl, rfl⟩
theorem ItK.at {h h' : Heap} {it a : Addr} {i : Nat} {b : Bool} (x : ItK h it a i b) (k : ∀ o, h.get? it = some o → h'.get? it = some o) : ItK h' it a i b := by
  cases b with
  | true => exact Heap.IsListIter.at x k
  | false => exact Heap.IsTupleIter.at x k
theorem ItK.obj {h : Heap} {it a : Addr} {i : Nat} {b : Bool} (x : ItK h it a i b) : ∃ o, h.get? it = some o ∧ ∀ v, o.data ≠ .cell v := by
  cases b with
  | true => obtain ⟨o, e, _, d⟩ := x; exact ⟨o, e, fun v q => by rw [d] at q; cases q⟩
  | false => obtain ⟨o, e, _, d⟩ := x; exact ⟨o, e, fun v q => by rw [d] at q; cases q⟩
theorem AtK.lt {h : Heap} {a : Addr} {its : Array Value} {b : Bool} (x : AtK h a its b) : a < h.objs.size := by
  cases b with
  | true => obtain ⟨_, e, _⟩ := x; exact Heap.lt_size e
  | false => obtain ⟨_, e, _⟩ := x; exact Heap.lt_size e
theorem AtK.kept {h h' : Heap} {a : Addr} {its : Array Value} {b : Bool} (x : AtK h a its b) (k : ∀ c o, h.get? c = some o → h'.get? c = some o) : AtK h' a its b := (begK b a its).keeps h h' x k
theorem invK {X : Cx} {pins : List (Addr × Obj)} {σ : L2.St} {H : Hp} {s : Shared} {b : Bool} {a : Addr} {xs : List V} (I : Inv X pins σ H s) (h : SqK X.K H b a xs) : ∃ its : List Value, Vals xs its ∧ AtK s.heap a its.toArray b ∧ xs.length ≤ sizeLine := by
  cases b with
  | true => obtain ⟨its, r, p, z⟩ := I.list h; exact ⟨its, r, p.isList, z⟩
  | false => obtain ⟨its, r, p, z⟩ := I.tuple h; exact ⟨its, r, p, z⟩
theorem invK_inj {X : Cx} {pins : List (Addr × Obj)} {σ : L2.St} {H : Hp} {s : Shared} {b : Bool} {a : Addr} {xs ys : List V} (I : Inv X pins σ H s) (h : SqK X.K H b a xs) (h' : SqK X.K H b a ys) : xs = ys := by
  cases b with
  | true => exact I.list_inj h h'
  | false => exact I.tuple_inj h h'

/-- turns that give new tuples; row tells them -/
def ItC (row : Nat → Hp → List V → Prop) (stop : Nat → Hp → Prop) : It :=
  ⟨fun i H => ∃ ys, row i H ys, fun i H v H' => ∃ T xs, v = .ref T ∧ H T = none ∧ H' = upd H T (.tup xs) ∧ ∀ ys, row i H ys → ys = xs, stop⟩
theorem turn_W {P : Program} {w : World} {K : PySem.W.Frag} {elts : List Expr} {kk : Nat} {tpos : Pos} {row : Nat → Hp → List V → Prop} {stop : Nat → Hp → Prop} {fp : List Addr} {it : Addr} {tn : Nat → Heap → Prop} (mem : it ∈ fp)
    (obj : ∀ i h, tn i h → ∀ b ∈ fp, ∃ o, h.get? b = some o ∧ ∀ v, o.data ≠ .cell v) (keep : ∀ i h h', tn i h → (∀ b ∈ fp, ∀ o, h.get? b = some o → h'.get? b = some o) → tn i h')
    (self : ∀ (A : Around) (i : Nat) (s : Shared) (Q : Value → Shared → Prop) (E : Value → Shared → Prop), tn i s.heap → Q (.ref it) s → wpAny (model P w) A (pyIter (.ref it)) Q E s)
    (view : ∀ (X : Cx), X.prog = P → X.w = w → X.K = K → X.A.handled = none → ∀ (i : Nat) (pins : List (Addr × Obj)) (s : Shared) (σ : L2.St) (H : Hp), Inv X pins σ H s → tn i s.heap → ((∃ ys, row i H ys) ∨ stop i H) →
      ∃ (fpW wr : List Addr) (n : Nat) (Pt : Nat → Array Value → Prop) (St : Nat → Heap → Prop) (Mid : Nat → Addr → Heap → Prop), WalksT P w X.A it fpW wr n Pt St Mid ∧ (∀ b ∈ wr, b ∈ fp) ∧ St i s.heap ∧ (∀ j h', St j h' → tn j h') ∧
        ((∃ ys, row i H ys) → i < n) ∧ (stop i H → i = n) ∧ ∀ vals, Pt i vals → ∃ ys, ys.length ≤ sizeLine ∧ Vals ys vals.toList ∧ ∀ zs, row i H zs → zs = ys) :
    Turn P w K (.Tuple elts kk tpos) (ItC row stop) fp it tn where
  mem := mem
  obj := obj
  keep := keep
  self := self
  item := by
    intro X hP hw hK hc i pins s σ H E I hf st hg
    obtain ⟨fpW, wr, n, Pt, St, Mid, W, hwr, hst, htn, hlt, _, hv⟩ := view X hP hw hK (I.ok.hd hc) i pins s σ H I st (.inl hg)
    subst hP hw hK
    refine W.item i s _ E (hlt hg) hst fun T vals h' tk hp hT hIT hM hk => ?_
    obtain ⟨ys, hz, rv, hrow⟩ := hv vals hp
    refine ⟨_, rfl, W.go elts kk tpos i T { s with heap := h', toks := tk } _ E hM fun h'' hs'' hk'' => ?_⟩
    obtain ⟨o, ho, hcl, m, hd⟩ := hIT
    have ho'' : h''.get? T = some o := hk'' T o (W.apart i T h' hM) ho
    have new : ObjOk X.prog X.w (upd H T (.tup ys)) h'' T (.tup ys) := ⟨hz, vals.toList, rv, o, ho'', hcl, m, by simpa using hd⟩
    have I1 : Inv X pins σ (upd H T (.tup ys)) { s with heap := h'', toks := tk } :=
      I.turnedNew (t' := tk) (ch := fp) (fun b ob hb q => hk'' b ob (fun z => hb (hwr b z)) (hk b ob (fun z => hb (hwr b z)) q)) hf hT new
    refine ⟨.ref T, _, I1, rfl, ⟨T, ys, rfl, I.hok.fresh hT, rfl, hrow⟩, htn _ _ hs'', fun b hb => ?_⟩
    obtain ⟨ob, hob, _⟩ := obj i s.heap st b hb
    rw [upd_ne (Nat.ne_of_lt (Nat.lt_of_lt_of_le (Heap.lt_size hob) hT))]
    exact (hf b hb).1
  done := by
    intro X hP hw hK hc i pins s σ H E I hf st hg
    obtain ⟨fpW, wr, n, Pt, St, Mid, W, hwr, hst, htn, _, hend, _⟩ := view X hP hw hK (I.ok.hd hc) i pins s σ H I st (.inr hg)
    subst hP hw hK
    have e := hend hg
    subst e
    exact W.done s _ E hst fun h' tk hk => ⟨rfl, I.turnedL (t' := tk) (ch := fp) (fun b ob hb q => hk b ob (fun z => hb (hwr b z)) q) hf⟩

/-! ### enumerate -/
def rowE (K : PySem.W.Frag) (b : Bool) (a : Addr) : Nat → Hp → List V → Prop := fun i H ys => ∃ xs x, SqK K H b a xs ∧ xs[i]? = some x ∧ ys = [.int (i : Nat), x]
def stopE (K : PySem.W.Frag) (b : Bool) (a : Addr) : Nat → Hp → Prop := fun i H => ∃ xs, SqK K H b a xs ∧ xs.length = i
theorem turn_enumK {P : Program} {w : World} {K : PySem.W.Frag} {elts : List Expr} {kk : Nat} {tpos : Pos} (b : Bool) (a e it : Addr) (hei : e ≠ it) (hae : e ≠ a) (hai : a ≠ it) :
    Turn P w K (.Tuple elts kk tpos) (ItC (rowE K b a) (stopE K b a)) [e, it] e (fun i h => (∃ old, IsEnum h e it (0 + (i : Int)) old) ∧ ItK h it a i b) := by
  refine turn_W (by simp) (fun i h st c hc => ?_) (fun i h h' st k => ?_) (fun A i s Q E st h => ?_) (fun X hP hw hK hh i pins s σ H I st hg => ?_)
  · obtain ⟨⟨old, he⟩, hi⟩ := st
    have e' : c = e ∨ c = it := by simpa using hc
    rcases e' with rfl | rfl
    · exact ⟨_, he, fun v q => nomatch q⟩
    · exact hi.obj
  · obtain ⟨⟨old, he⟩, hi⟩ := st
    exact ⟨⟨old, k e (by simp) _ he⟩, hi.at fun o q => k it (by simp) o q⟩
  · obtain ⟨⟨old, he⟩, _⟩ := st
    exact wpAny_pyIter_enum he h
  · subst hP hw hK
    have hx : ∃ xs, SqK X.K H b a xs := by
      rcases hg with ⟨ys, xs, x, h, _⟩ | ⟨xs, h, _⟩ <;> exact ⟨xs, h⟩
    obtain ⟨xs, hx⟩ := hx
    obtain ⟨its, rv, hat, hz⟩ := invK I hx
    have W := WalksT.enumFrom (prog := X.prog) (w := X.w) (A := X.A) 0 (drawK (prog := X.prog) (w := X.w) (A := X.A.in1) b hh it a hai its.toArray) e hei (by simp [hei, hae]) (by simp)
    have hl := rv.length
    refine ⟨_, _, _, _, _, _, W, fun c hc => hc, ⟨st.1, st.2, hat⟩, fun j h' q => ⟨q.1, q.2.1⟩, fun ⟨ys, xs', x, h1, h2, _⟩ => ?_, fun ⟨xs', h1, h2⟩ => ?_, fun vals hv => ?_⟩
    · rw [invK_inj I h1 hx] at h2
      rw [List.size_toArray, ← hl]
      exact (List.getElem?_eq_some_iff.mp h2).1
    · rw [invK_inj I h1 hx] at h2
      rw [List.size_toArray, ← hl, h2]
    · obtain ⟨t, x, h1, rfl⟩ := hv
      rcases hg with ⟨ys, xs', x', g1, g2, rfl⟩ | ⟨xs', g1, g2⟩
      · rw [invK_inj I g1 hx] at g2
        obtain ⟨u, hu, ru⟩ := rv.get g2
        have e1 : u = x := by
          have : its.toArray[i]? = some u := by simpa using hu
          rw [this] at h1; exact Option.some.inj h1
        subst e1
        refine ⟨[.int (i : Nat), x'], by show 2 ≤ sizeLine; decide, .cons ⟨t, by simp⟩ (.cons ru .nil), fun zs ⟨ws, y, q1, q2, q3⟩ => ?_⟩
        rw [invK_inj I q1 hx, g2] at q2
        cases q2
        exact q3
      · rw [invK_inj I g1 hx] at g2
        have : its.toArray[i]? = none := by simp; omega
        rw [this] at h1; cases h1

/-! ### zip of 2 -/
def row2 (K : PySem.W.Frag) (b1 b2 : Bool) (a1 a2 : Addr) : Nat → Hp → List V → Prop := fun i H ys => ∃ xs1 xs2 x1 x2, SqK K H b1 a1 xs1 ∧ SqK K H b2 a2 xs2 ∧ xs1[i]? = some x1 ∧ xs2[i]? = some x2 ∧ ys = [x1, x2]
def stop2 (K : PySem.W.Frag) (b1 b2 : Bool) (a1 a2 : Addr) : Nat → Hp → Prop := fun i H => ∃ xs1 xs2, SqK K H b1 a1 xs1 ∧ SqK K H b2 a2 xs2 ∧ min xs1.length xs2.length = i
theorem turn_zipK2 {P : Program} {w : World} {K : PySem.W.Frag} {elts : List Expr} {kk : Nat} {tpos : Pos} (b1 b2 : Bool) {a1 a2 z TI TO i1 i2 : Addr} (Z : ZipSep2 z TI TO i1 i2 [i1, a1] [i2, a2]) (h1 : a1 ≠ i1) (h2 : a2 ≠ i2) :
    Turn P w K (.Tuple elts kk tpos) (ItC (row2 K b1 b2 a1 a2) (stop2 K b1 b2 a1 a2)) [z, TI, TO, i1, i2] z (fun i h => IsZip h z TI TO .none ∧ IsTupOf2 h TI (.ref i1) (.ref i2) ∧ (∃ v1 v2, IsTupOf2 h TO v1 v2) ∧ ItK h i1 a1 i b1 ∧ ItK h i2 a2 i b2) := by
  refine turn_W (by simp) (fun i h st c hc => ?_) (fun i h h' st k => ?_) (fun A i s Q E st h => ?_) (fun X hP hw hK hh i pins s σ H I st hg => ?_)
  · obtain ⟨hz, hTI, ⟨v1, v2, hTO⟩, hi1, hi2⟩ := st
    have e' : c = z ∨ c = TI ∨ c = TO ∨ c = i1 ∨ c = i2 := by simpa using hc
    rcases e' with rfl | rfl | rfl | rfl | rfl
    · exact ⟨_, hz, fun v q => nomatch q⟩
    · exact ⟨_, hTI, fun v q => nomatch q⟩
    · exact ⟨_, hTO, fun v q => nomatch q⟩
    · exact hi1.obj
    · exact hi2.obj
  · obtain ⟨hz, hTI, ⟨v1, v2, hTO⟩, hi1, hi2⟩ := st
    exact ⟨k z (by simp) _ hz, k TI (by simp) _ hTI, ⟨v1, v2, k TO (by simp) _ hTO⟩, hi1.at fun o q => k i1 (by simp) o q, hi2.at fun o q => k i2 (by simp) o q⟩
  · exact wpAny_pyIter_zip st.1 h
  · subst hP hw hK
    have hx : ∃ xs1 xs2, SqK X.K H b1 a1 xs1 ∧ SqK X.K H b2 a2 xs2 := by
      rcases hg with ⟨_, xs1, xs2, x1, x2, g1, g2, _⟩ | ⟨xs1, xs2, g1, g2, _⟩ <;> exact ⟨xs1, xs2, g1, g2⟩
    obtain ⟨xs1, xs2, hx1, hx2⟩ := hx
    obtain ⟨its1, rv1, hat1, hz1⟩ := invK I hx1
    have hl1 := rv1.length
    obtain ⟨its2, rv2, hat2, hz2⟩ := invK I hx2
    have hl2 := rv2.length
    have W := WalksT.zipD2 (prog := X.prog) (w := X.w) (A := X.A) Z (drawK (prog := X.prog) (w := X.w) (A := X.A.in1) b1 hh i1 a1 h1 its1.toArray) (drawK (prog := X.prog) (w := X.w) (A := X.A.in1) b2 hh i2 a2 h2 its2.toArray)
    obtain ⟨hz, hTI, ⟨v1, v2, hTO⟩, hi1, hi2⟩ := st
    refine ⟨_, _, _, _, _, _, W, fun c hc => ?_, ⟨hz, hTI, ⟨v1, v2, hTO⟩, ⟨hi1, hat1⟩, ⟨hi2, hat2⟩⟩, fun j h' q => ?_, fun ⟨ys, ws1, ws2, x1, x2, g1, g2, k1, k2, _⟩ => ?_, fun ⟨ws1, ws2, g1, g2, q2⟩ => ?_, fun vals hv => ?_⟩
    · have e' : c = z ∨ c = TO ∨ c = i1 ∨ c = i2 := by simpa using hc
      rcases e' with rfl | rfl | rfl | rfl <;> simp
    · obtain ⟨q1, q2, q3, p1, p2⟩ := q
      exact ⟨q1, q2, q3, p1.1, p2.1⟩
    · rw [invK_inj I g1 hx1] at k1; rw [invK_inj I g2 hx2] at k2
      have m1 := (List.getElem?_eq_some_iff.mp k1).1
      have m2 := (List.getElem?_eq_some_iff.mp k2).1
      simp only [List.size_toArray]
      omega
    · rw [invK_inj I g1 hx1, invK_inj I g2 hx2] at q2
      simp only [List.size_toArray]
      omega
    · obtain ⟨y1, y2, r1, r2, rfl⟩ := hv
      rcases hg with ⟨ys, ws1, ws2, x1, x2, g1, g2, k1, k2, rfl⟩ | ⟨ws1, ws2, g1, g2, q2⟩
      · rw [invK_inj I g1 hx1] at k1; rw [invK_inj I g2 hx2] at k2
        obtain ⟨u1, hu1, ru1⟩ := rv1.get k1
        have e1 : u1 = y1 := by
          have : its1.toArray[i]? = some u1 := by simpa using hu1
          rw [this] at r1; exact Option.some.inj r1
        subst e1
        obtain ⟨u2, hu2, ru2⟩ := rv2.get k2
        have e2 : u2 = y2 := by
          have : its2.toArray[i]? = some u2 := by simpa using hu2
          rw [this] at r2; exact Option.some.inj r2
        subst e2
        refine ⟨[x1, x2], by show 2 ≤ sizeLine; decide, .cons ru1 (.cons ru2 (.nil)), fun zs ⟨zs1, zs2, z1, z2, f1, f2, l1, l2, q3⟩ => ?_⟩
        rw [invK_inj I f1 hx1, k1] at l1; cases l1
        rw [invK_inj I f2 hx2, k2] at l2; cases l2
        exact q3
      · rw [invK_inj I g1 hx1, invK_inj I g2 hx2] at q2
        exfalso
        have m1 : i < its1.length := by
          have := (Array.getElem?_eq_some_iff.mp r1).1
          simpa using this
        have m2 : i < its2.length := by
          have := (Array.getElem?_eq_some_iff.mp r2).1
          simpa using this
        omega

/-! ### zip of 3 -/
def row3 (K : PySem.W.Frag) (b1 b2 b3 : Bool) (a1 a2 a3 : Addr) : Nat → Hp → List V → Prop := fun i H ys => ∃ xs1 xs2 xs3 x1 x2 x3, SqK K H b1 a1 xs1 ∧ SqK K H b2 a2 xs2 ∧ SqK K H b3 a3 xs3 ∧ xs1[i]? = some x1 ∧ xs2[i]? = some x2 ∧ xs3[i]? = some x3 ∧ ys = [x1, x2, x3]
def stop3 (K : PySem.W.Frag) (b1 b2 b3 : Bool) (a1 a2 a3 : Addr) : Nat → Hp → Prop := fun i H => ∃ xs1 xs2 xs3, SqK K H b1 a1 xs1 ∧ SqK K H b2 a2 xs2 ∧ SqK K H b3 a3 xs3 ∧ min (min xs1.length xs2.length) xs3.length = i
theorem turn_zipK3 {P : Program} {w : World} {K : PySem.W.Frag} {elts : List Expr} {kk : Nat} {tpos : Pos} (b1 b2 b3 : Bool) {a1 a2 a3 z TI TO i1 i2 i3 : Addr} (Z : ZipSep3 z TI TO i1 i2 i3 [i1, a1] [i2, a2] [i3, a3]) (h1 : a1 ≠ i1) (h2 : a2 ≠ i2) (h3 : a3 ≠ i3) :
    Turn P w K (.Tuple elts kk tpos) (ItC (row3 K b1 b2 b3 a1 a2 a3) (stop3 K b1 b2 b3 a1 a2 a3)) [z, TI, TO, i1, i2, i3] z (fun i h => IsZip h z TI TO .none ∧ IsTupOf3 h TI (.ref i1) (.ref i2) (.ref i3) ∧ (∃ v1 v2 v3, IsTupOf3 h TO v1 v2 v3) ∧ ItK h i1 a1 i b1 ∧ ItK h i2 a2 i b2 ∧ ItK h i3 a3 i b3) := by
  refine turn_W (by simp) (fun i h st c hc => ?_) (fun i h h' st k => ?_) (fun A i s Q E st h => ?_) (fun X hP hw hK hh i pins s σ H I st hg => ?_)
  · obtain ⟨hz, hTI, ⟨v1, v2, v3, hTO⟩, hi1, hi2, hi3⟩ := st
    have e' : c = z ∨ c = TI ∨ c = TO ∨ c = i1 ∨ c = i2 ∨ c = i3 := by simpa using hc
    rcases e' with rfl | rfl | rfl | rfl | rfl | rfl
    · exact ⟨_, hz, fun v q => nomatch q⟩
    · exact ⟨_, hTI, fun v q => nomatch q⟩
    · exact ⟨_, hTO, fun v q => nomatch q⟩
    · exact hi1.obj
    · exact hi2.obj
    · exact hi3.obj
  · obtain ⟨hz, hTI, ⟨v1, v2, v3, hTO⟩, hi1, hi2, hi3⟩ := st
    exact ⟨k z (by simp) _ hz, k TI (by simp) _ hTI, ⟨v1, v2, v3, k TO (by simp) _ hTO⟩, hi1.at fun o q => k i1 (by simp) o q, hi2.at fun o q => k i2 (by simp) o q, hi3.at fun o q => k i3 (by simp) o q⟩
  · exact wpAny_pyIter_zip st.1 h
  · subst hP hw hK
    have hx : ∃ xs1 xs2 xs3, SqK X.K H b1 a1 xs1 ∧ SqK X.K H b2 a2 xs2 ∧ SqK X.K H b3 a3 xs3 := by
      rcases hg with ⟨_, xs1, xs2, xs3, x1, x2, x3, g1, g2, g3, _⟩ | ⟨xs1, xs2, xs3, g1, g2, g3, _⟩ <;> exact ⟨xs1, xs2, xs3, g1, g2, g3⟩
    obtain ⟨xs1, xs2, xs3, hx1, hx2, hx3⟩ := hx
    obtain ⟨its1, rv1, hat1, hz1⟩ := invK I hx1
    have hl1 := rv1.length
    obtain ⟨its2, rv2, hat2, hz2⟩ := invK I hx2
    have hl2 := rv2.length
    obtain ⟨its3, rv3, hat3, hz3⟩ := invK I hx3
    have hl3 := rv3.length
    have W := WalksT.zipD3 (prog := X.prog) (w := X.w) (A := X.A) Z (drawK (prog := X.prog) (w := X.w) (A := X.A.in1) b1 hh i1 a1 h1 its1.toArray) (drawK (prog := X.prog) (w := X.w) (A := X.A.in1) b2 hh i2 a2 h2 its2.toArray) (drawK (prog := X.prog) (w := X.w) (A := X.A.in1) b3 hh i3 a3 h3 its3.toArray)
    obtain ⟨hz, hTI, ⟨v1, v2, v3, hTO⟩, hi1, hi2, hi3⟩ := st
    refine ⟨_, _, _, _, _, _, W, fun c hc => ?_, ⟨hz, hTI, ⟨v1, v2, v3, hTO⟩, ⟨hi1, hat1⟩, ⟨hi2, hat2⟩, ⟨hi3, hat3⟩⟩, fun j h' q => ?_, fun ⟨ys, ws1, ws2, ws3, x1, x2, x3, g1, g2, g3, k1, k2, k3, _⟩ => ?_, fun ⟨ws1, ws2, ws3, g1, g2, g3, q2⟩ => ?_, fun vals hv => ?_⟩
    · have e' : c = z ∨ c = TO ∨ c = i1 ∨ c = i2 ∨ c = i3 := by simpa using hc
      rcases e' with rfl | rfl | rfl | rfl | rfl <;> simp
    · obtain ⟨q1, q2, q3, p1, p2, p3⟩ := q
      exact ⟨q1, q2, q3, p1.1, p2.1, p3.1⟩
    · rw [invK_inj I g1 hx1] at k1; rw [invK_inj I g2 hx2] at k2; rw [invK_inj I g3 hx3] at k3
      have m1 := (List.getElem?_eq_some_iff.mp k1).1
      have m2 := (List.getElem?_eq_some_iff.mp k2).1
      have m3 := (List.getElem?_eq_some_iff.mp k3).1
      simp only [List.size_toArray]
      omega
    · rw [invK_inj I g1 hx1, invK_inj I g2 hx2, invK_inj I g3 hx3] at q2
      simp only [List.size_toArray]
      omega
    · obtain ⟨y1, y2, y3, r1, r2, r3, rfl⟩ := hv
      rcases hg with ⟨ys, ws1, ws2, ws3, x1, x2, x3, g1, g2, g3, k1, k2, k3, rfl⟩ | ⟨ws1, ws2, ws3, g1, g2, g3, q2⟩
      · rw [invK_inj I g1 hx1] at k1; rw [invK_inj I g2 hx2] at k2; rw [invK_inj I g3 hx3] at k3
        obtain ⟨u1, hu1, ru1⟩ := rv1.get k1
        have e1 : u1 = y1 := by
          have : its1.toArray[i]? = some u1 := by simpa using hu1
          rw [this] at r1; exact Option.some.inj r1
        subst e1
        obtain ⟨u2, hu2, ru2⟩ := rv2.get k2
        have e2 : u2 = y2 := by
          have : its2.toArray[i]? = some u2 := by simpa using hu2
          rw [this] at r2; exact Option.some.inj r2
        subst e2
        obtain ⟨u3, hu3, ru3⟩ := rv3.get k3
        have e3 : u3 = y3 := by
          have : its3.toArray[i]? = some u3 := by simpa using hu3
          rw [this] at r3; exact Option.some.inj r3
        subst e3
        refine ⟨[x1, x2, x3], by show 3 ≤ sizeLine; decide, .cons ru1 (.cons ru2 (.cons ru3 (.nil))), fun zs ⟨zs1, zs2, zs3, z1, z2, z3, f1, f2, f3, l1, l2, l3, q3⟩ => ?_⟩
        rw [invK_inj I f1 hx1, k1] at l1; cases l1
        rw [invK_inj I f2 hx2, k2] at l2; cases l2
        rw [invK_inj I f3 hx3, k3] at l3; cases l3
        exact q3
      · rw [invK_inj I g1 hx1, invK_inj I g2 hx2, invK_inj I g3 hx3] at q2
        exfalso
        have m1 : i < its1.length := by
          have := (Array.getElem?_eq_some_iff.mp r1).1
          simpa using this
        have m2 : i < its2.length := by
          have := (Array.getElem?_eq_some_iff.mp r2).1
          simpa using this
        have m3 : i < its3.length := by
          have := (Array.getElem?_eq_some_iff.mp r3).1
          simpa using this
        omega
end Ev
namespace PySem
set_option maxHeartbeats 1000000 in
theorem ev_enumerate_newB {v : Value} {o : Obj} {H : Heap → Prop} (B : Begins v o H) :
    Meets (Builtin.«enumerate.__new__» ⟨[.type "enumerate", v], []⟩) (fun _ R s => H s.heap ∧
      R (.ok (.ret (.ref (s.heap.push o).objs.size))) { s with heap := (s.heap.push o).push { cls := .type "enumerate", data := .fields #[.none, .bool false, .ref s.heap.objs.size, rawInt 0, .none, .none] } }) :=
  .of_wp fun prog w A R s h => by
    obtain ⟨hp, g, d, tk, os⟩ := s; obtain ⟨h1, h⟩ := h
    have hsub := sub_enumerate
    have q1 : ∀ {A' : Around} {E : Value → Shared → Prop} {Q : Value → Shared → Prop}, Q (.ref hp.objs.size) ⟨hp.push o, g, d, tk, os⟩ → wpAny (model prog w) A' (pyIter v) Q E ⟨hp, g, d, tk, os⟩ :=
      fun q => B.iter prog w _ _ ⟨hp, g, d, tk, os⟩ _ h1 q
    wp_walk using q1
    refine wpAny_stack_any fun st => wpAny_pure ?_
    split
    · rename_i c _ _ _ _ _
      cases (c == Value.type "enumerate")
      · wp_walk using q1
        exact ⟨_, rfl, h⟩
      · wp_walk using q1
        exact ⟨_, rfl, h⟩
    · wp_walk using q1
      exact ⟨_, rfl, h⟩
theorem ev_enum_begins {prog : Program} {w : World} {A : Around} {E : Value → Shared → Prop} {s : Shared} {v : Value} {o : Obj} {H : Heap → Prop} {Q : Value → Shared → Prop} (B : Begins v o H) (h1 : H s.heap)
    (h : ∀ h', IsEnum h' (s.heap.objs.size + 1) s.heap.objs.size 0 .none → h'.get? s.heap.objs.size = some o → h'.objs.size = s.heap.objs.size + 2 →
      (∀ b o, s.heap.get? b = some o → h'.get? b = some o) → Q (.ref (s.heap.objs.size + 1)) { s with heap := h' }) :
    wpAny (model prog w) A (call (.type "enumerate") [v]) Q E s := by
  refine callType_new F.called_enumerate (by decide) (F.typeCall_enumerate_1 _) (F.newCall_enumerate_1 _) (fun obj => F.args_object_init_2 obj _) F.entry_enumerate_new
    (ev_enumerate_newB B) ⟨h1, ?_⟩
  have hz : (s.heap.push o).objs.size = s.heap.objs.size + 1 := Heap.size_push ..
  show _ ∧ _
  rw [hz]
  have he : IsEnum ((s.heap.push o).push { cls := .type "enumerate", data := .fields #[.none, .bool false, .ref s.heap.objs.size, rawInt 0, .none, .none] }) (s.heap.objs.size + 1) s.heap.objs.size 0 .none := by
    have := Heap.get?_push_size (s.heap.push o) (o := { cls := .type "enumerate", data := .fields #[.none, .bool false, .ref s.heap.objs.size, rawInt 0, .none, .none] }) rfl
    rw [hz] at this; exact this
  refine ⟨⟨_, he, rfl⟩, h _ he (Heap.get?_push_of_some _ (Heap.get?_push_size _ B.free)) (by rw [Heap.size_push, hz]) fun b o x => Heap.get?_push_of_some _ (Heap.get?_push_of_some _ x)⟩
end PySem
/-! Ev: what a for or a comprehension walks -/
namespace Ev
open PySem PySem.Spec
open PyProof.Rows L2
variable [LamN]
section
variable {X : Cx} {Y : XI}
def iEnK (K : PySem.W.Frag) (ta : TA) : TI := fun σ H R => ta σ H fun vs H1 => ∃ b a, vs = [.ref a] ∧ (∃ xs, SqK K H1 b a xs) ∧ R (ItC (rowE K b a) (stopE K b a)) H1
theorem pi_enK {e : Expr} {ta : TA} {p pos tpos : Pos} {elts : List Expr} {kk : Nat} (hg : Gl X "enumerate") (hm : X.mg "enumerate" = none) (ha : PA X [e] ta) (hs : starEach [e] X.env = [(false, eval e X.env)]) :
    PI X (.Tuple elts kk tpos) (.Call (.Name "enumerate" p) [e] [] pos) (iEnK X.K ta) := by
  refine ⟨fun pins s σ H R I h => ?_⟩
  refine Call_ (ld_blt I hg hm boot_enumerate (PyProof.Rows.callWith_type1 (thn (ha.run pos pins s σ H _ I h) fun us s1 ⟨vs, H1, I1, r1, q1⟩ => ?_) hs rfl))
  obtain ⟨b, a, ex, ⟨xs, hq⟩, q⟩ := q1
  subst ex
  cases r1 with
  | cons r rr =>
    cases rr
    cases r
    obtain ⟨its, rv, hat, hz⟩ := invK I1 hq
    have hlt := hat.lt
    refine PySem.ev_enum_begins (begK b a its.toArray) hat fun h' he hit hsz hk => wpAny_pyIter_enum he ?_
    have I2 : Inv X pins σ H1 { s1 with heap := h' } := I1.kept (t' := s1.toks) hk
    refine ⟨s1.heap.objs.size + 1, [s1.heap.objs.size + 1, s1.heap.objs.size], _, _, H1, rfl, I2, turn_enumK b a (s1.heap.objs.size + 1) s1.heap.objs.size (Nat.succ_ne_self _) (Nat.ne_of_gt (Nat.lt_succ_of_lt hlt)) (Nat.ne_of_lt hlt), ⟨⟨.none, he⟩, ItK.new hit⟩, fun c hc => ?_, q⟩
    have e' : c = s1.heap.objs.size + 1 ∨ c = s1.heap.objs.size := by simpa using hc
    have hle : s1.heap.objs.size ≤ c := by
      rcases e' with z | z
      · rw [z]; exact Nat.le_add_right _ _
      · rw [z]; exact Nat.le_refl _
    exact I1.fpOk hle (I1.hok.fresh hle)
def iZpK (K : PySem.W.Frag) (ta : TA) : TI := fun σ H R => ta σ H fun vs H1 => ∃ b1 b2 a1 a2, vs = [.ref a1, .ref a2] ∧ (∃ xs, SqK K H1 b1 a1 xs) ∧ (∃ xs, SqK K H1 b2 a2 xs) ∧ R (ItC (row2 K b1 b2 a1 a2) (stop2 K b1 b2 a1 a2)) H1
theorem pi_zpK {e e2 : Expr} {ta : TA} {p pos tpos : Pos} {elts : List Expr} {kk : Nat} (hg : Gl X "zip") (hm : X.mg "zip" = none) (ha : PA X [e, e2] ta)
    (hs : starEach [e, e2] X.env = (false, eval e X.env) :: starEach [e2] X.env) (hpl : (backTo pos (starEach [e2] X.env)).any (·.1) = false) :
    PI X (.Tuple elts kk tpos) (.Call (.Name "zip" p) [e, e2] [] pos) (iZpK X.K ta) := by
  refine ⟨fun pins s σ H R I h => ?_⟩
  refine Call_ (ld_blt I hg hm PyProof.Rows.boot_zip (PyProof.Rows.callWith_type1 (thn (ha.run pos pins s σ H _ I h) fun us s1 ⟨vs, H1, I1, r1, q1⟩ => ?_) hs hpl))
  obtain ⟨b1, b2, a1, a2, ex, ⟨xs1, hq1⟩, ⟨xs2, hq2⟩, q⟩ := q1
  subst ex
  cases r1 with
  | cons r rr =>
    cases rr with
    | cons r' rr =>
      cases rr
      cases r
      cases r'
      obtain ⟨its1, rv1, hat1, _⟩ := invK I1 hq1
      obtain ⟨its2, rv2, hat2, _⟩ := invK I1 hq2
      refine zip_begins2 (begK b1 a1 its1.toArray) (begK b2 a2 its2.toArray) hat1 hat2 fun h' hz hTI hTO h1 h2 hsz hk => wpAny_pyIter_zip hz ?_
      have I2 : Inv X pins σ H1 { s1 with heap := h' } := I1.kept (t' := s1.toks) hk
      refine ⟨_, [s1.heap.objs.size + 4, s1.heap.objs.size + 2, s1.heap.objs.size + 3, s1.heap.objs.size, s1.heap.objs.size + 1], _, _, H1, rfl, I2,
        turn_zipK2 b1 b2 (zip_sep2 (fp1 := [a1]) (fp2 := [a2]) (by simpa using hat1.lt) (by simpa using hat2.lt)) (Nat.ne_of_lt hat1.lt) (Nat.ne_of_lt (Nat.lt_succ_of_lt hat2.lt)), ⟨hz, hTI, ⟨_, _, hTO⟩, ItK.new h1, ItK.new h2⟩, fun c hc => ?_, q⟩
      have e' : c = s1.heap.objs.size + 4 ∨ c = s1.heap.objs.size + 2 ∨ c = s1.heap.objs.size + 3 ∨ c = s1.heap.objs.size ∨ c = s1.heap.objs.size + 1 := by simpa using hc
      have hle : s1.heap.objs.size ≤ c := by
        rcases e' with z | z | z | z | z
        · rw [z]; exact Nat.le_add_right _ _
        · rw [z]; exact Nat.le_add_right _ _
        · rw [z]; exact Nat.le_add_right _ _
        · rw [z]; exact Nat.le_refl _
        · rw [z]; exact Nat.le_add_right _ _
      exact I1.fpOk hle (I1.hok.fresh hle)
def iZp3K (K : PySem.W.Frag) (ta : TA) : TI := fun σ H R => ta σ H fun vs H1 => ∃ b1 b2 b3 a1 a2 a3, vs = [.ref a1, .ref a2, .ref a3] ∧ (∃ xs, SqK K H1 b1 a1 xs) ∧ (∃ xs, SqK K H1 b2 a2 xs) ∧ (∃ xs, SqK K H1 b3 a3 xs) ∧ R (ItC (row3 K b1 b2 b3 a1 a2 a3) (stop3 K b1 b2 b3 a1 a2 a3)) H1
theorem pi_zp3K {e e2 e3 : Expr} {ta : TA} {p pos tpos : Pos} {elts : List Expr} {kk : Nat} (hg : Gl X "zip") (hm : X.mg "zip" = none) (ha : PA X [e, e2, e3] ta)
    (hs : starEach [e, e2, e3] X.env = (false, eval e X.env) :: starEach [e2, e3] X.env) (hpl : (backTo pos (starEach [e2, e3] X.env)).any (·.1) = false) :
    PI X (.Tuple elts kk tpos) (.Call (.Name "zip" p) [e, e2, e3] [] pos) (iZp3K X.K ta) := by
  refine ⟨fun pins s σ H R I h => ?_⟩
  refine Call_ (ld_blt I hg hm PyProof.Rows.boot_zip (PyProof.Rows.callWith_type1 (thn (ha.run pos pins s σ H _ I h) fun us s1 ⟨vs, H1, I1, r1, q1⟩ => ?_) hs hpl))
  obtain ⟨b1, b2, b3, a1, a2, a3, ex, ⟨xs1, hq1⟩, ⟨xs2, hq2⟩, ⟨xs3, hq3⟩, q⟩ := q1
  subst ex
  cases r1 with
  | cons r rr =>
    cases rr with
    | cons r' rr =>
      cases rr with
      | cons r'' rr =>
        cases rr
        cases r
        cases r'
        cases r''
        obtain ⟨its1, rv1, hat1, _⟩ := invK I1 hq1
        obtain ⟨its2, rv2, hat2, _⟩ := invK I1 hq2
        obtain ⟨its3, rv3, hat3, _⟩ := invK I1 hq3
        refine zip_begins3 (begK b1 a1 its1.toArray) (begK b2 a2 its2.toArray) (begK b3 a3 its3.toArray) hat1 hat2 hat3 fun h' hz hTI hTO h1 h2 h3 hsz hk => wpAny_pyIter_zip hz ?_
        have I2 : Inv X pins σ H1 { s1 with heap := h' } := I1.kept (t' := s1.toks) hk
        refine ⟨_, [s1.heap.objs.size + 5, s1.heap.objs.size + 3, s1.heap.objs.size + 4, s1.heap.objs.size, s1.heap.objs.size + 1, s1.heap.objs.size + 2], _, _, H1, rfl, I2,
          turn_zipK3 b1 b2 b3 (zip_sep3 (fp1 := [a1]) (fp2 := [a2]) (fp3 := [a3]) (by simpa using hat1.lt) (by simpa using hat2.lt) (by simpa using hat3.lt)) (Nat.ne_of_lt hat1.lt) (Nat.ne_of_lt (Nat.lt_succ_of_lt hat2.lt)) (Nat.ne_of_lt (Nat.lt_succ_of_lt (Nat.lt_succ_of_lt hat3.lt))),
          ⟨hz, hTI, ⟨_, _, _, hTO⟩, ItK.new h1, ItK.new h2, ItK.new h3⟩, fun c hc => ?_, q⟩
        have e' : c = s1.heap.objs.size + 5 ∨ c = s1.heap.objs.size + 3 ∨ c = s1.heap.objs.size + 4 ∨ c = s1.heap.objs.size ∨ c = s1.heap.objs.size + 1 ∨ c = s1.heap.objs.size + 2 := by simpa using hc
        have hle : s1.heap.objs.size ≤ c := by
          rcases e' with z | z | z | z | z | z
          · rw [z]; exact Nat.le_add_right _ _
          · rw [z]; exact Nat.le_add_right _ _
          · rw [z]; exact Nat.le_add_right _ _
          · rw [z]; exact Nat.le_refl _
          · rw [z]; exact Nat.le_add_right _ _
          · rw [z]; exact Nat.le_add_right _ _
        exact I1.fpOk hle (I1.hok.fresh hle)

/-! ### what the evaluator walks, against it -/
theorem PI.or {tg e : Expr} {w1 w2 : TI} (h1 : PI X tg e w1) (h2 : PI X tg e w2) : PI X tg e (fun σ H R => w1 σ H R ∨ w2 σ H R) :=
  ⟨fun pins s σ H R I h => h.elim (h1.run pins s σ H R I) (h2.run pins s σ H R I)⟩
theorem PI.imp {tg e : Expr} {w1 w2 : TI} (h1 : PI X tg e w1) (h : ∀ σ H R, w2 σ H R → w1 σ H R) : PI X tg e w2 := ⟨fun pins s σ H R I q => h1.run pins s σ H R I (h σ H R q)⟩
end
/-- the iterator gives the items of xs, as long as the lists dp stand -/
structure Gives2 (K : PySem.W.Frag) (J : It) (xs : List D) (dp : Deps) (mu F : List Addr) (H : Hp) : Prop where
  go : ∀ mu' F' H' S', XtE F mu H mu' H' → Fx F F' H → Gd K mu' F' H' S' → depOk dp S' = true → ∀ i, i < xs.length → J.go i H'
  yld : ∀ mu' F' H' S', XtE F mu H mu' H' → Fx F F' H → Gd K mu' F' H' S' → depOk dp S' = true → ∀ i x v H'', xs[i]? = some x → J.yld i H' v H'' → Xt mu' H' mu' H'' ∧ Gd K mu' F' H'' S' ∧ Rp K mu' F' H'' v x
  stop : ∀ mu' F' H' S', XtE F mu H mu' H' → Fx F F' H → Gd K mu' F' H' S' → depOk dp S' = true → J.stop xs.length H'
/-- a value that is walked: a list or a tuple -/
structure Colm (K : PySem.W.Frag) (b : Bool) (a : Addr) (ds : List D) (dp : Deps) (mu F : List Addr) (H : Hp) : Prop where
  now : ∃ xs, SqK K H b a xs
  sq : ∀ mu' F' H' S', XtE F mu H mu' H' → Fx F F' H → Gd K mu' F' H' S' → depOk dp S' = true → ∃ vs, SqK K H' b a vs ∧ Rps K mu' F' H' vs ds
section
variable {K : PySem.W.Frag} {mu F : List Addr} {H : Hp} {S : Store}
theorem depOk_nil (S : Store) : depOk [] S = true := rfl
theorem depOk_app {p q : Deps} {S : Store} (h : depOk (p ++ q) S = true) : depOk p S = true ∧ depOk q S = true := by
  unfold depOk at h ⊢
  rw [List.all_append, Bool.and_eq_true] at h
  exact h
theorem colm {v : V} {d : D} {ds : List D} {dp : Deps} (g : Gd K mu F H S) (r : Rp K mu F H v d) (h : seqD S d = some (ds, dp)) : ∃ b a, v = .ref a ∧ Colm K b a ds dp mu F H ∧ (b = false ↔ ∃ xs, d = .tup xs) := by
  cases r with
  | @tup a vs xs q t =>
    cases h
    exact ⟨false, a, rfl, ⟨⟨vs, q⟩, fun mu' F' H' S' e f g' _ => ⟨vs, sqT_keepE g.live.mt e q, t.farE g.live.mt f e⟩⟩, ⟨fun _ => ⟨_, rfl⟩, fun _ => rfl⟩⟩
  | @lst a vs xs q t =>
    cases h
    exact ⟨true, a, rfl, ⟨⟨vs, .inl (.inl q.1)⟩, fun mu' F' H' S' e f g' _ => ⟨vs, .inl (.inl (e.keep _ _ q.1 q.2.1 (.inl q.2.2) (fun _ z => nomatch z))), t.farE g.live.mt f e⟩⟩, ⟨fun z => (nomatch z), fun ⟨_, z⟩ => nomatch z⟩⟩
  | @scr a vs xs q t =>
    cases h
    exact ⟨true, a, rfl, ⟨⟨vs, q.sq⟩, fun mu' F' H' S' e f g' _ => ⟨vs, (sqS_keepE g.live.mt f e q).sq, t.farE g.live.mt f e⟩⟩, ⟨fun z => (nomatch z), fun ⟨_, z⟩ => nomatch z⟩⟩
  | @ref n a q =>
    cases e2 : S[n]? with
    | none => simp [seqD, seqOf, e2] at h
    | some c => cases c with
      | obj _ _ => simp [seqD, seqOf, e2] at h
      | lst xs =>
      simp only [seqD, seqOf, e2, Option.map_some, Option.some.injEq, Prod.mk.injEq] at h
      obtain ⟨rfl, rfl⟩ := h
      obtain ⟨vs, h1, _⟩ := g.ref q e2
      refine ⟨true, a, rfl, ⟨⟨vs, .inl (.inl h1)⟩, fun mu' F' H' S' e f g' hd => ?_⟩, ⟨fun z => (nomatch z), fun ⟨_, z⟩ => nomatch z⟩⟩
      have e3 : S'[n]? = some (.lst xs) := by simpa [depOk] using hd
      obtain ⟨ws, w1, w2⟩ := g'.ref (e.get q) e3
      exact ⟨ws, .inl (.inl w1), w2⟩
  | _ => cases h
/-- the list or tuple itself -/
def itK (K : PySem.W.Frag) (b : Bool) (a : Addr) : It := match b with
  | true => Itl K a
  | false => Itt K a
theorem gives_vl {b : Bool} {a : Addr} {ds : List D} {dp : Deps} (c : Colm K b a ds dp mu F H) : Gives2 K (itK K b a) ds dp mu F H := by
  refine ⟨fun mu' F' H' S' e f g d i hi => ?_, fun mu' F' H' S' e f g d i x v H'' hx hy => ?_, fun mu' F' H' S' e f g d => ?_⟩
  all_goals obtain ⟨vs, hq, hr⟩ := c.sq mu' F' H' S' e f g d
  · have hl : i < vs.length := by rw [hr.length]; exact hi
    cases b with
    | true => exact ⟨vs, vs[i], hq, by simp [hl]⟩
    | false => exact ⟨vs, vs[i], hq, by simp [hl]⟩
  · obtain ⟨z, hz, rz⟩ := hr.get hx
    cases b with
    | true =>
      obtain ⟨rfl, hy⟩ := hy
      have := hy vs hq
      rw [hz] at this; cases this
      exact ⟨Xt.refl _ _, g, rz⟩
    | false =>
      obtain ⟨rfl, hy⟩ := hy
      have := hy vs hq
      rw [hz] at this; cases this
      exact ⟨Xt.refl _ _, g, rz⟩
  · cases b with
    | true => exact ⟨vs, hq, by rw [hr.length]; exact Nat.le_refl _⟩
    | false => exact ⟨vs, hq, by rw [hr.length]; exact Nat.le_refl _⟩
theorem rgF_get : ∀ (n : Nat) (a : Int) (i : Nat), i < n → (rgF a n)[i]? = some (a + i)
  | n + 1, a, 0, _ => by simp [rgF]
  | n + 1, a, i + 1, h => by
    simp only [rgF, intK_eq, List.getElem?_cons_succ]
    rw [rgF_get n (a + 1) i (by omega)]
    congr 1
    omega
theorem rgF_len : ∀ (n : Nat) (a : Int), (rgF a n).length = n
  | 0, _ => rfl
  | n + 1, a => by simp [rgF, rgF_len n]
theorem gives_rg (a b : Int) : Gives2 K (Itr a (b - a).toNat) ((rgI a b).map D.int) [] mu F H := by
  have hl : ((rgI a b).map D.int).length = (b - a).toNat := by rw [List.length_map]; exact rgF_len _ _
  refine ⟨fun mu' F' H' S' e f g d i hi => by rw [hl] at hi; exact hi, fun mu' F' H' S' e f g d i x v H'' hx hy => ?_, fun mu' F' H' S' e f g d => by rw [hl]; exact Nat.le_refl _⟩
  obtain ⟨rfl, rfl⟩ := hy
  have hi : i < (b - a).toNat := by rw [← hl]; exact (List.getElem?_eq_some_iff.mp hx).1
  rw [List.getElem?_map, show (rgI a b)[i]? = some (a + i) from rgF_get _ _ _ hi] at hx
  cases hx
  exact ⟨Xt.refl _ _, g, .int _⟩
/-- rows told one by one -/
theorem gives_C {row : Nat → Hp → List V → Prop} {stop : Nat → Hp → Prop} {xs : List D} {dp : Deps}
    (hrow : ∀ mu' F' H' S', XtE F mu H mu' H' → Fx F F' H → Gd K mu' F' H' S' → depOk dp S' = true → ∀ i, i < xs.length → ∃ ys ds, row i H' ys ∧ xs[i]? = some (.tup ds) ∧ Rps K mu' F' H' ys ds)
    (hstop : ∀ mu' F' H' S', XtE F mu H mu' H' → Fx F F' H → Gd K mu' F' H' S' → depOk dp S' = true → stop xs.length H') : Gives2 K (ItC row stop) xs dp mu F H := by
  refine ⟨fun mu' F' H' S' e f g d i hi => ?_, fun mu' F' H' S' e f g d i x v H'' hx hy => ?_, hstop⟩
  · obtain ⟨ys, ds, h, _⟩ := hrow mu' F' H' S' e f g d i hi
    exact ⟨ys, h⟩
  · obtain ⟨T, zs, rfl, hT, rfl, hu⟩ := hy
    obtain ⟨ys, ds, h1, h2, h3⟩ := hrow mu' F' H' S' e f g d i (List.getElem?_eq_some_iff.mp hx).1
    have := hu ys h1
    subst this
    rw [h2] at hx
    cases hx
    exact ⟨Xt.new hT, g.new hT, .tup (.inl (.inl upd_same)) (h3.mono g.live (Xt.new hT))⟩
theorem enumD_get : ∀ (xs : List D) (n i : Nat), (enumD xs n)[i]? = xs[i]?.map fun x => .tup [.int ((n + i : Nat) : Int), x]
  | [], n, i => by simp [enumD]
  | x :: r, n, 0 => by simp [enumD]
  | x :: r, n, i + 1 => by
    simp only [enumD, natK_eq, List.getElem?_cons_succ]
    rw [enumD_get r (n + 1) i]
    have e : n + 1 + i = n + (i + 1) := by omega
    rw [e]
theorem enumD_len : ∀ (xs : List D) (n : Nat), (enumD xs n).length = xs.length
  | [], n => by simp [enumD]
  | x :: r, n => by simp [enumD, enumD_len r]
theorem gives_en {b : Bool} {a : Addr} {ds : List D} {dp : Deps} (c : Colm K b a ds dp mu F H) : Gives2 K (ItC (rowE K b a) (stopE K b a)) (enumD ds 0) dp mu F H := by
  refine gives_C (fun mu' F' H' S' e f g d i hi => ?_) (fun mu' F' H' S' e f g d => ?_)
  all_goals obtain ⟨vs, hq, hr⟩ := c.sq mu' F' H' S' e f g d
  · rw [enumD_len] at hi
    obtain ⟨z, hz, rz⟩ := hr.get (List.getElem?_eq_getElem hi)
    exact ⟨_, _, ⟨vs, z, hq, hz, rfl⟩, by rw [enumD_get, List.getElem?_eq_getElem hi, Nat.zero_add]; rfl, .cons (.int _) (.cons rz .nil)⟩
  · exact ⟨vs, hq, by rw [hr.length, enumD_len]⟩
theorem zipD_get : ∀ (xs ys : List D) (i : Nat) (x y : D), xs[i]? = some x → ys[i]? = some y → (zipD xs ys)[i]? = some (.tup [x, y])
  | [], _, _, _, _, h, _ => by simp at h
  | _ :: _, [], _, _, _, _, h => by simp at h
  | x :: xs, y :: ys, 0, _, _, h, h' => by simp at h h'; subst h h'; simp [zipD]
  | x :: xs, y :: ys, i + 1, a, b, h, h' => by
    simp only [zipD, List.getElem?_cons_succ] at h h' ⊢
    exact zipD_get xs ys i a b h h'
theorem zipD_len : ∀ (xs ys : List D), (zipD xs ys).length = min xs.length ys.length
  | [], _ => by simp [zipD]
  | _ :: _, [] => by simp [zipD]
  | x :: xs, y :: ys => by simp only [zipD, List.length_cons, zipD_len xs ys]; omega
theorem gives_zp {b1 b2 : Bool} {a1 a2 : Addr} {ds1 ds2 : List D} {p1 p2 : Deps} (c1 : Colm K b1 a1 ds1 p1 mu F H) (c2 : Colm K b2 a2 ds2 p2 mu F H) : Gives2 K (ItC (row2 K b1 b2 a1 a2) (stop2 K b1 b2 a1 a2)) (zipD ds1 ds2) (p1 ++ p2) mu F H := by
  refine gives_C (fun mu' F' H' S' e f g d i hi => ?_) (fun mu' F' H' S' e f g d => ?_)
  all_goals
    obtain ⟨vs1, hq1, hr1⟩ := c1.sq mu' F' H' S' e f g (depOk_app d).1
    obtain ⟨vs2, hq2, hr2⟩ := c2.sq mu' F' H' S' e f g (depOk_app d).2
  · rw [zipD_len] at hi
    have i1 : i < ds1.length := by omega
    have i2 : i < ds2.length := by omega
    obtain ⟨z1, hz1, rz1⟩ := hr1.get (List.getElem?_eq_getElem i1)
    obtain ⟨z2, hz2, rz2⟩ := hr2.get (List.getElem?_eq_getElem i2)
    exact ⟨_, _, ⟨vs1, vs2, z1, z2, hq1, hq2, hz1, hz2, rfl⟩, zipD_get _ _ _ _ _ (List.getElem?_eq_getElem i1) (List.getElem?_eq_getElem i2), .cons rz1 (.cons rz2 .nil)⟩
  · exact ⟨vs1, vs2, hq1, hq2, by rw [hr1.length, hr2.length, zipD_len]⟩
theorem zip3D_get : ∀ (xs ys zs : List D) (i : Nat) (x y z : D), xs[i]? = some x → ys[i]? = some y → zs[i]? = some z → (zip3D xs ys zs)[i]? = some (.tup [x, y, z])
  | [], _, _, _, _, _, _, h, _, _ => by simp at h
  | _ :: _, [], _, _, _, _, _, _, h, _ => by simp at h
  | _ :: _, _ :: _, [], _, _, _, _, _, _, h => by simp at h
  | x :: xs, y :: ys, z :: zs, 0, _, _, _, h, h', h'' => by simp at h h' h''; subst h h' h''; simp [zip3D]
  | x :: xs, y :: ys, z :: zs, i + 1, a, b, c, h, h', h'' => by
    simp only [zip3D, List.getElem?_cons_succ] at h h' h'' ⊢
    exact zip3D_get xs ys zs i a b c h h' h''
theorem zip3D_len : ∀ (xs ys zs : List D), (zip3D xs ys zs).length = min (min xs.length ys.length) zs.length
  | [], _, _ => by simp [zip3D]
  | _ :: _, [], _ => by simp [zip3D]
  | _ :: _, _ :: _, [] => by simp [zip3D]
  | x :: xs, y :: ys, z :: zs => by simp only [zip3D, List.length_cons, zip3D_len xs ys zs]; omega
theorem gives_zp3 {b1 b2 b3 : Bool} {a1 a2 a3 : Addr} {ds1 ds2 ds3 : List D} {p1 p2 p3 : Deps} (c1 : Colm K b1 a1 ds1 p1 mu F H) (c2 : Colm K b2 a2 ds2 p2 mu F H) (c3 : Colm K b3 a3 ds3 p3 mu F H) :
    Gives2 K (ItC (row3 K b1 b2 b3 a1 a2 a3) (stop3 K b1 b2 b3 a1 a2 a3)) (zip3D ds1 ds2 ds3) (p1 ++ p2 ++ p3) mu F H := by
  refine gives_C (fun mu' F' H' S' e f g d i hi => ?_) (fun mu' F' H' S' e f g d => ?_)
  all_goals
    obtain ⟨vs1, hq1, hr1⟩ := c1.sq mu' F' H' S' e f g (depOk_app (depOk_app d).1).1
    obtain ⟨vs2, hq2, hr2⟩ := c2.sq mu' F' H' S' e f g (depOk_app (depOk_app d).1).2
    obtain ⟨vs3, hq3, hr3⟩ := c3.sq mu' F' H' S' e f g (depOk_app d).2
  · rw [zip3D_len] at hi
    have i1 : i < ds1.length := by omega
    have i2 : i < ds2.length := by omega
    have i3 : i < ds3.length := by omega
    obtain ⟨z1, hz1, rz1⟩ := hr1.get (List.getElem?_eq_getElem i1)
    obtain ⟨z2, hz2, rz2⟩ := hr2.get (List.getElem?_eq_getElem i2)
    obtain ⟨z3, hz3, rz3⟩ := hr3.get (List.getElem?_eq_getElem i3)
    exact ⟨_, _, ⟨vs1, vs2, vs3, z1, z2, z3, hq1, hq2, hq3, hz1, hz2, hz3, rfl⟩, zip3D_get _ _ _ _ _ _ _ (List.getElem?_eq_getElem i1) (List.getElem?_eq_getElem i2) (List.getElem?_eq_getElem i3), .cons rz1 (.cons rz2 (.cons rz3 .nil))⟩
  · exact ⟨vs1, vs2, vs3, hq1, hq2, hq3, by rw [hr1.length, hr2.length, hr3.length, zip3D_len]⟩
end
/-- a source's reading -/
def tSrc (K : PySem.W.Frag) (Y : XI) (k : SK) (ev : EM (List D)) : TI := fun σ H R => ∃ env mu F S, EnvR K mu F H σ env ∧ Gd K mu F H S ∧
  WY (ev env S) (fun ds S1 => ∃ xs dp, srcOf k ds S1 = some (xs, dp) ∧ ∀ J H1 mu1, Xt mu H mu1 H1 → Gd K mu1 F H1 S1 → Gives2 K J xs dp mu1 F H1 → R J H1) (PoX K Y mu F H)
end Ev
/-! Ev: expressions -/
namespace Ev
open PySem PySem.Spec
open PyProof.Rows L2
variable [LamN]

/-- posts that stand when the heap grows -/
def Cl {α : Type} (F : List Addr) (P : List Addr → Hp → α → Store → Prop) : Prop := ∀ mu H mu1 H1 a S, Xt mu H mu1 H1 → Lv mu1 F H1 → P mu H a S → P mu1 H1 a S
section
variable {K : PySem.W.Frag} {Y : XI} {F : List Addr}
theorem cl_Po {Q : VK} : Cl F fun mu H => Po K mu F H Q := fun mu H mu1 H1 a S e L h v H' mu' e' g r => h v H' mu' (e.trans L e') g r
theorem cl_PoS {Q : List V → Hp → Prop} : Cl F fun mu H => PoS K mu F H Q := fun mu H mu1 H1 a S e L h v H' mu' e' g r => h v H' mu' (e.trans L e') g r
def PoT (K : PySem.W.Frag) (mu F : List Addr) (H : Hp) (Q : Bool → Hp → Prop) : D → Store → Prop := fun d S' => ∃ b, d = .bl b ∧ ∀ H' mu', Xt mu H mu' H' → Gd K mu' F H' S' → Q b H'
theorem cl_PoT {Q : Bool → Hp → Prop} : Cl F fun mu H => PoT K mu F H Q := fun mu H mu1 H1 a S e L ⟨b, h1, h⟩ => ⟨b, h1, fun H' mu' e' g => h H' mu' (e.trans L e') g⟩
/-- a part is run first -/
theorem run1 {α : Type} {P : List Addr → Hp → α → Store → Prop} (hP : Cl F P) {ra : EM D} {f : D → M α} {env : Env} {mu : List Addr} {S : Store} {σ : L2.St} {H : Hp} (he : EnvR K mu F H σ env) (hg : Gd K mu F H S) (hw : WY (bnd (ra env) f S) (P mu H) (PoX K Y mu F H))
    {R : VK} (hR : ∀ v H1 mu1 S1 x, EnvR K mu1 F H1 σ env → Gd K mu1 F H1 S1 → Rp K mu1 F H1 v x → Xt mu H mu1 H1 → WY (f x S1) (P mu1 H1) (PoX K Y mu1 F H1) → R v H1) : tE K Y ra σ H R := by
  refine ⟨env, mu, F, S, he, hg, (WY.bnd.mp hw).mono fun x S1 h v H1 mu1 e g r => ?_⟩
  exact hR v H1 mu1 S1 x (he.mono hg.live e) g r e (h.mono2 (fun a S2 q => hP mu H mu1 H1 a S2 e g.live q) fun _ _ _ q => PoX.cl e g.live q)
theorem runL {α : Type} {P : List Addr → Hp → α → Store → Prop} (hP : Cl F P) {ra : EM (List D)} {f : List D → M α} {env : Env} {mu : List Addr} {S : Store} {σ : L2.St} {H : Hp} (he : EnvR K mu F H σ env) (hg : Gd K mu F H S) (hw : WY (bnd (ra env) f S) (P mu H) (PoX K Y mu F H))
    {R : List V → Hp → Prop} (hR : ∀ v H1 mu1 S1 x, EnvR K mu1 F H1 σ env → Gd K mu1 F H1 S1 → Rps K mu1 F H1 v x → Xt mu H mu1 H1 → WY (f x S1) (P mu1 H1) (PoX K Y mu1 F H1) → R v H1) : tA K Y ra σ H R := by
  refine ⟨env, mu, F, S, he, hg, (WY.bnd.mp hw).mono fun x S1 h v H1 mu1 e g r => ?_⟩
  exact hR v H1 mu1 S1 x (he.mono hg.live e) g r e (h.mono2 (fun a S2 q => hP mu H mu1 H1 a S2 e g.live q) fun _ _ _ q => PoX.cl e g.live q)
theorem go1 {P : List Addr → Hp → D → Store → Prop} {ra : EM D} {env : Env} {mu : List Addr} {S : Store} {σ : L2.St} {H : Hp} {Q : VK} (he : EnvR K mu F H σ env) (hg : Gd K mu F H S) (hw : WY (ra env S) (Po K mu F H Q) (PoX K Y mu F H)) : tE K Y ra σ H Q := ⟨env, mu, F, S, he, hg, hw⟩
end

/-! ### expressions, one by one -/
section
variable {X : Cx} {Y : XI} {a b c : Expr} {ra rb rc : EM D} {pos : Pos}
theorem t2 {f : D → D → M D} {σ : L2.St} {H : Hp} {Q : VK} {ra rb : EM D} (h : tE X.K Y (fun env => bnd (ra env) fun x => bnd (rb env) fun y => f x y) σ H Q) : tOp (R2of X.K f) (tE X.K Y ra) (tE X.K Y rb) σ H Q := by
  obtain ⟨env, mu, F, S, he, hg, hw⟩ := h
  refine run1 cl_Po he hg hw fun v H1 mu1 S1 x he1 hg1 r1 e1 hw1 => ?_
  refine run1 cl_Po he1 hg1 hw1 fun w H2 mu2 S2 y he2 hg2 r2 e2 hw2 => ?_
  exact ⟨mu2, F, S2, x, y, _, hg2, r1.mono hg1.live e2, r2, hw2⟩
theorem pE_bin (o : Op2) (m : Bool) (ha : PE X a (tE X.K Y ra)) (hb : PE X b (tE X.K Y rb)) : PE X (.BinOp a (opO o) b pos) (tE X.K Y (kBin o m ra rb)) := Ev.PE.imp (pe_op (op_ok o m) ha hb) fun _ _ _ h => t2 h
theorem pE_cmp (o : Cm) (hu : X.A.units + 64 < cLine) (ha : PE X a (tE X.K Y ra)) (hb : PE X b (tE X.K Y rb)) (hm : behindInMarks (cmO o) b = false) : PE X (.Compare a [cmO o] [b] pos) (tE X.K Y (kCmp o ra rb)) :=
  Ev.PE.imp (pe_cmpR (cmp_ok o hu) ha hb hm) fun _ _ _ h => t2 h
theorem pE_ix (ha : PE X a (tE X.K Y ra)) (hb : PE X b (tE X.K Y rb)) (hs : PlainIx b) : PE X (.Subscript a b pos) (tE X.K Y (kIx ra rb)) := Ev.PE.imp (pe_ix ix_ok ha hb hs) fun _ _ _ h => t2 h
theorem pE_neg (ha : PE X a (tE X.K Y ra)) : PE X (.UnaryOp .USub a pos) (tE X.K Y (kNeg ra)) := Ev.PE.imp (pe_un un_neg ha) fun σ H Q ⟨env, mu, F, S, he, hg, hw⟩ =>
  run1 cl_Po he hg hw fun v H1 mu1 S1 x he1 hg1 r1 e1 hw1 => by
    cases r1 with
    | int i => simp only [rInt_eq] at hw1; exact ⟨i, rfl, Po.flat hg1 (.int _) hw1⟩
    | _ => exact hw1.elim
theorem pE_not (ha : PE X a (tE X.K Y ra)) : PE X (.UnaryOp .Not a pos) (tE X.K Y (kNot ra)) := Ev.PE.imp (pe_not ha) fun σ H Q ⟨env, mu, F, S, he, hg, hw⟩ =>
  run1 cl_Po he hg hw fun v H1 mu1 S1 x he1 hg1 r1 e1 hw1 => by
    cases r1 with
    | bl i => exact ⟨i, rfl, Po.flat hg1 (.bl _) hw1⟩
    | _ => exact hw1.elim
theorem tst_bl {α : Type} {d : D} {x y : M D} {S : Store} {P : D → Store → Prop} {PX : PXT} (h : WY (tst d x y S) P PX) : ∃ b, d = .bl b ∧ if b = true then WY (x S) P PX else WY (y S) P PX := by
  unfold tst at h
  split at h
  · exact ⟨true, rfl, h⟩
  · exact ⟨false, rfl, h⟩
  · exact h.elim
theorem boolR_bl {d : D} {S : Store} {P : D → Store → Prop} {PX : PXT} (h : WY (boolR d S) P PX) : ∃ b, d = .bl b ∧ P (.bl b) S := by
  unfold boolR at h
  split at h
  · exact ⟨_, rfl, h⟩
  · exact h.elim
theorem pE_and {rest : List Expr} (ha : PE X a (tE X.K Y ra)) (hb : PE X (.BoolOp .And (b :: rest) pos) (tE X.K Y rb)) : PE X (.BoolOp .And (a :: b :: rest) pos) (tE X.K Y (kAnd ra rb)) := Ev.PE.imp (pe_and ha hb) fun σ H Q ⟨env, mu, F, S, he, hg, hw⟩ =>
  run1 cl_Po he hg hw fun v H1 mu1 S1 x he1 hg1 r1 e1 hw1 => by
    obtain ⟨k, rfl, hw2⟩ := tst_bl (α := D) hw1
    cases r1
    refine ⟨k, rfl, ?_⟩
    cases k with
    | true =>
      rw [if_pos rfl] at hw2 ⊢
      refine run1 cl_Po he1 hg1 hw2 fun w H2 mu2 S2 y he2 hg2 r2 e2 hw3 => ?_
      obtain ⟨k, rfl, q⟩ := boolR_bl hw3
      exact Po.flat hg2 r2 q
    | false =>
      rw [if_neg Bool.false_ne_true] at hw2 ⊢
      exact Po.flat hg1 (.bl _) hw2
theorem pE_or {rest : List Expr} (ha : PE X a (tE X.K Y ra)) (hb : PE X (.BoolOp .Or (b :: rest) pos) (tE X.K Y rb)) : PE X (.BoolOp .Or (a :: b :: rest) pos) (tE X.K Y (kOr ra rb)) := Ev.PE.imp (pe_or ha hb) fun σ H Q ⟨env, mu, F, S, he, hg, hw⟩ =>
  run1 cl_Po he hg hw fun v H1 mu1 S1 x he1 hg1 r1 e1 hw1 => by
    obtain ⟨k, rfl, hw2⟩ := tst_bl (α := D) hw1
    cases r1
    refine ⟨k, rfl, ?_⟩
    cases k with
    | true =>
      rw [if_pos rfl] at hw2 ⊢
      exact Po.flat hg1 (.bl _) hw2
    | false =>
      rw [if_neg Bool.false_ne_true] at hw2 ⊢
      refine run1 cl_Po he1 hg1 hw2 fun w H2 mu2 S2 y he2 hg2 r2 e2 hw3 => ?_
      obtain ⟨k, rfl, q⟩ := boolR_bl hw3
      exact Po.flat hg2 r2 q
theorem chain_rd (o o' : Cm) {σ : L2.St} {H : Hp} {Q : VK} (h : tE X.K Y (kChain o o' ra rb rc) σ H Q) : tChain (R2of X.K (doCmp o)) (R2of X.K (doCmp o')) (tE X.K Y ra) (tE X.K Y rb) (tE X.K Y rc) σ H Q := by
  obtain ⟨env, mu, F, S, he, hg, hw⟩ := h
  refine run1 cl_Po he hg hw fun v H1 mu1 S1 x he1 hg1 r1 e1 hw1 => ?_
  refine run1 cl_Po he1 hg1 hw1 fun w H2 mu2 S2 y he2 hg2 r2 e2 hw2 => ?_
  refine ⟨mu2, F, S2, x, y, _, hg2, r1.mono hg1.live e2, r2, (WY.bnd.mp hw2).mono fun z S3 hw3 vz H3 mu3 e3 hg3 r3 => ?_⟩
  obtain ⟨k, rfl, hw4⟩ := tst_bl (α := D) hw3
  cases r3
  refine ⟨k, rfl, ?_⟩
  have he3 := he2.mono hg2.live e3
  cases k with
  | true =>
    rw [if_pos rfl] at hw4 ⊢
    refine run1 cl_Po he3 hg3 (hw4.mono2 (fun d S4 q => cl_Po mu2 H2 mu3 H3 d S4 e3 hg3.live q) fun _ _ _ q => PoX.cl e3 hg3.live q) fun u H4 mu4 S4 zz he4 hg4 r4 e4 hw5 => ?_
    exact ⟨mu4, F, S4, y, zz, _, hg4, (r2.mono hg2.live e3).mono hg3.live e4, r4, hw5⟩
  | false =>
    rw [if_neg Bool.false_ne_true] at hw4 ⊢
    exact Po.flat hg3 (.bl _) (cl_Po (K := X.K) (F := F) mu2 H2 mu3 H3 _ _ e3 hg3.live hw4)
theorem pE_chain (o o' : Cm) (hu : X.A.units + 64 < cLine) (ha : PE X a (tE X.K Y ra)) (hb : PE X b (tE X.K Y rb)) (hc : PE X c (tE X.K Y rc)) (hm : behindInMarks (cmO o') c = false) : PE X (.Compare a [cmO o, cmO o'] [b, c] pos) (tE X.K Y (kChain o o' ra rb rc)) := by
  exact Ev.PE.imp (pe_chain (cmp_ok o hu) (cmp_ok o' hu) ha hb hc hm) fun σ H Q h => chain_rd o o' h
theorem pE_ite {tT0 : EM D} (hc : PT X c (tT X.K Y rc)) (ha : PE X a (tE X.K Y ra)) (hb : PE X b (tE X.K Y rb)) : PE X (.IfExp c a b pos) (tE X.K Y (kIte rc ra rb)) := by
  refine Ev.PE.imp (pe_ifExp hc ha hb) fun σ H Q ⟨env, mu, F, S, he, hg, hw⟩ => ?_
  refine ⟨env, mu, F, S, he, hg, (WY.bnd.mp hw).mono fun x S1 hw1 => ?_⟩
  obtain ⟨k, rfl, hw2⟩ := tst_bl (α := D) hw1
  refine ⟨k, rfl, fun H1 mu1 e1 hg1 => ?_⟩
  cases k with
  | true => exact ⟨env, mu1, F, S1, he.mono hg.live e1, hg1, hw2.mono2 (fun d S4 q => cl_Po mu H mu1 H1 d S4 e1 hg1.live q) fun _ _ _ q => PoX.cl e1 hg1.live q⟩
  | false => exact ⟨env, mu1, F, S1, he.mono hg.live e1, hg1, hw2.mono2 (fun d S4 q => cl_Po mu H mu1 H1 d S4 e1 hg1.live q) fun _ _ _ q => PoX.cl e1 hg1.live q⟩

/-! ### tests -/
theorem pT_of (ha : PE X a (tE X.K Y ra)) (he : ∀ whole, isTrue a X.env whole = (do let v ← whole; standAt a.pos; holding [v] (truthy v))) : PT X a (tT X.K Y ra) :=
  Ev.PT.imp (pt_val ha he) fun _ _ _ h => tE_bl h
theorem pT_not (ha : PT X a (tT X.K Y ra)) : PT X (.UnaryOp .Not a pos) (tT X.K Y (kNot ra)) := Ev.PT.imp (pt_not ha) fun σ H Q ⟨env, mu, F, S, he, hg, hw⟩ => by
  refine ⟨env, mu, F, S, he, hg, (WY.bnd.mp hw).mono fun x S1 hw1 => ?_⟩
  cases x with
  | bl k =>
    obtain ⟨b, e, q⟩ := hw1
    cases e
    exact ⟨k, rfl, q⟩
  | _ => exact hw1.elim
theorem pT_cmp (o : Cm) (hu : X.A.units + 64 < cLine) (ha : PE X a (tE X.K Y ra)) (hb : PE X b (tE X.K Y rb)) (hm : behindInMarks (cmO o) b = false) : PT X (.Compare a [cmO o] [b] pos) (tT X.K Y (kCmp o ra rb)) := by
  refine Ev.PT.imp (pt_cmpR (cmp_ok o hu) ha hb hm) fun σ H Q h => ?_
  have h2 : tE X.K Y (kCmp o ra rb) σ H (fun x H' => ∃ k, x = .bl k ∧ Q k H') := tE_bl h
  exact t2 h2
theorem pT_chain (o o' : Cm) (hu : X.A.units + 64 < cLine) (ha : PE X a (tE X.K Y ra)) (hb : PE X b (tE X.K Y rb)) (hc : PE X c (tE X.K Y rc)) (hm : behindInMarks (cmO o') c = false) : PT X (.Compare a [cmO o, cmO o'] [b, c] pos) (tT X.K Y (kChain o o' ra rb rc)) := by
  exact Ev.PT.imp (pt_chain (cmp_ok o hu) (cmp_ok o' hu) ha hb hc hm) fun σ H Q h => chain_rd o o' (tE_bl h)
theorem pW_and1 (ha : PT X a (tT X.K Y ra)) : PW X (.BoolOp .And [a] pos) (tT X.K Y ra) := pw_and1 ha
theorem pW_or1 (ha : PT X a (tT X.K Y ra)) : PW X (.BoolOp .Or [a] pos) (tT X.K Y ra) := pw_or1 ha
theorem pW_and {rest : List Expr} (ha : PT X a (tT X.K Y ra)) (hb : PW X (.BoolOp .And (b :: rest) pos) (tT X.K Y rb)) : PW X (.BoolOp .And (a :: b :: rest) pos) (tT X.K Y (kAnd ra rb)) := Ev.PW.imp (pw_and ha hb) fun σ H Q ⟨env, mu, F, S, he, hg, hw⟩ => by
  refine ⟨env, mu, F, S, he, hg, (WY.bnd.mp hw).mono fun x S1 hw1 => ?_⟩
  obtain ⟨k, rfl, hw2⟩ := tst_bl (α := D) hw1
  refine ⟨k, rfl, fun H1 mu1 e1 hg1 => ?_⟩
  cases k with
  | true =>
    rw [if_pos rfl] at hw2 ⊢
    refine ⟨env, mu1, F, S1, he.mono hg.live e1, hg1, (WY.bnd.mp hw2).mono2 (fun y S2 hw3 => ?_) fun _ _ _ q => PoX.cl e1 hg1.live q⟩
    obtain ⟨k, rfl, b, e, q⟩ := boolR_bl hw3
    cases e
    exact ⟨_, rfl, fun H2 mu2 e2 hg2 => q H2 mu2 (e1.trans hg1.live e2) hg2⟩
  | false =>
    rw [if_neg Bool.false_ne_true] at hw2 ⊢
    obtain ⟨b, e, q⟩ := hw2
    cases e
    exact q H1 mu1 e1 hg1
theorem pW_or {rest : List Expr} (ha : PT X a (tT X.K Y ra)) (hb : PW X (.BoolOp .Or (b :: rest) pos) (tT X.K Y rb)) : PW X (.BoolOp .Or (a :: b :: rest) pos) (tT X.K Y (kOr ra rb)) := Ev.PW.imp (pw_or ha hb) fun σ H Q ⟨env, mu, F, S, he, hg, hw⟩ => by
  refine ⟨env, mu, F, S, he, hg, (WY.bnd.mp hw).mono fun x S1 hw1 => ?_⟩
  obtain ⟨k, rfl, hw2⟩ := tst_bl (α := D) hw1
  refine ⟨k, rfl, fun H1 mu1 e1 hg1 => ?_⟩
  cases k with
  | true =>
    rw [if_pos rfl] at hw2 ⊢
    obtain ⟨b, e, q⟩ := hw2
    cases e
    exact q H1 mu1 e1 hg1
  | false =>
    rw [if_neg Bool.false_ne_true] at hw2 ⊢
    refine ⟨env, mu1, F, S1, he.mono hg.live e1, hg1, (WY.bnd.mp hw2).mono2 (fun y S2 hw3 => ?_) fun _ _ _ q => PoX.cl e1 hg1.live q⟩
    obtain ⟨k, rfl, b, e, q⟩ := boolR_bl hw3
    cases e
    exact ⟨_, rfl, fun H2 mu2 e2 hg2 => q H2 mu2 (e1.trans hg1.live e2) hg2⟩
end
end Ev
namespace HT
open PySem PySem.Spec
open PyProof.Rows L2
variable {prog : Program} {w : World} {A : Around} {E : Value → Shared → Prop} {s : Shared}
theorem ev_sliceApplied_rev {sl : Addr} {n : Nat} {t : Tok} {Q : Int × Int × Nat → Shared → Prop} (hs : s.heap.IsSliceOf sl .none .none (.int (-1) t))
    (h : Q ((n : Int) - 1, -1, n) s) : wpAny (model prog w) A (Builtin.Slice.sliceApplied (.ref sl) (pure (n : Int))) Q E s := by
  obtain ⟨os, hos, hcs, hds⟩ := id hs
  unfold Builtin.Slice.sliceApplied Builtin.Slice.sliceFields
  refine wpAny_bind (wpAny_bind (wpAny_field hos hds (x := .none) rfl (wpAny_bind (wpAny_field hos hds (x := .none) rfl (wpAny_bind (wpAny_field hos hds (x := .int (-1) t) rfl (wpAny_pure ?_)))))))
  refine wpAny_bind (slicePart_int ?_)
  show wpAny _ _ (if ((-1 : Int) == 0) = true then _ else _) _ _ s
  rw [if_neg (by decide)]
  refine wpAny_bind (slicePart_none (wpAny_bind (slicePart_none (wpAny_bind (wpAny_pure ?_)))))
  show wpAny _ _ (match Builtin.Slice.sliceAdjust none none (-1) (n : Int) with | (lo, hi) => pure (lo, (-1 : Int), Builtin.Slice.slicePlaces lo hi (-1))) _ _ s
  have e : Builtin.Slice.sliceAdjust none none (-1) (n : Int) = ((n : Int) - 1, -1) := rfl
  rw [e]
  show wpAny _ _ (pure ((n : Int) - 1, (-1 : Int), Builtin.Slice.slicePlaces ((n : Int) - 1) (-1) (-1))) _ _ s
  have e2 : Builtin.Slice.slicePlaces ((n : Int) - 1) (-1) (-1) = n := by
    unfold Builtin.Slice.slicePlaces
    rw [if_neg (by decide)]
    split
    · rw [show (-(-1 : Int)) = 1 by decide, Int.ediv_one]; omega
    · omega
  rw [e2]
  exact wpAny_pure h
theorem ev_fm {α β : Type} (f : α → Option β) (g : α → β) : ∀ l : List α, (∀ m ∈ l, f m = some (g m)) → l.filterMap f = l.map g
  | [], _ => rfl
  | x :: r, h => by
    rw [List.filterMap_cons, h x List.mem_cons_self, List.map_cons, ev_fm f g r fun m hm => h m (List.mem_cons_of_mem _ hm)]
theorem ev_pick_rev (xs : Array Value) : ((List.range xs.size).filterMap fun (m : Nat) => xs[((xs.size : Int) - 1 + (m : Int) * -1).toNat]?).toArray = xs.toList.reverse.toArray := by
  have e : ∀ m ∈ List.range xs.size, xs[((xs.size : Int) - 1 + (m : Int) * -1).toNat]? = some (xs.toList.reverse.getD m .none) := by
    intro m hm
    rw [List.mem_range] at hm
    have e1 : ((xs.size : Int) - 1 + (m : Int) * -1).toNat = xs.size - 1 - m := by omega
    rw [e1, List.getD_eq_getElem?_getD, List.getElem?_reverse (by simpa using hm)]
    simp only [Array.length_toList, Array.getElem?_toList]
    rw [Array.getElem?_eq_getElem (by omega)]
    rfl
  congr 1
  refine List.ext_getElem? fun i => ?_
  have e2 : ((List.range xs.size).filterMap fun (m : Nat) => xs[((xs.size : Int) - 1 + (m : Int) * -1).toNat]?) = (List.range xs.size).map fun m => xs.toList.reverse.getD m .none := by
    exact ev_fm _ _ _ e
  rw [e2, List.getElem?_map]
  by_cases hi : i < xs.size
  · rw [List.getElem?_range hi]
    simp only [Option.map_some]
    rw [List.getD_eq_getElem?_getD, List.getElem?_eq_getElem (by simpa using hi)]
    rfl
  · rw [List.getElem?_eq_none (by simpa using hi), List.getElem?_eq_none (by simpa using hi)]
    rfl
theorem ev_getItem_tuple_rev {t sl : Addr} {items : Array Value} {tk : Tok} {Q : Value → Shared → Prop} (ht : IsTup s.heap t items) (hs : s.heap.IsSliceOf sl .none .none (.int (-1) tk))
    (h : Q (.ref s.heap.objs.size) { s with heap := s.heap.push { cls := .type "tuple", data := .seq items.toList.reverse.toArray } })
    (hsz : items.size ≤ sizeLine) : wpAny (model prog w) A (getItem (.ref t) (.ref sl)) Q E s := by
  have htake : sizeOk (.seq items.toList.reverse.toArray) := by
    show items.toList.reverse.toArray.size ≤ sizeLine
    simpa using hsz
  obtain ⟨os, hos, hcs, hds⟩ := id hs
  have hTs : s.TypeIs (.ref sl) "slice" := ⟨os, hos, hcs⟩
  unfold getItem
  try with_reducible refine wpAny_holding ?_
  first | refine wpAny_bind (wpAny_pure ?_) | skip
  refine wpAny_bind (wpAny_sequenceKey ht.typeIs (by decide) ?_)
  refine wpAny_bind (wpAny_callSpecial?_slot (name := Str.ofString "__getitem__") ht.typeIs PyProof.Rows.slot_tuple_getitem
    (wpAny_call_entry PyProof.Rows.slot_tuple_getitem ht.typeIs entry_tuple_getitem ?_ (args_tuple_getitem _ _)))
  show wpAny _ _ (Builtin.Tuple.tupleItemsOf (.ref t) >>= _) _ _ s
  refine wpAny_bind (tupleItemsOf_ ht ?_)
  refine wpAny_bind (wpAny_typeOf hTs ?_)
  rw [if_pos (by decide)]
  refine wpAny_bind (ev_sliceApplied_rev hs ?_)
  show wpAny _ _ (if (((items.size : Int) - 1) == 0 && (-1 : Int) == 1 && items.size == items.size) = true then _ else _) _ _ s
  rw [if_neg (by simp), ev_pick_rev]
  first
    | exact wpAny_bind (m := Builtin.Tuple.tupleExact _) (wpAny_newObj_type (wpAny_pure ⟨_, rfl, wpAny_pure h⟩) htake)
    | exact wpAny_bind (m := Builtin.Tuple.tupleExact _) (wpAny_newObj_type (wpAny_bind (wpAny_pure (wpAny_pure ⟨_, rfl, wpAny_pure h⟩))) htake)
    | exact wpAny_bind (wpAny_bind (m := Builtin.Tuple.tupleExact _) (wpAny_newObj_type (wpAny_pure (wpAny_pure ⟨_, rfl, wpAny_pure h⟩)) htake))
    | exact wpAny_bind (wpAny_bind (m := Builtin.Tuple.tupleExact _) (wpAny_newObj_type (wpAny_pure ⟨_, rfl, wpAny_pure h⟩) htake))
end HT
namespace Ev
open PySem PySem.Spec
open PyProof.Rows L2
variable [LamN]
section
variable {X : Cx} {Y : XI} {e : Expr} {te : TE} {pos : Pos}
def tRevT (K : PySem.W.Frag) (te : TE) : TE := fun σ H Q => te σ H fun x H1 => ∃ a xs, x = .ref a ∧ SqT K H1 a xs ∧ ∀ p, H1 p = none → Q (.ref p) (upd H1 p (.tup xs.reverse))
theorem pe_revT {k : Nat} {p1 p2 p3 pos : Pos} (he : PE X e te) : PE X (.Subscript e (.Slice none none (some (.UnaryOp .USub (.Constant (.int 1) k p1) p2)) p3) pos) (tRevT X.K te) := by
  refine ⟨fun pins s σ H Q I h => ?_⟩
  refine Subscript_ (thn (he.run pins s σ H _ I h) fun v s1 ⟨x, H1, I1, r1, q1⟩ => ?_)
  obtain ⟨a, xs, ex, hx, q⟩ := q1
  subst ex
  cases r1
  have hst : PO X (some (.UnaryOp .USub (.Constant (.int 1) k p1) p2)) (tPart (tUn (rU fun i => .int (-i)) (tC (.int 1)))) := po_some (pe_un un_neg pe_int)
  refine wpAny_Slice (thn (po_none.run pins s1 σ H1 (fun o H2 => o = none ∧ H2 = H1) I1 ⟨rfl, rfl⟩) fun vl s2 ⟨l, H2, I2, pl, el, e2⟩ => ?_)
  subst el e2
  refine thn (po_none.run pins s2 σ H2 (fun o H3 => o = none ∧ H3 = H2) I2 ⟨rfl, rfl⟩) fun vu s3 ⟨u, H3, I3, pu, eu, e3⟩ => ?_
  subst eu e3
  refine thn (hst.run pins s3 σ H3 (fun o H4 => o = some (-1) ∧ H4 = H3) I3 ⟨1, rfl, -1, rfl, rfl, rfl⟩) fun vs s4 ⟨o, H4, I4, ps, eo, e4⟩ => ?_
  subst eo e4
  have I5 : Inv X pins σ H4 { s4 with heap := s4.heap.push { cls := .type "slice", data := .fields #[vl, vu, vs] } } := I4.kept (t' := s4.toks) fun b ob q => Heap.get?_push_of_some _ q
  obtain ⟨its, r, ht, hz⟩ := I5.tuple hx
  have hlen := r.length
  show wpAny (model X.prog X.w) X.A (subscriptTail e (.Slice none none (some (.UnaryOp .USub (.Constant (.int 1) k p1) p2)) p3) (.ref a) (.ref s4.heap.objs.size)) (EP X pins σ Q) X.xe { s4 with heap := s4.heap.push { cls := .type "slice", data := .fields #[vl, vu, vs] } }
  refine tail_any (ops := [.ref a, .ref s4.heap.objs.size]) ht.typeIs (PyProof.Rows.slot_tuple_getitem.lookup) ?_ (by with_unfolding_all rfl)
  cases pl
  cases pu
  cases ps
  refine HT.ev_getItem_tuple_rev ht (Heap.IsSliceOf.new _ _ _ _) ?_ (by rw [List.size_toArray, ← hlen]; exact hz)
  refine ⟨.ref _, _, I5.laid (t' := s4.toks) (o := .tup xs.reverse) (fun b ob q => Heap.get?_push_of_some _ q) (Nat.le_refl _) ?_, rfl, q _ (I5.hok.fresh (Nat.le_refl _))⟩
  exact ⟨by rw [List.length_reverse]; exact hz, _, r.reverse, ⟨_, Heap.get?_push_size _ rfl, rfl, _, rfl⟩⟩

/-! ### the other forms -/
variable {a b c : Expr} {ra rb rc : EM D} {rs : EM (List D)} {es : List Expr}
theorem pE_rev {k : Nat} {p1 p2 p3 : Pos} (m : Bool) (ha : PE X a (tE X.K Y ra)) : PE X (.Subscript a (.Slice none none (some (.UnaryOp .USub (.Constant (.int 1) k p1) p2)) p3) pos) (tE X.K Y (kRev m ra)) := by
  -- by what the value is
  have h1 : PE X a (fun σ H Q => tE X.K Y ra σ H Q) := ha
  refine ⟨fun pins s σ H Q I h => ?_⟩
  obtain ⟨env, mu, F, S, he, hg, hw⟩ := h
  have hw' := WY.bnd.mp hw
  cases er : ra env S with
  | exc _ _ _ => rw [er] at hw'; exact (pe_revT ha).run pins s σ H Q I ⟨env, mu, F, S, he, hg, by rw [er]; exact hw'⟩
  | no => rw [er] at hw'; exact hw'.elim
  | ok x S1 =>
    rw [er] at hw'
    have hw1 : WY (doRev m x S1) (Po X.K mu F H Q) (PoX X.K Y mu F H) := hw'
    have hr : ∀ {R : VK}, (∀ v H1 mu1, EnvR X.K mu1 F H1 σ env → Gd X.K mu1 F H1 S1 → Rp X.K mu1 F H1 v x → WY (doRev m x S1) (Po X.K mu1 F H1 Q) (PoX X.K Y mu1 F H1) → R v H1) → tE X.K Y ra σ H R := fun {R} hR => by
      refine ⟨env, mu, F, S, he, hg, ?_⟩
      rw [er]
      exact fun v H1 mu1 e g r => hR v H1 mu1 (he.mono hg.live e) g r (hw1.mono2 (fun d S2 q => cl_Po mu H mu1 H1 d S2 e g.live q) fun _ _ _ q => PoX.cl e g.live q)
    by_cases hx : ∃ xs, x = .tup xs
    · obtain ⟨xs, rfl⟩ := hx
      refine (pe_revT ha).run pins s σ H Q I (hr fun v H1 mu1 he1 hg1 r1 hw2 => ?_)
      cases r1 with
      | @tup a vs _ q t =>
        have hw2 : WY (lsK xs.reverse fun ys => Rs.ok (.tup ys) S1) (Po X.K mu1 F H1 Q) (PoX X.K Y mu1 F H1) := hw2
        rw [lsK_eq] at hw2
        exact ⟨a, vs, rfl, q, Po.tup hg1 t.reverse hw2⟩
    · refine (pe_revL ha).run pins s σ H Q I (hr fun v H1 mu1 he1 hg1 r1 hw2 => ?_)
      unfold doRev at hw2
      split at hw2
      · rename_i xs; exact absurd ⟨xs, rfl⟩ hx
      · split at hw2
        · rename_i ys e
          obtain ⟨a, vs, rfl, ha, ra⟩ := hg1.list r1 e
          exact ⟨a, vs, rfl, .inl (.inl ha), mkL_ok hg1 ra.reverse hw2⟩
        · exact hw2.elim
theorem pE_slA {p2 : Pos} (m : Bool) (ha : PE X a (tE X.K Y ra)) : PE X (.Subscript a (.Slice none none none p2) pos) (tE X.K Y (kSlA m ra)) := Ev.PE.imp (pe_slice (sl_ok m) ha po_none po_none) fun σ H Q ⟨env, mu, F, S, he, hg, hw⟩ =>
  run1 cl_Po he hg hw fun v H1 mu1 S1 x he1 hg1 r1 e1 hw1 => ⟨mu1, F, S1, x, _, hg1, r1, hw1⟩
theorem pE_slL {p2 : Pos} (m : Bool) (ha : PE X a (tE X.K Y ra)) (hb : PE X b (tE X.K Y rb)) : PE X (.Subscript a (.Slice (some b) none none p2) pos) (tE X.K Y (kSlL m ra rb)) := Ev.PE.imp (pe_slice (sl_ok m) ha (po_some hb) po_none) fun σ H Q ⟨env, mu, F, S, he, hg, hw⟩ =>
  run1 cl_Po he hg hw fun v H1 mu1 S1 x he1 hg1 r1 e1 hw1 => run1 cl_Po he1 hg1 hw1 fun w H2 mu2 S2 y he2 hg2 r2 e2 hw2 => by
    cases r2 with
    | int i => exact ⟨i, rfl, mu2, F, S2, x, _, hg2, r1.mono hg1.live e2, hw2⟩
    | _ => exact hw2.elim
theorem pE_slH {p2 : Pos} (m : Bool) (ha : PE X a (tE X.K Y ra)) (hb : PE X b (tE X.K Y rb)) : PE X (.Subscript a (.Slice none (some b) none p2) pos) (tE X.K Y (kSlH m ra rb)) := Ev.PE.imp (pe_slice (sl_ok m) ha po_none (po_some hb)) fun σ H Q ⟨env, mu, F, S, he, hg, hw⟩ =>
  run1 cl_Po he hg hw fun v H1 mu1 S1 x he1 hg1 r1 e1 hw1 => run1 cl_Po he1 hg1 hw1 fun w H2 mu2 S2 y he2 hg2 r2 e2 hw2 => by
    cases r2 with
    | int i => exact ⟨i, rfl, mu2, F, S2, x, _, hg2, r1.mono hg1.live e2, hw2⟩
    | _ => exact hw2.elim
theorem pE_slLH {p2 : Pos} (m : Bool) (ha : PE X a (tE X.K Y ra)) (hb : PE X b (tE X.K Y rb)) (hc : PE X c (tE X.K Y rc)) : PE X (.Subscript a (.Slice (some b) (some c) none p2) pos) (tE X.K Y (kSlLH m ra rb rc)) := Ev.PE.imp (pe_slice (sl_ok m) ha (po_some hb) (po_some hc)) fun σ H Q ⟨env, mu, F, S, he, hg, hw⟩ =>
  run1 cl_Po he hg hw fun v H1 mu1 S1 x he1 hg1 r1 e1 hw1 => run1 cl_Po he1 hg1 hw1 fun w H2 mu2 S2 y he2 hg2 r2 e2 hw2 => by
    cases y with
    | int i =>
      cases r2
      refine ⟨i, rfl, run1 cl_Po he2 hg2 hw2 fun u H3 mu3 S3 z he3 hg3 r3 e3 hw3 => ?_⟩
      cases r3 with
      | int j => exact ⟨j, rfl, mu3, F, S3, x, _, hg3, (r1.mono hg1.live e2).mono hg2.live e3, hw3⟩
      | _ => exact hw3.elim
    | _ => exact hw2.elim
/-! ### lists of arguments, displays -/
theorem pA_nil : PA X [] (tA X.K Y kNil) := Ev.PA.imp pa_nil fun σ H Q ⟨env, mu, F, S, he, hg, hw⟩ => hw [] H mu (Xt.refl _ _) hg .nil
theorem pA_cons (ha : PE X a (tE X.K Y ra)) (hs : PA X es (tA X.K Y rs)) (hst : starEach (a :: es) X.env = (false, eval a X.env) :: starEach es X.env) : PA X (a :: es) (tA X.K Y (kCons ra rs)) := Ev.PA.imp (pa_cons ha hs hst) fun σ H Q ⟨env, mu, F, S, he, hg, hw⟩ =>
  run1 cl_PoS he hg hw fun v H1 mu1 S1 x he1 hg1 r1 e1 hw1 => runL cl_PoS he1 hg1 hw1 fun ws H2 mu2 S2 ys he2 hg2 r2 e2 hw2 =>
    hw2 _ H2 mu2 (Xt.refl _ _) hg2 (.cons (r1.mono hg1.live e2) r2)
theorem WY.get {α : Type} {r : Rs α} {P : α → Store → Prop} {PX : PXT} (h : WY r P PX) : (∃ a S, r = .ok a S ∧ P a S) ∨ ∃ c d S, r = .exc c d S ∧ PX c d S := by
  cases r with
  | ok a S => exact .inl ⟨a, S, rfl, h⟩
  | exc c d S => exact .inr ⟨c, d, S, rfl, h⟩
  | no => exact h.elim
theorem WP.get {α : Type} {r : Rs α} {P : α → Store → Prop} (h : WP r P) : ∃ a S, r = .ok a S ∧ P a S := (WY.get h).elim id fun ⟨_, _, _, _, z⟩ => z.elim
/-- as many values as parts -/
def Len (rs : EM (List D)) (n : Nat) : Prop := ∀ env S ds S1, rs env S = .ok ds S1 → ds.length = n
theorem WY.len {rs : EM (List D)} {n : Nat} {env : Env} {S : Store} {P : List D → Store → Prop} {PX : PXT} (l : Len rs n) (h : WY (rs env S) P PX) : WY (rs env S) (fun ds S1 => P ds S1 ∧ ds.length = n) PX := by
  rcases h.get with ⟨ds, S1, e, p⟩ | ⟨c, d, S1, e, p⟩
  · rw [e]
    exact ⟨p, l _ _ _ _ e⟩
  · rw [e]; exact p
theorem runN {α : Type} {F : List Addr} {P : List Addr → Hp → α → Store → Prop} (hP : Cl F P) {n : Nat} {ra : EM (List D)} (l : Len ra n) {f : List D → M α} {env : Env} {mu : List Addr} {S : Store} {σ : L2.St} {H : Hp} (he : EnvR X.K mu F H σ env) (hg : Gd X.K mu F H S) (hw : WY (bnd (ra env) f S) (P mu H) (PoX X.K Y mu F H))
    {R : List V → Hp → Prop} (hR : ∀ v H1 mu1 S1 x, x.length = n → EnvR X.K mu1 F H1 σ env → Gd X.K mu1 F H1 S1 → Rps X.K mu1 F H1 v x → Xt mu H mu1 H1 → WY (f x S1) (P mu1 H1) (PoX X.K Y mu1 F H1) → R v H1) : tA X.K Y ra σ H R := by
  refine ⟨env, mu, F, S, he, hg, (WY.len l (WY.bnd.mp hw)).mono fun x S1 h v H1 mu1 e g r => ?_⟩
  exact hR v H1 mu1 S1 x h.2 (he.mono hg.live e) g r e (h.1.mono2 (fun a S2 q => hP mu H mu1 H1 a S2 e g.live q) fun _ _ _ q => PoX.cl e g.live q)
theorem pE_tup {x1 n : Nat} (hs : PA X es (tA X.K Y rs)) (l : Len rs n) (hn : n ≤ sizeLine) : PE X (.Tuple es x1 pos) (tE X.K Y (kTup rs)) := Ev.PE.imp (pe_tup hs) fun σ H Q ⟨env, mu, F, S, he, hg, hw⟩ =>
  runN (X := X) cl_Po l he hg hw fun v H1 mu1 S1 x hx he1 hg1 r1 e1 hw1 => ⟨by rw [r1.length, hx]; exact hn, Po.tup hg1 r1 hw1⟩
theorem pE_lst {n : Nat} (m : Bool) (hs : PA X es (tA X.K Y rs)) (l : Len rs n) (hn : n ≤ sizeLine) : PE X (.List es pos) (tE X.K Y (kLst m rs)) := Ev.PE.imp (pe_lst hs) fun σ H Q ⟨env, mu, F, S, he, hg, hw⟩ =>
  runN (X := X) cl_Po l he hg hw fun v H1 mu1 S1 x hx he1 hg1 r1 e1 hw1 => ⟨by rw [r1.length, hx]; exact hn, mkL_ok hg1 r1 hw1⟩

theorem pA_star {p : Pos} (ha : PE X a (tE X.K Y ra)) (hs : PA X es (tA X.K Y rs)) : PA X (.Starred a p :: es) (tA X.K Y (kStar ra rs)) := Ev.PA.imp (StX.pa_star ha hs) fun σ H Q ⟨env, mu, F, S, he, hg, hw⟩ =>
  run1 cl_PoS he hg hw fun v H1 mu1 S1 x he1 hg1 r1 e1 hw1 => by
    split at hw1
    · rename_i ys eq
      obtain ⟨q, vs, rfl, hq, rr⟩ := hg1.seq r1 eq
      refine ⟨q, vs, rfl, hq.symm, runL cl_PoS he1 hg1 hw1 fun ws H2 mu2 S2 zs he2 hg2 r2 e2 hw2 => ?_⟩
      rw [lsK_eq] at hw2
      have hw2 : PoS X.K mu2 F H2 Q (ys ++ zs) S2 := hw2
      exact hw2 _ H2 mu2 (Xt.refl _ _) hg2 ((rr.mono hg1.live e2).append r2)
    · exact hw1.elim
theorem pE_tupS {x1 : Nat} (hs : PA X es (tA X.K Y rs)) : PE X (.Tuple es x1 pos) (tE X.K Y (kTupS rs)) := Ev.PE.imp (pe_tup hs) fun σ H Q ⟨env, mu, F, S, he, hg, hw⟩ =>
  runL cl_Po he hg hw fun v H1 mu1 S1 x he1 hg1 r1 e1 hw1 => by
    unfold guard at hw1
    split at hw1
    · rename_i hl
      exact ⟨by rw [r1.length]; exact Nat.le_trans (Nat.le_of_ble_eq_true hl) (by rw [sizeLine_eq, LIM_eq]; exact Nat.le_refl _), Po.tup hg1 r1 hw1⟩
    · exact hw1.elim
theorem pE_lstS (m : Bool) (hs : PA X es (tA X.K Y rs)) : PE X (.List es pos) (tE X.K Y (kLstS m rs)) := Ev.PE.imp (pe_lst hs) fun σ H Q ⟨env, mu, F, S, he, hg, hw⟩ =>
  runL cl_Po he hg hw fun v H1 mu1 S1 x he1 hg1 r1 e1 hw1 => by
    unfold guard at hw1
    split at hw1
    · rename_i hl
      exact ⟨by rw [r1.length]; exact Nat.le_trans (Nat.le_of_ble_eq_true hl) (by rw [sizeLine_eq, LIM_eq]; exact Nat.le_refl _), mkL_ok hg1 r1 hw1⟩
    · exact hw1.elim

/-! ### calls -/
/-- what a def does, as a promise -/
structure XM where
  mg : Str → Option Value
  xt : XTab
def XM.at (m : XM) (E : XK) : XI := ⟨m.mg, m.xt, E⟩
def XI.m (Y : XI) : XM := ⟨Y.mg, Y.xt⟩
def spF (K : PySem.W.Frag) (m : XM) (cl : List D → M D) : Sp := fun vs H Q E => ∃ mu F S xs, Gd K mu F H S ∧ Rps K mu F H vs xs ∧ WY (cl xs S) (Po K mu F H Q) (PoX K (m.at E) mu F H)
theorem tCB_rd {f : List D → M D} {σ : L2.St} {H : Hp} {Q : VK} (h : tE X.K Y (kCall f rs) σ H Q) : tA X.K Y rs σ H fun vs H1 => RLof X.K f vs H1 Q := by
  obtain ⟨env, mu, F, S, he, hg, hw⟩ := h
  exact runL cl_Po he hg hw fun vs H1 mu1 S1 x he1 hg1 r1 e1 hw1 => ⟨mu1, F, S1, x, _, hg1, r1, hw1⟩
theorem tCF_rd {f : List D → M D} {σ : L2.St} {H : Hp} {Q : VK} (h : tE X.K Y (kCall f rs) σ H Q) : tA X.K Y rs σ H fun vs H1 => spF X.K Y.m f vs H1 Q Y.W := by
  obtain ⟨env, mu, F, S, he, hg, hw⟩ := h
  exact runL cl_Po he hg hw fun vs H1 mu1 S1 x he1 hg1 r1 e1 hw1 => ⟨mu1, F, S1, x, hg1, r1, hw1⟩
theorem pE_bi {x : Str} {p : Pos} {id : String} (k : Bi) (m : Bool) (hc : X.calm = true) (hgd : X.A.guards = some []) (hu : X.A.units + 64 < cLine) (hk : biF k = .builtin id) (hg : Gl X x) (hm : X.mg x = none) (hv : bootBuiltins x = some (.builtin id)) (ha : PA X (a :: es) (tA X.K Y rs)) (hn : x ≠ "__name__") (hdb : (x == ("__debug__" : Str)) = false)
    (he : starEach (a :: es) X.env = (false, eval a X.env) :: starEach es X.env) (hpl : (backTo pos (starEach es X.env)).any (·.1) = false) : PE X (.Call (.Name x p) (a :: es) [] pos) (tE X.K Y (kBi k m rs)) :=
  Ev.PE.imp (pe_callB (r := RLof X.K (doBi k m)) (by have := bi_ok (X := X) k m hc hgd hu (by rw [hk]; exact fun z => nomatch z); rw [hk] at this; exact this) hg hm hv ha hn hdb he hpl) fun σ H Q h => tCB_rd h
theorem pE_biTy {x : Str} {p : Pos} {T : String} (k : Bi) (m : Bool) (hc : X.calm = true) (hgd : X.A.guards = some []) (hu : X.A.units + 64 < cLine) (hk : biF k = .type T) (hg : Gl X x) (hm : X.mg x = none) (hv : bootBuiltins x = some (.type T)) (ha : PA X (a :: es) (tA X.K Y rs)) (hn : x ≠ "__name__") (hdb : (x == ("__debug__" : Str)) = false)
    (he : starEach (a :: es) X.env = (false, eval a X.env) :: starEach es X.env) (hpl : (backTo pos (starEach es X.env)).any (·.1) = false) : PE X (.Call (.Name x p) (a :: es) [] pos) (tE X.K Y (kBi k m rs)) :=
  Ev.PE.imp (pe_callTy (r := RLof X.K (doBi k m)) (by have := bi_ok (X := X) k m hc hgd hu (by rw [hk]; exact fun z => nomatch z); rw [hk] at this; exact this) hg hm hv ha hn hdb he hpl) fun σ H Q h => tCB_rd h
theorem pE_biFun {x : Str} {p : Pos} {id : String} (k : Bi) (m : Bool) (hc : X.calm = true) (hgd : X.A.guards = some []) (hu : X.A.units + 64 < cLine) (hk : biF k = .builtin id) (hg : Gl X x) (hm : X.mg x = some (.builtin id)) (ha : PA X (a :: es) (tA X.K Y rs)) (hdb : (x == ("__debug__" : Str)) = false)
    (he : starEach (a :: es) X.env = (false, eval a X.env) :: starEach es X.env) (hpl : (backTo pos (starEach es X.env)).any (·.1) = false) : PE X (.Call (.Name x p) (a :: es) [] pos) (tE X.K Y (kBi k m rs)) :=
  Ev.PE.imp (pe_callBfun (r := RLof X.K (doBi k m)) (by have := bi_ok (X := X) k m hc hgd hu (by rw [hk]; exact fun z => nomatch z); rw [hk] at this; exact this) hg hm ha hdb he hpl) fun σ H Q h => tCB_rd h
/-- isinstance(e, T) -/
theorem pE_isi {xT : Str} {p p1 : Pos} (t : Ty) (m : Bool) (hg : Gl X "isinstance") (hm : X.mg "isinstance" = none) (hg2 : Gl X xT) (hm2 : X.mg xT = none) (hv2 : bootBuiltins xT = some (.type (tyName t))) (hn2 : xT ≠ "__name__") (hd2 : (xT == ("__debug__" : Str)) = false) (ha : PE X a (tE X.K Y ra))
    (hst : starEach (a :: [.Name xT p1]) X.env = (false, eval a X.env) :: starEach [.Name xT p1] X.env) :
    PE X (.Call (.Name "isinstance" p) [a, .Name xT p1] [] pos) (tE X.K Y (kBi (.isinst t) m (kCons ra kNil))) := by
  refine Ev.PE.imp (pe_callB call_isi hg hm (by decide +kernel) (pa_cons ha (pa_cons (pe_bltn (v := .ty (tyName t)) hg2 hm2 hv2 rfl hn2 hd2) pa_nil (by rfl)) hst) (by decide) (by decide) hst rfl) fun σ H Q ⟨env, mu, F, S, he, hg, hw⟩ => ?_
  have hw2 : WY (bnd (ra env) (fun d => doBi (.isinst t) m [d]) S) (Po X.K mu F H Q) (PoX X.K Y mu F H) := by
    refine WY.bnd.mpr ?_
    have h1 := WY.bnd.mp hw
    have h2 := WY.bnd.mp h1
    exact h2.mono fun d S1 q => by
      have q2 := WY.bnd.mp q
      exact q2
  refine run1 cl_Po he hg hw2 fun v H1 mu1 S1 x he1 hg1 r1 e1 hw1 => ?_
  unfold doBi at hw1
  simp only at hw1
  split at hw1
  · rename_i u e
    exact isi_ok t hg1 r1 e (Po.flat hg1 (.bl _) hw1)
  · exact hw1.elim
theorem pE_call {x : Str} {p : Pos} {k : Nat} {f : Addr} {fd : FuncData} {ps : List Str} {cl : List D → M D} (tk : Takes X fun cls d _ H => Y.W cls d H) (Fk : FnOkG X.prog X.w X.K X.mg X.base (L2.CX X.prog X.w) k f fd ps (spF X.K Y.m cl)) (hr : Room k X.A) (hgd : X.A.guards = some []) (hg : Gl X x) (hm : X.mg x = some (.ref f)) (hk : PySem.W.keepIn X.K (.ref f) = true) (hb : Binds X.K fd ps [])
    (ha : PA X (a :: es) (tA X.K Y rs)) (hdb : (x == ("__debug__" : Str)) = false) (he : starEach (a :: es) X.env = (false, eval a X.env) :: starEach es X.env) (hpl : (backTo pos (starEach es X.env)).any (·.1) = false) : PE X (.Call (.Name x p) (a :: es) [] pos) (tE X.K Y (kCall cl rs)) := by
  exact Ev.PE.imp (pe_callG Fk hr hgd hg hm hk hb (passes_call tk (E := Y.W) fun _ _ _ _ h => h) ha hdb he hpl) fun σ H Q h => tCF_rd h
theorem pE_call0 {x : Str} {p : Pos} {k : Nat} {f : Addr} {fd : FuncData} {ps : List Str} {cl : List D → M D} (tk : Takes X fun cls d _ H => Y.W cls d H) (Fk : FnOkG X.prog X.w X.K X.mg X.base (L2.CX X.prog X.w) k f fd ps (spF X.K Y.m cl)) (hr : Room k X.A) (hgd : X.A.guards = some []) (hg : Gl X x) (hm : X.mg x = some (.ref f)) (hk : PySem.W.keepIn X.K (.ref f) = true) (hb : Binds X.K fd ps [])
    (hdb : (x == ("__debug__" : Str)) = false) : PE X (.Call (.Name x p) [] [] pos) (tE X.K Y (kCall cl kNil)) := by
  refine Ev.PE.imp (pe_call0G Fk hr hgd hg hm hk hb (passes_call tk (E := Y.W) fun _ _ _ _ h => h) hdb) fun σ H Q ⟨env, mu, F, S, he, hg, hw⟩ => ?_
  exact ⟨mu, F, S, [], hg, .nil, hw⟩
end
end Ev
/-! Ev: methods, ranges, sources -/
namespace Ev
open PySem PySem.Spec
open PyProof.Rows L2
variable [LamN]
section
variable {K : PySem.W.Frag} {mu F : List Addr} {H : Hp} {S : Store} {Q : VK}
theorem Po.put {n : Nat} {p : Addr} {vs : List V} {ds : List D} {v : V} {d : D} (g : Gd K mu F H S) (hn : mu[n]? = some p) (r : Rps K mu F H vs ds) (rd : Rp K mu F H v d) (h : Po K mu F H Q d (S.set n (.lst ds))) : Q v (upd H p (.lst vs)) :=
  have e : Xt mu H mu (upd H p (.lst vs)) := Xt.put (List.mem_of_getElem? hn)
  h v _ mu e (g.put (ds0 := []) hn r) (rd.mono g.live e)
theorem putL_ok {n : Nat} {f : List D → Option (List D × D)} {P : D → Store → Prop} {PX : PXT} (h : WY (putL n f S) P PX) : ∃ xs ys d, S[n]? = some (.lst xs) ∧ f xs = some (ys, d) ∧ P d (S.set n (.lst ys)) := by
  unfold putL at h
  split at h
  · rename_i xs e
    split at h
    · rename_i ys d e2
      rw [lsK_eq, lsK_eq] at h
      exact ⟨xs, ys, d, e, e2, h⟩
    · exact h.elim
  · exact h.elim
/-- what stands in the store is a list -/
theorem Gd.isList {n : Nat} {a : Addr} (g : Gd K mu F H S) (h : mu[n]? = some a) : ∃ vs, H a = some (.lst vs) := by
  have hn : n < S.length := by rw [← g.len]; exact (List.getElem?_eq_some_iff.mp h).1
  have := g.cell n S[n] a (List.getElem?_eq_getElem hn) h
  cases e : S[n] with
  | lst ds => rw [e] at this; obtain ⟨vs, h1, _⟩ := this; exact ⟨vs, h1⟩
  | obj _ _ => rw [e] at this; exact this.elim
end
section
variable {X : Cx} {Y : XI} {a b c : Expr} {ra rb rc : EM D} {rs : EM (List D)} {es : List Expr} {pos apos : Pos}
theorem tyV_list {K : PySem.W.Frag} {H : Hp} {p : Addr} {vs : List V} (h : H p = some (.lst vs)) : tyV K "list" (.ref p) H := .inl ⟨rfl, vs, .inl (.inl h)⟩
theorem pE_append (ha : PE X a (tE X.K Y ra)) (hb : PE X b (tE X.K Y rb)) (hbase : attributeBase a "append" X.env (eval a X.env) = eval a X.env) (hline : (apos.endLine == pos.line) = true)
    (hst : starEach [b] X.env = (false, eval b X.env) :: starEach [] X.env) : PE X (.Call (.Attribute a "append" apos) [b] [] pos) (tE X.K Y (kMt .append ra (kCons rb kNil))) := by
  refine Ev.PE.imp (pe_bm PySem.F.plainAttrs_list PySem.F.slot_list_append PySem.F.type_list_append mt_append ha (pa_cons hb pa_nil hst) (hbase := hbase) (hfew := by rw [hst]; rfl) (hline := hline) (hs := hst)) fun σ H Q ⟨env, mu, F, S, he, hg, hw⟩ => ?_
  refine run1 cl_Po he hg hw fun v H1 mu1 S1 x he1 hg1 r1 e1 hw1 => ?_
  cases x with
  | ref n =>
    have hw2 : WY (bnd (rb env) (fun d => doMt .append (.ref n) [d]) S1) (Po X.K mu1 F H1 Q) (PoX X.K Y mu1 F H1) := WY.bnd.mpr ((WY.bnd.mp (WY.bnd.mp (show WY (bnd _ _ S1) _ _ from hw1))).mono fun d S2 q => WY.bnd.mp q)
    cases r1 with
    | @ref _ p hn =>
      obtain ⟨vs0, h0⟩ := hg1.isList hn
      refine ⟨tyV_list h0, run1 cl_Po he1 hg1 hw2 fun w H2 mu2 S2 y he2 hg2 r2 e2 hw3 => ?_⟩
      have hn2 := e2.get hn
      have hw3 : WY (putL n (fun xs => if xs.length < LIM then some (xs ++ [y], .non) else none) S2) (Po X.K mu2 F H2 Q) (PoX X.K Y mu2 F H2) := hw3
      obtain ⟨xs, ys, d, h1, h2, h3⟩ := putL_ok hw3
      split at h2
      · rename_i hz
        cases h2
        obtain ⟨vs, h4, h5⟩ := hg2.ref hn2 h1
        exact ⟨p, vs, w, rfl, rfl, h4, by rw [h5.length, ← LIM_eq]; exact hz, Po.put hg2 hn2 (h5.append (.cons r2 .nil)) .non h3⟩
      · cases h2
  | _ => exact hw1.elim
theorem pE_extend (ha : PE X a (tE X.K Y ra)) (hb : PE X b (tE X.K Y rb)) (hbase : attributeBase a "extend" X.env (eval a X.env) = eval a X.env) (hline : (apos.endLine == pos.line) = true)
    (hst : starEach [b] X.env = (false, eval b X.env) :: starEach [] X.env) : PE X (.Call (.Attribute a "extend" apos) [b] [] pos) (tE X.K Y (kMt .extend ra (kCons rb kNil))) := by
  refine Ev.PE.imp (pe_bm PySem.F.plainAttrs_list PySem.F.slot_list_extend PySem.F.type_list_extend mt_extend ha (pa_cons hb pa_nil hst) (hbase := hbase) (hfew := by rw [hst]; rfl) (hline := hline) (hs := hst)) fun σ H Q ⟨env, mu, F, S, he, hg, hw⟩ => ?_
  refine run1 cl_Po he hg hw fun v H1 mu1 S1 x he1 hg1 r1 e1 hw1 => ?_
  cases x with
  | ref n =>
    have hw2 : WY (bnd (rb env) (fun d => doMt .extend (.ref n) [d]) S1) (Po X.K mu1 F H1 Q) (PoX X.K Y mu1 F H1) := WY.bnd.mpr ((WY.bnd.mp (WY.bnd.mp (show WY (bnd _ _ S1) _ _ from hw1))).mono fun d S2 q => WY.bnd.mp q)
    cases r1 with
    | @ref _ p hn =>
      obtain ⟨vs0, h0⟩ := hg1.isList hn
      refine ⟨tyV_list h0, run1 cl_Po he1 hg1 hw2 fun w H2 mu2 S2 y he2 hg2 r2 e2 hw3 => ?_⟩
      have hn2 := e2.get hn
      have hw3 : WY ((fun S => match lstOf S y with
        | some ys => putL n (fun xs => if xs.length + ys.length ≤ LIM then some (xs ++ ys, .non) else none) S
        | none => .no) S2) (Po X.K mu2 F H2 Q) (PoX X.K Y mu2 F H2) := hw3
      simp only at hw3
      split at hw3
      · rename_i zs ez
        obtain ⟨q, ws, rfl, hb, rb'⟩ := hg2.list r2 ez
        obtain ⟨xs, ys, d, h1, h2, h3⟩ := putL_ok hw3
        split at h2
        · rename_i hz
          cases h2
          obtain ⟨vs, h4, h5⟩ := hg2.ref hn2 h1
          exact ⟨p, q, vs, ws, rfl, rfl, h4, hb, by rw [h5.length, rb'.length, ← LIM_eq]; exact hz, Po.put hg2 hn2 (h5.append rb') .non h3⟩
        · cases h2
      · exact hw3.elim
  | _ => exact hw1.elim
theorem pE_pop (ha : PE X a (tE X.K Y ra)) (hbase : attributeBase a "pop" X.env (eval a X.env) = eval a X.env) (hline : (apos.endLine == pos.line) = true) :
    PE X (.Call (.Attribute a "pop" apos) [] [] pos) (tE X.K Y (kMt .pop ra kNil)) := by
  refine Ev.PE.imp (pe_bm0 PySem.F.plainAttrs_list PySem.F.slot_list_pop PySem.F.type_list_pop mt_pop ha hbase hline) fun σ H Q ⟨env, mu, F, S, he, hg, hw⟩ => ?_
  refine run1 cl_Po he hg hw fun v H1 mu1 S1 x he1 hg1 r1 e1 hw1 => ?_
  cases x with
  | ref n =>
    have hw2 : WY (doMt .pop (.ref n) [] S1) (Po X.K mu1 F H1 Q) (PoX X.K Y mu1 F H1) := hw1
    cases r1 with
    | @ref _ p hn =>
      obtain ⟨vs0, h0⟩ := hg1.isList hn
      have hw3 : WY (putL n (fun xs => match xs[xs.length - 1]? with | some d => some (xs.dropLast, d) | none => none) S1) (Po X.K mu1 F H1 Q) (PoX X.K Y mu1 F H1) := hw2
      obtain ⟨xs, ys, d, h1, h2, h3⟩ := putL_ok hw3
      obtain ⟨vs, h4, h5⟩ := hg1.ref hn h1
      split at h2
      · rename_i d0 ed
        cases h2
        obtain ⟨w, hw, rw'⟩ := h5.get ed
        exact ⟨tyV_list h0, p, vs, w, rfl, rfl, h4, by rw [h5.length]; exact hw, Po.put hg1 hn h5.dropLast rw' h3⟩
      · cases h2
  | _ => exact hw1.elim
theorem pE_bits (ha : PE X a (tE X.K Y ra)) (hbase : attributeBase a "bit_length" X.env (eval a X.env) = eval a X.env) (hline : (apos.endLine == pos.line) = true) :
    PE X (.Call (.Attribute a "bit_length" apos) [] [] pos) (tE X.K Y (kMt .bits ra kNil)) := by
  refine Ev.PE.imp (pe_bits ha hbase hline) fun σ H Q ⟨env, mu, F, S, he, hg, hw⟩ => ?_
  refine run1 cl_Po he hg hw fun v H1 mu1 S1 x he1 hg1 r1 e1 hw1 => ?_
  cases r1 with
  | int i =>
    have hw2 : WY (doMt .bits (.int i) [] S1) (Po X.K mu1 F H1 Q) (PoX X.K Y mu1 F H1) := hw1
    exact ⟨i, rfl, Po.flat hg1 (.int _) hw2⟩
  | _ => exact hw1.elim

/-! ### list(range(..)), tuple(range(..)) -/
theorem rgV_eq (a b : Int) : rgV a b = (rgI a b).map V.int := by
  unfold rgV
  refine List.ext_getElem? fun i => ?_
  rw [List.getElem?_map, List.getElem?_map]
  by_cases hi : i < (b - a).toNat
  · rw [List.getElem?_range hi, show (rgI a b)[i]? = some (a + i) from rgF_get _ _ _ hi]
    rfl
  · rw [List.getElem?_eq_none (by simpa using hi), List.getElem?_eq_none (by rw [show (rgI a b).length = (b - a).toNat from rgF_len _ _]; omega)]
    rfl
theorem rgOk_of {a b : Int} (h : rgOk a b = true) : RgOk a b := by
  unfold rgOk at h
  simp only [leI_eq, Bool.and_eq_true, decide_eq_true_eq, Nat.ble_eq] at h
  have e : LIM = 16777216 := rfl
  rw [e] at h
  exact ⟨by omega, by omega, by omega, by omega, by omega⟩
theorem WY.kCons1 {ra : EM D} {env : Env} {S : Store} {P : List D → Store → Prop} {PX : PXT} : WY (kCons ra kNil env S) P PX ↔ WY (ra env S) (fun d S1 => P [d] S1) PX := by
  unfold kCons kNil
  rw [WY.bnd]
  exact ⟨fun h => h.mono fun d S1 q => (WY.bnd.mp q), fun h => h.mono fun d S1 q => WY.bnd.mpr q⟩
theorem WY.kCons2 {ra rb : EM D} {env : Env} {S : Store} {P : List D → Store → Prop} {PX : PXT} : WY (kCons ra (kCons rb kNil) env S) P PX ↔ WY (ra env S) (fun d S1 => WY (rb env S1) (fun e S2 => P [d, e] S2) PX) PX := by
  unfold kCons kNil
  rw [WY.bnd]
  refine ⟨fun h => h.mono fun d S1 q => ?_, fun h => h.mono fun d S1 q => ?_⟩
  · have q := WY.bnd.mp (WY.bnd.mp q)
    exact q.mono fun e S2 q2 => WY.bnd.mp q2
  · exact WY.bnd.mpr (WY.bnd.mpr (q.mono fun e S2 q2 => WY.bnd.mpr q2))
theorem WY.kBi1 {k : Bi} {m : Bool} {ra : EM D} {env : Env} {S : Store} {P : D → Store → Prop} {PX : PXT} : WY (kBi k m (kCons ra kNil) env S) P PX ↔ WY (Ev.bnd (ra env) (fun d => doBi k m [d]) S) P PX := by
  unfold kBi
  rw [WY.bnd, WY.kCons1, WY.bnd]
theorem WY.kBi2 {k : Bi} {m : Bool} {ra rb : EM D} {env : Env} {S : Store} {P : D → Store → Prop} {PX : PXT} : WY (kBi k m (kCons ra (kCons rb kNil)) env S) P PX ↔ WY (Ev.bnd (ra env) (fun d => Ev.bnd (rb env) fun e => doBi k m [d, e]) S) P PX := by
  unfold kBi
  rw [WY.bnd, WY.kCons2, WY.bnd]
  exact ⟨fun h => h.mono fun d S1 q => WY.bnd.mpr q, fun h => h.mono fun d S1 q => WY.bnd.mp q⟩
variable {p q : Pos}
theorem pE_listRg1 (m : Bool) (hc : X.calm = true) (hg : Gl X "list") (hm : X.mg "list" = none) (hg2 : Gl X "range") (hm2 : X.mg "range" = none) (ha : PE X a (tE X.K Y ra)) (na : starEach [a] X.env = (false, eval a X.env) :: starEach [] X.env) :
    PE X (.Call (.Name "list" p) [.Call (.Name "range" q) [a] [] apos] [] pos) (tE X.K Y (kBi .listRg m (kCons ra kNil))) := by
  refine Ev.PE.imp (pe_listRg hc hg hm (prg_1 hg2 hm2 ha na)) fun σ H Q ⟨env, mu, F, S, he, hg, hw⟩ => ?_
  refine run1 cl_Po he hg (WY.kBi1.mp hw) fun v H1 mu1 S1 x he1 hg1 r1 e1 hw1 => ?_
  cases r1 with
  | int i =>
    have hw1 : WY (if rgOk 0 i then mkL m ((rgI 0 i).map D.int) S1 else .no) (Po X.K mu1 F H1 Q) (PoX X.K Y mu1 F H1) := hw1
    split at hw1
    · rename_i h
      exact ⟨i, rfl, rgOk_of h, by rw [rgV_eq]; exact mkL_ok hg1 (Rps.ints _) hw1⟩
    · exact hw1.elim
  | _ => exact hw1.elim
theorem pE_listRg2 (m : Bool) (hc : X.calm = true) (hg : Gl X "list") (hm : X.mg "list" = none) (hg2 : Gl X "range") (hm2 : X.mg "range" = none) (ha : PE X a (tE X.K Y ra)) (hb : PE X b (tE X.K Y rb))
    (na : starEach [a, b] X.env = (false, eval a X.env) :: starEach [b] X.env) (nb : starEach [b] X.env = (false, eval b X.env) :: starEach [] X.env) :
    PE X (.Call (.Name "list" p) [.Call (.Name "range" q) [a, b] [] apos] [] pos) (tE X.K Y (kBi .listRg m (kCons ra (kCons rb kNil)))) := by
  refine Ev.PE.imp (pe_listRg hc hg hm (prg_2 hg2 hm2 ha hb na nb (by rw [nb]; rfl))) fun σ H Q ⟨env, mu, F, S, he, hg, hw⟩ => ?_
  refine run1 cl_Po he hg (WY.kBi2.mp hw) fun v H1 mu1 S1 x he1 hg1 r1 e1 hw1 => run1 cl_Po he1 hg1 hw1 fun w H2 mu2 S2 y he2 hg2 r2 e2 hw2 => ?_
  cases x with
  | int i =>
    cases y with
    | int j =>
      cases r1; cases r2
      have hw2 : WY (if rgOk i j then mkL m ((rgI i j).map D.int) S2 else .no) (Po X.K mu2 F H2 Q) (PoX X.K Y mu2 F H2) := hw2
      split at hw2
      · rename_i h
        exact ⟨i, j, rfl, rfl, rgOk_of h, by rw [rgV_eq]; exact mkL_ok hg2 (Rps.ints _) hw2⟩
      · exact hw2.elim
    | _ => exact hw2.elim
  | _ => exact hw2.elim
theorem pE_tupRg1 (m : Bool) (hc : X.calm = true) (hg : Gl X "tuple") (hm : X.mg "tuple" = none) (hg2 : Gl X "range") (hm2 : X.mg "range" = none) (ha : PE X a (tE X.K Y ra)) (na : starEach [a] X.env = (false, eval a X.env) :: starEach [] X.env) :
    PE X (.Call (.Name "tuple" p) [.Call (.Name "range" q) [a] [] apos] [] pos) (tE X.K Y (kBi .tupRg m (kCons ra kNil))) := by
  refine Ev.PE.imp (pe_tupRg hc hg hm (prg_1 hg2 hm2 ha na)) fun σ H Q ⟨env, mu, F, S, he, hg, hw⟩ => ?_
  refine run1 cl_Po he hg (WY.kBi1.mp hw) fun v H1 mu1 S1 x he1 hg1 r1 e1 hw1 => ?_
  cases r1 with
  | int i =>
    have hw1 : WY (if rgOk 0 i then lsK ((rgI 0 i).map D.int) fun ys => .ok (.tup ys) S1 else .no) (Po X.K mu1 F H1 Q) (PoX X.K Y mu1 F H1) := hw1
    split at hw1
    · rename_i h
      rw [lsK_eq] at hw1
      exact ⟨i, rfl, rgOk_of h, by rw [rgV_eq]; exact Po.tup hg1 (Rps.ints _) hw1⟩
    · exact hw1.elim
  | _ => exact hw1.elim
theorem pE_tupRg2 (m : Bool) (hc : X.calm = true) (hg : Gl X "tuple") (hm : X.mg "tuple" = none) (hg2 : Gl X "range") (hm2 : X.mg "range" = none) (ha : PE X a (tE X.K Y ra)) (hb : PE X b (tE X.K Y rb))
    (na : starEach [a, b] X.env = (false, eval a X.env) :: starEach [b] X.env) (nb : starEach [b] X.env = (false, eval b X.env) :: starEach [] X.env) :
    PE X (.Call (.Name "tuple" p) [.Call (.Name "range" q) [a, b] [] apos] [] pos) (tE X.K Y (kBi .tupRg m (kCons ra (kCons rb kNil)))) := by
  refine Ev.PE.imp (pe_tupRg hc hg hm (prg_2 hg2 hm2 ha hb na nb (by rw [nb]; rfl))) fun σ H Q ⟨env, mu, F, S, he, hg, hw⟩ => ?_
  refine run1 cl_Po he hg (WY.kBi2.mp hw) fun v H1 mu1 S1 x he1 hg1 r1 e1 hw1 => run1 cl_Po he1 hg1 hw1 fun w H2 mu2 S2 y he2 hg2 r2 e2 hw2 => ?_
  cases x with
  | int i =>
    cases y with
    | int j =>
      cases r1; cases r2
      have hw2 : WY (if rgOk i j then lsK ((rgI i j).map D.int) fun ys => .ok (.tup ys) S2 else .no) (Po X.K mu2 F H2 Q) (PoX X.K Y mu2 F H2) := hw2
      split at hw2
      · rename_i h
        rw [lsK_eq] at hw2
        exact ⟨i, j, rfl, rfl, rgOk_of h, by rw [rgV_eq]; exact Po.tup hg2 (Rps.ints _) hw2⟩
      · exact hw2.elim
    | _ => exact hw2.elim
  | _ => exact hw2.elim

/-! ### sources -/
theorem src_rg1 {ds : List D} {S : Store} {r : List D × Deps} (e : srcOf .rg1 ds S = some r) : ∃ b, ds = [.int b] ∧ (if rgOk 0 b then some ((rgI 0 b).map D.int, ([] : Deps)) else none) = some r := by
  rcases ds with _ | ⟨d, _ | ⟨d2, rest⟩⟩
  · cases e
  · cases d <;> first | exact ⟨_, rfl, e⟩ | cases e
  · cases d <;> cases e
theorem src_rg2 {ds : List D} {S : Store} {r : List D × Deps} (e : srcOf .rg2 ds S = some r) : ∃ a b, ds = [.int a, .int b] ∧ (if rgOk a b then some ((rgI a b).map D.int, ([] : Deps)) else none) = some r := by
  rcases ds with _ | ⟨d, _ | ⟨d2, _ | ⟨d3, rest⟩⟩⟩
  · cases e
  · cases d <;> cases e
  · cases d <;> first | (cases e; done) | (cases d2 <;> first | exact ⟨_, _, rfl, e⟩ | cases e)
  · cases d <;> cases d2 <;> cases e
theorem src_en {ds : List D} {S : Store} {r : List D × Deps} (e : srcOf .en ds S = some r) : ∃ d, ds = [d] ∧ (seqD S d).map (fun p => (enumD p.1 0, p.2)) = some r := by
  rcases ds with _ | ⟨d, _ | ⟨d2, rest⟩⟩
  · cases e
  · exact ⟨_, rfl, e⟩
  · cases e
theorem src_zp {ds : List D} {S : Store} {r : List D × Deps} (e : srcOf .zp ds S = some r) : ∃ d d', ds = [d, d'] ∧ ((seqD S d).bind fun p => (seqD S d').map fun q => (zipD p.1 q.1, p.2 ++ q.2)) = some r := by
  rcases ds with _ | ⟨d, _ | ⟨d2, _ | ⟨d3, rest⟩⟩⟩
  · cases e
  · cases e
  · exact ⟨_, _, rfl, e⟩
  · cases e
theorem src_zp3 {ds : List D} {S : Store} {r : List D × Deps} (e : srcOf .zp3 ds S = some r) : ∃ d d' d'', ds = [d, d', d''] ∧ ((seqD S d).bind fun p => (seqD S d').bind fun q => (seqD S d'').map fun r => (zip3D p.1 q.1 r.1, p.2 ++ q.2 ++ r.2)) = some r := by
  rcases ds with _ | ⟨d, _ | ⟨d2, _ | ⟨d3, _ | ⟨d4, rest⟩⟩⟩⟩
  · cases e
  · cases e
  · cases e
  · exact ⟨_, _, _, rfl, e⟩
  · cases e
theorem src_get {k : SK} {σ : L2.St} {H : Hp} {R : It → Hp → Prop} (h : tSrc X.K Y k rs σ H R) {T : List V → Hp → Prop}
    (hT : ∀ vs H1 mu1 F S1 ds xs dp, Gd X.K mu1 F H1 S1 → Rps X.K mu1 F H1 vs ds → srcOf k ds S1 = some (xs, dp) → (∀ J, Gives2 X.K J xs dp mu1 F H1 → R J H1) → T vs H1) : tA X.K Y rs σ H T := by
  obtain ⟨env, mu, F, S, he, hg, hw⟩ := h
  refine ⟨env, mu, F, S, he, hg, hw.mono fun ds S1 ⟨xs, dp, e, q⟩ vs H1 mu1 e1 g1 r1 => ?_⟩
  exact hT vs H1 mu1 F S1 ds xs dp g1 r1 e fun J hJ => q J H1 mu1 e1 g1 hJ
variable {tg e2 e3 : Expr} {elts : List Expr} {kk : Nat} {tpos : Pos}
theorem pI_vl (ha : PE X a (tE X.K Y ra)) : PI X tg a (tSrc X.K Y .vl (kCons ra kNil)) := by
  refine Ev.PI.imp (Ev.PI.or (pi_list ha) (pi_tup ha)) fun σ H R h => ?_
  obtain ⟨env, mu, F, S, he, hg, hw⟩ := h
  have hw1 := WY.kCons1.mp hw
  rcases hw1.get with ⟨x, S1, ex, xs, dp, e, q⟩ | ⟨c0, d0, S1, ex, q⟩
  rotate_left
  · exact .inl ⟨env, mu, F, S, he, hg, by rw [ex]; exact q⟩
  have hr : ∀ {T : VK}, (∀ v H1 mu1, Xt mu H mu1 H1 → Gd X.K mu1 F H1 S1 → Rp X.K mu1 F H1 v x → T v H1) → tE X.K Y ra σ H T := fun {T} hT => by
    refine ⟨env, mu, F, S, he, hg, ?_⟩
    rw [ex]
    exact fun v H1 mu1 e1 g1 r1 => hT v H1 mu1 e1 g1 r1
  have e : seqD S1 x = some (xs, dp) := e
  by_cases hx : ∃ ys, x = .tup ys
  · refine .inr (hr fun v H1 mu1 e1 g1 r1 => ?_)
    obtain ⟨b, p, rfl, c, hb⟩ := colm g1 r1 e
    cases hb.mpr hx
    exact ⟨p, rfl, c.now, q _ H1 mu1 e1 g1 (gives_vl c)⟩
  · refine .inl (hr fun v H1 mu1 e1 g1 r1 => ?_)
    obtain ⟨b, p, rfl, c, hb⟩ := colm g1 r1 e
    cases b with
    | true => exact ⟨p, rfl, c.now, q _ H1 mu1 e1 g1 (gives_vl c)⟩
    | false => exact absurd (hb.mp rfl) hx
theorem pI_rg1 (hg : Gl X "range") (hm : X.mg "range" = none) (ha : PA X [a] (tA X.K Y rs)) (hs : starEach [a] X.env = (false, eval a X.env) :: starEach [] X.env) : PI X tg (.Call (.Name "range" p) [a] [] pos) (tSrc X.K Y .rg1 rs) := by
  refine Ev.PI.imp (pi_range1 hg hm ha hs) fun σ H R h => src_get h fun vs H1 mu1 F S1 ds xs dp g r e hR => ?_
  have e' := src_rg1 e
  clear e
  obtain ⟨b, rfl, e⟩ := e'
  obtain ⟨v, rfl, r1⟩ := vals_ref r
  cases r1
  split at e
  · rename_i hk
    cases e
    have := rgOk_of hk
    refine ⟨b, rfl, this.2.2.1, this.2.2.2.1, hR _ ?_⟩
    have := gives_rg (K := X.K) (mu := mu1) (F := F) (H := H1) 0 b
    rwa [Int.sub_zero] at this
  · cases e
theorem pI_rg2 (hg : Gl X "range") (hm : X.mg "range" = none) (ha : PA X [a, b] (tA X.K Y rs)) (hs : starEach [a, b] X.env = (false, eval a X.env) :: starEach [b] X.env) (hs2 : starEach [b] X.env = (false, eval b X.env) :: starEach [] X.env) : PI X tg (.Call (.Name "range" p) [a, b] [] pos) (tSrc X.K Y .rg2 rs) := by
  refine Ev.PI.imp (pi_range2 hg hm ha (by rw [hs, hs2]; rfl) hs2) fun σ H R h => src_get h fun vs H1 mu1 F S1 ds xs dp g r e hR => ?_
  have e' := src_rg2 e
  clear e
  obtain ⟨i, j, rfl, e⟩ := e'
  obtain ⟨v, w, rfl, r1, r2⟩ := vals_ref2 r
  cases r1; cases r2
  split at e
  · rename_i hk
    cases e
    have := rgOk_of hk
    exact ⟨i, j, rfl, ⟨this.1, this.2.1, this.2.2.1, this.2.2.2.1⟩, hR _ (gives_rg i j)⟩
  · cases e
theorem pI_en (hg : Gl X "enumerate") (hm : X.mg "enumerate" = none) (ha : PA X [a] (tA X.K Y rs)) (hs : starEach [a] X.env = (false, eval a X.env) :: starEach [] X.env) : PI X (.Tuple elts kk tpos) (.Call (.Name "enumerate" p) [a] [] pos) (tSrc X.K Y .en rs) := by
  refine Ev.PI.imp (pi_enK hg hm ha hs) fun σ H R h => src_get h fun vs H1 mu1 F S1 ds xs dp g r e hR => ?_
  have e' := src_en e
  clear e
  obtain ⟨d, rfl, e⟩ := e'
  obtain ⟨v, rfl, r1⟩ := vals_ref r
  cases e1 : seqD S1 d with
  | none => rw [e1] at e; cases e
  | some pr =>
    obtain ⟨ys, dq⟩ := pr
    rw [e1] at e
    cases e
    obtain ⟨b, q, rfl, c, _⟩ := colm g r1 e1
    exact ⟨b, q, rfl, c.now, hR _ (gives_en c)⟩
theorem pI_zp (hg : Gl X "zip") (hm : X.mg "zip" = none) (ha : PA X [a, b] (tA X.K Y rs)) (hs : starEach [a, b] X.env = (false, eval a X.env) :: starEach [b] X.env) (hs2 : starEach [b] X.env = (false, eval b X.env) :: starEach [] X.env) : PI X (.Tuple elts kk tpos) (.Call (.Name "zip" p) [a, b] [] pos) (tSrc X.K Y .zp rs) := by
  refine Ev.PI.imp (pi_zpK hg hm ha hs (by rw [hs2]; rfl)) fun σ H R h => src_get h fun vs H1 mu1 F S1 ds xs dp g r e hR => ?_
  have e' := src_zp e
  clear e
  obtain ⟨d, d', rfl, e⟩ := e'
  obtain ⟨v, w, rfl, r1, r2⟩ := vals_ref2 r
  cases e1 : seqD S1 d with
  | none => rw [e1] at e; cases e
  | some pr =>
    obtain ⟨ys, dq⟩ := pr
    cases e2 : seqD S1 d' with
    | none => rw [e1, e2] at e; cases e
    | some pr' =>
      obtain ⟨ys', dq'⟩ := pr'
      rw [e1, e2] at e
      cases e
      obtain ⟨b, q, rfl, c, _⟩ := colm g r1 e1
      obtain ⟨b', q', rfl, c', _⟩ := colm g r2 e2
      exact ⟨b, b', q, q', rfl, c.now, c'.now, hR _ (gives_zp c c')⟩
theorem vals_ref3 {K : PySem.W.Frag} {mu F : List Addr} {H : Hp} {vs : List V} {d e f : D} (r : Rps K mu F H vs [d, e, f]) : ∃ v w u, vs = [v, w, u] ∧ Rp K mu F H v d ∧ Rp K mu F H w e ∧ Rp K mu F H u f := by
  cases r with
  | cons r t => obtain ⟨w, u, rfl, q, q'⟩ := vals_ref2 t; exact ⟨_, w, u, rfl, r, q, q'⟩
theorem pI_zp3 (hg : Gl X "zip") (hm : X.mg "zip" = none) (ha : PA X [a, b, c] (tA X.K Y rs)) (hs : starEach [a, b, c] X.env = (false, eval a X.env) :: starEach [b, c] X.env) (hs2 : starEach [b, c] X.env = (false, eval b X.env) :: starEach [c] X.env) (hs3 : starEach [c] X.env = (false, eval c X.env) :: starEach [] X.env) :
    PI X (.Tuple elts kk tpos) (.Call (.Name "zip" p) [a, b, c] [] pos) (tSrc X.K Y .zp3 rs) := by
  refine Ev.PI.imp (pi_zp3K hg hm ha hs (by rw [hs2, hs3]; rfl)) fun σ H R h => src_get h fun vs H1 mu1 F S1 ds xs dp g r e hR => ?_
  have e' := src_zp3 e
  clear e
  obtain ⟨d, d', d'', rfl, e⟩ := e'
  obtain ⟨v, w, u, rfl, r1, r2, r3⟩ := vals_ref3 r
  cases e1 : seqD S1 d with
  | none => rw [e1] at e; cases e
  | some pr =>
    obtain ⟨ys, dq⟩ := pr
    cases e2 : seqD S1 d' with
    | none => rw [e1, e2] at e; cases e
    | some pr' =>
      obtain ⟨ys', dq'⟩ := pr'
      cases e3 : seqD S1 d'' with
      | none => rw [e1, e2, e3] at e; cases e
      | some pr'' =>
        obtain ⟨ys'', dq''⟩ := pr''
        rw [e1, e2, e3] at e
        cases e
        obtain ⟨b, q, rfl, c, _⟩ := colm g r1 e1
        obtain ⟨b', q', rfl, c', _⟩ := colm g r2 e2
        obtain ⟨b'', q'', rfl, c'', _⟩ := colm g r3 e3
        exact ⟨b, b', b'', q, q', q'', rfl, c.now, c'.now, c''.now, hR _ (gives_zp3 c c' c'')⟩
end
end Ev
/-! Ev: names, targets, comprehensions -/
namespace Ev
open PySem PySem.Spec
open PyProof.Rows L2
variable [LamN]

section
variable {K : PySem.W.Frag} {mu mu' F F' : List Addr} {H H' : Hp} {S S' : Store} {a p : Addr}
/-! ### fewer addresses kept out; a list of ours that is kept out changes; it becomes a value -/
mutual
theorem Rp.fewer (f : ∀ b, b ∈ F' → b ∈ F) : ∀ {v : V} {d : D}, Rp K mu F H v d → Rp K mu F' H v d
  | _, _, .non => .non
  | _, _, .bl b => .bl b
  | _, _, .int i => .int i
  | _, _, .str s => .str s
  | _, _, .tup h r => .tup h (Rps.fewer f r)
  | _, _, .lst h r => .lst ⟨h.1, h.2.1, fun hf => h.2.2 (f _ hf)⟩ (Rps.fewer f r)
  | _, _, .ref h => .ref h
  | _, _, .scr h r => .scr (h.elim (fun h => .inl ⟨h.1, h.2.1, fun hf => h.2.2 (f _ hf)⟩) .inr) (Rps.fewer f r)
  | _, _, .opq h => .opq ⟨h.1, h.2.1, fun hf => h.2.2 (f _ hf)⟩
  | _, _, .gl h => .gl h
theorem Rps.fewer (f : ∀ b, b ∈ F' → b ∈ F) : ∀ {vs : List V} {ds : List D}, Rps K mu F H vs ds → Rps K mu F' H vs ds
  | _, _, .nil => .nil
  | _, _, .cons r t => .cons (Rp.fewer f r) (Rps.fewer f t)
end
theorem Gd.fewer (f : ∀ b, b ∈ F' → b ∈ F) (g : Gd K mu F H S) : Gd K mu F' H S :=
  ⟨⟨g.live.nd, g.live.mt, fun b hb hf => g.live.out b hb (f b hf), fun b hb => g.live.frn b (f b hb)⟩, g.len, fun n c b h1 h2 => by
    have := g.cell n c b h1 h2
    cases c with
    | lst ds => obtain ⟨vs, e, r⟩ := this; exact ⟨vs, e, r.fewer f⟩
    | obj _ _ => exact this.elim, g.tb⟩
theorem upd_ne_of {o u : HO} {b : Addr} (h : H b = some u) (ho : ∀ z, H p = some z → z ≠ u) (hp : ∃ z, H p = some z) : upd H p o b = some u := by
  obtain ⟨z, hz⟩ := hp
  rw [upd_ne (show b ≠ p from fun e => by subst e; rw [hz] at h; exact ho z hz (Option.some.inj h))]
  exact h
mutual
theorem Rp.inF {o o' : HO} (hp : H p = some o) (ho : Acc o) (ho' : Acc o') (hF : p ∈ F) : ∀ {v : V} {d : D}, Rp K mu F H v d → Rp K mu F (upd H p o') v d
  | _, _, .non => .non
  | _, _, .bl b => .bl b
  | _, _, .int i => .int i
  | _, _, .str s => .str s
  | _, _, .tup h r => .tup (h.elim (fun h => .inl (h.elim (fun h => .inl (upd_ne_of h (fun z hz e => by rw [hp] at hz; cases hz; subst e; exact ho) ⟨_, hp⟩)) fun ⟨o, h⟩ => .inr ⟨o, upd_ne_of h (fun z hz e => by rw [hp] at hz; cases hz; subst e; exact ho) ⟨_, hp⟩⟩)) .inr) (Rps.inF hp ho ho' hF r)
  | _, _, .lst h r => .lst ⟨by rw [upd_ne (show _ ≠ p from fun e => h.2.2 (by rw [e]; exact hF))]; exact h.1, h.2.1, h.2.2⟩ (Rps.inF hp ho ho' hF r)
  | _, _, .ref h => .ref h
  | _, _, .scr h r => .scr (h.elim (fun h => .inl ⟨by rw [upd_ne (show _ ≠ p from fun e => h.2.2 (by rw [e]; exact hF))]; exact h.1, h.2.1, h.2.2⟩) fun h => .inr (h.elim (fun ⟨o, h⟩ => .inl ⟨o, upd_ne_of h (fun z hz e => by rw [hp] at hz; cases hz; subst e; exact ho) ⟨_, hp⟩⟩) .inr)) (Rps.inF hp ho ho' hF r)
  | _, _, .opq h => .opq ⟨by rw [upd_ne (show _ ≠ p from fun e => h.2.2 (by rw [e]; exact hF))]; exact h.1, h.2.1, h.2.2⟩
  | _, _, .gl h => .gl h
theorem Rps.inF {o o' : HO} (hp : H p = some o) (ho : Acc o) (ho' : Acc o') (hF : p ∈ F) : ∀ {vs : List V} {ds : List D}, Rps K mu F H vs ds → Rps K mu F (upd H p o') vs ds
  | _, _, .nil => .nil
  | _, _, .cons r t => .cons (Rp.inF hp ho ho' hF r) (Rps.inF hp ho ho' hF t)
end
theorem Gd.inF {o o' : HO} (hp : H p = some o) (ho : Acc o) (ho' : Acc o') (hF : p ∈ F) (g : Gd K mu F H S) : Gd K mu F (upd H p o') S := by
  have hm : ∀ b, b ∈ mu → b ≠ p := fun b hb e => g.live.out b hb (by rw [e]; exact hF)
  refine ⟨⟨g.live.nd, fun b hb => ?_, g.live.out, fun b hb => ?_⟩, g.len, fun n c b h1 h2 => ?_, tabs_put g.tb hp ho⟩
  · rw [upd_ne (hm b hb)]; exact g.live.mt b hb
  · by_cases e : b = p
    · subst e; rw [upd_same]; exact ⟨_, rfl, fun _ z => by subst z; exact ho'⟩
    · rw [upd_ne e]; exact g.live.frn b hb
  · have := g.cell n c b h1 h2
    cases c with
    | lst ds => obtain ⟨vs, e, r⟩ := this; exact ⟨vs, by rw [upd_ne (hm b (List.mem_of_getElem? h2))]; exact e, r.inF hp ho ho' hF⟩
    | obj _ _ => exact this.elim
mutual
theorem Rp.thaw : ∀ {v : V} {d : D}, Rp K mu (p :: F) H v d → Rp K (mu ++ [p]) F H v d
  | _, _, .non => .non
  | _, _, .bl b => .bl b
  | _, _, .int i => .int i
  | _, _, .str s => .str s
  | _, _, .tup h r => .tup h (Rps.thaw r)
  | _, _, .lst h r => .lst ⟨h.1, fun hm => (List.mem_append.mp hm).elim h.2.1 fun z => h.2.2 (by rw [List.mem_singleton] at z; rw [z]; exact List.mem_cons_self), fun hf => h.2.2 (List.mem_cons_of_mem _ hf)⟩ (Rps.thaw r)
  | _, _, .ref h => .ref (by rw [List.getElem?_append_left (List.getElem?_eq_some_iff.mp h).1]; exact h)
  | _, _, .scr h r => .scr (h.elim (fun h => .inl ⟨h.1, fun hm => (List.mem_append.mp hm).elim h.2.1 fun z => h.2.2 (by rw [List.mem_singleton] at z; rw [z]; exact List.mem_cons_self), fun hf => h.2.2 (List.mem_cons_of_mem _ hf)⟩) .inr) (Rps.thaw r)
  | _, _, .opq h => .opq ⟨h.1, fun hm => (List.mem_append.mp hm).elim h.2.1 fun z => h.2.2 (by rw [List.mem_singleton] at z; rw [z]; exact List.mem_cons_self), fun hf => h.2.2 (List.mem_cons_of_mem _ hf)⟩
  | _, _, .gl h => .gl h
theorem Rps.thaw : ∀ {vs : List V} {ds : List D}, Rps K mu (p :: F) H vs ds → Rps K (mu ++ [p]) F H vs ds
  | _, _, .nil => .nil
  | _, _, .cons r t => .cons (Rp.thaw r) (Rps.thaw t)
end
theorem Gd.thaw {vs : List V} {ds : List D} (hp : H p = some (.lst vs)) (hF : p ∉ F) (r : Rps K mu (p :: F) H vs ds) (g : Gd K mu (p :: F) H S) : Gd K (mu ++ [p]) F H (S ++ [.lst ds]) := by
  have hpm : p ∉ mu := fun h => g.live.out p h List.mem_cons_self
  refine ⟨⟨?_, fun b hb => ?_, fun b hb => ?_, fun b hb => g.live.frn b (List.mem_cons_of_mem _ hb)⟩, by simp [g.len], fun n c b h1 h2 => ?_, g.tb⟩
  · rw [List.nodup_append]
    refine ⟨g.live.nd, by simp, fun b hb c hc e => ?_⟩
    simp at hc
    subst hc e
    exact hpm hb
  · rcases List.mem_append.mp hb with hb | hb
    · exact g.live.mt b hb
    · simp at hb; subst hb; rw [hp]; trivial
  · rcases List.mem_append.mp hb with hb | hb
    · exact fun hf => g.live.out b hb (List.mem_cons_of_mem _ hf)
    · simp at hb; subst hb; exact hF
  · by_cases hn : n < S.length
    · rw [List.getElem?_append_left hn] at h1
      rw [List.getElem?_append_left (by rw [g.len]; exact hn)] at h2
      have := g.cell n c b h1 h2
      cases c with
      | lst ds => obtain ⟨vs, e, r⟩ := this; exact ⟨vs, e, r.thaw⟩
      | obj _ _ => exact this.elim
    · rw [List.getElem?_append_right (by omega)] at h1
      rw [List.getElem?_append_right (by rw [g.len]; omega), g.len] at h2
      have hz : n - S.length = 0 := by
        by_cases h0 : n - S.length = 0
        · exact h0
        · rw [List.getElem?_eq_none (by simp; omega)] at h1; cases h1
      rw [hz] at h1 h2
      simp at h1 h2
      subst h1 h2
      exact ⟨vs, hp, r.thaw⟩
/-- what mkL asks of a list that stands already -/
theorem mkL_fin {m : Bool} {vs : List V} {ds : List D} {Q : VK} {H0 : Hp} {mu0 : List Addr} (g : Gd K mu (p :: F) H S) (hp : H p = some (.lst vs)) (r : Rps K mu (p :: F) H vs ds) (e : Xt mu0 H0 mu H) (h0 : Fr0 H0 p) (hF : p ∉ F)
    {PX : PXT} (h : WY (mkL m ds S) (Po K mu0 F H0 Q) PX) : Q (.ref p) H := by
  unfold mkL at h
  rw [lsK_eq] at h
  have hpm : p ∉ mu := fun h => g.live.out p h List.mem_cons_self
  have sub : ∀ b, b ∈ F → b ∈ p :: F := fun b hb => List.mem_cons_of_mem _ hb
  cases m with
  | false =>
    have h : Po K mu0 F H0 Q (.lst ds) S := h
    exact h _ _ mu e (g.fewer sub) (.lst ⟨hp, hpm, hF⟩ (r.fewer sub))
  | true =>
    have h : WY (alloc (.lst ds) S) (Po K mu0 F H0 Q) PX := h
    unfold alloc at h
    rw [natK_eq, lsK_eq] at h
    have h : Po K mu0 F H0 Q (.ref S.length) (S ++ [.lst ds]) := h
    refine h _ _ (mu ++ [p]) ?_ (g.thaw hp hF r) (.ref (by rw [← g.len]; simp))
    obtain ⟨l, rfl, hl⟩ := e.pre
    exact ⟨⟨l ++ [p], by simp, fun b hb => by
      rcases List.mem_append.mp hb with hb | hb
      · exact hl b hb
      · simp at hb; subst hb; exact h0⟩, e.keep⟩
end

/-! ### names -/
section
variable {X : Cx} {Y : XI} {pos : Pos}
theorem pE_var {i : Nat} {x : Str} (hN : X.N[i]? = some x) (hv : Vis X.env.scope x) (hd : (x == ("__debug__" : Str)) = false) (hcd : (x == ("__classdict__" : Str)) = false) : PE X (.Name x pos) (tE X.K Y (getV i)) :=
  Ev.PE.imp (pe_var hN hv hd hcd) fun σ H Q ⟨env, mu, F, S, he, hg, hw⟩ => by
    unfold getV at hw
    rw [nth_eq] at hw
    split at hw
    · rename_i d hd
      obtain ⟨v, h1, h2⟩ := he.2 i d hd
      have hw : Po X.K mu F H Q d S := hw
      exact ⟨v, h1, hw v H mu (Xt.refl _ _) hg h2⟩
    · exact hw.elim
theorem tE_ret {K : PySem.W.Frag} {d : D} {σ : L2.St} {H : Hp} {Q : VK} {v : V} (r : ∀ mu F, Rp K mu F H v d) {Y : XI} (h : tE K Y (kRet d) σ H Q) : Q v H := by
  obtain ⟨env, mu, F, S, he, hg, hw⟩ := h
  have hw : Po K mu F H Q d S := hw
  exact hw v H mu (Xt.refl _ _) hg (r mu F)
theorem pE_int {i : Int} {j} : PE X (.Constant (.int i) j pos) (tE X.K Y (kRet (.int i))) := Ev.PE.imp pe_int fun σ H Q h => tE_ret (fun _ _ => .int i) h
theorem pE_bl {i : Bool} {j} : PE X (.Constant (.bool i) j pos) (tE X.K Y (kRet (.bl i))) := Ev.PE.imp pe_bl fun σ H Q h => tE_ret (fun _ _ => .bl i) h
theorem pE_non {j} : PE X (.Constant .none j pos) (tE X.K Y (kRet .non)) := Ev.PE.imp pe_non fun σ H Q h => tE_ret (fun _ _ => .non) h
theorem pE_str {x : Str} {j} : PE X (.Constant (.str x) j pos) (tE X.K Y (kRet (.str x))) := Ev.PE.imp pe_str fun σ H Q h => tE_ret (fun _ _ => .str x) h
/-- a module's value -/
theorem pE_glob {x : Str} {o : Option D} {v : V} {u : Value} (hg : Gl X x) (hm : X.mg x = some u) (r : RelV v u) (hr : ∀ d, o = some d → ∀ mu F H, Rp X.K mu F H v d) (hd : (x == ("__debug__" : Str)) = false) : PE X (.Name x pos) (tE X.K Y (kOpt o)) :=
  Ev.PE.imp (pe_glob hg hm r hd) fun σ H Q ⟨env, mu, F, S, he, hg, hw⟩ => by
    obtain ⟨d, e, q⟩ := WY.opt.mp hw
    exact q v H mu (Xt.refl _ _) hg (hr d e mu F H)

/-! ### targets of names -/
mutual
def Tn.names : Tn → List Nat
  | .nm i => [i]
  | .tp ts => Tn.namess ts
def Tn.namess : List Tn → List Nat
  | [] => []
  | t :: ts => Tn.names t ++ Tn.namess ts
end
/-- only the slots of l may differ -/
def Only (l : List Nat) (σ σ' : L2.St) : Prop := σ'.length = σ.length ∧ ∀ j, j ∉ l → σ'[j]? = σ[j]?
theorem Only.trans {l l' : List Nat} {σ σ' σ'' : L2.St} (h : Only l σ σ') (h' : Only l' σ' σ'') : Only (l ++ l') σ σ'' :=
  ⟨h'.1.trans h.1, fun j hj => (h'.2 j fun z => hj (List.mem_append_right _ z)).trans (h.2 j fun z => hj (List.mem_append_left _ z))⟩
theorem wipe_get {σ : L2.St} {j : Nat} : ∀ {vs : List Nat}, j ∈ vs → (wipe σ vs)[j]? = (if j < σ.length then some none else none)
  | v :: vs, h => by
    unfold wipe
    by_cases e : v = j
    · subst e
      by_cases hl : v < σ.length
      · rw [if_pos hl, List.getElem?_set_self (by rw [wipe_length]; exact hl)]
      · rw [if_neg hl, List.getElem?_eq_none (by rw [List.length_set, wipe_length]; omega)]
    · rw [List.getElem?_set_ne e]
      exact wipe_get ((List.mem_cons.mp h).resolve_left fun z => e z.symm)
theorem wipe_out {σ : L2.St} {j : Nat} : ∀ {vs : List Nat}, j ∉ vs → (wipe σ vs)[j]? = σ[j]?
  | [], _ => rfl
  | v :: vs, h => by
    unfold wipe
    rw [List.getElem?_set_ne (fun e => h (by rw [e]; exact List.mem_cons_self))]
    exact wipe_out fun z => h (List.mem_cons_of_mem _ z)
theorem wipe_only {l vs : List Nat} {σ σ' : L2.St} (h : Only l σ σ') (hl : ∀ i, i ∈ l → i ∈ vs) : wipe σ' vs = wipe σ vs := by
  refine List.ext_getElem? fun j => ?_
  by_cases hj : j ∈ vs
  · rw [wipe_get hj, wipe_get hj, h.1]
  · rw [wipe_out hj, wipe_out hj]
    exact h.2 j fun z => hj (hl j z)
def tG (K : PySem.W.Frag) (t : Tn) : TG := fun v σ H Q => ∃ env mu F S d env', EnvR K mu F H σ env ∧ Gd K mu F H S ∧ Rp K mu F H v d ∧ asgT t d env = some env' ∧ ∀ σ', EnvR K mu F H σ' env' → Only t.names σ σ' → Q σ' H
def tGs (K : PySem.W.Frag) (ts : List Tn) : TGs := fun vs σ H Q => ∃ env mu F S ds env', EnvR K mu F H σ env ∧ Gd K mu F H S ∧ Rps K mu F H vs ds ∧ asgTs ts ds env = some env' ∧ ∀ σ', EnvR K mu F H σ' env' → Only (Tn.namess ts) σ σ' → Q σ' H
theorem PG.imp {e : Expr} {t t' : TG} (h : PG X e t) (hi : ∀ v σ H Q, t' v σ H Q → t v σ H Q) : PG X e t' := ⟨fun pins s σ H v u Q I r q => h.run pins s σ H v u Q I r (hi v σ H Q q)⟩
theorem PGs.imp {e : List Expr} {t t' : TGs} (h : PGs X e t) (hi : ∀ v σ H Q, t' v σ H Q → t v σ H Q) : PGs X e t' := ⟨fun pins s σ H v u Q I r q => h.run pins s σ H v u Q I r (hi v σ H Q q)⟩
theorem pG_nm {i : Nat} {x : Str} (hN : X.N.Nodup) (hi : X.N[i]? = some x) (hx : Loc X.env.scope x) (hf : X.fn x = true ∨ X.env.scope.names.lookup x = some .local) : PG X (.Name x pos) (tG X.K (.nm i)) :=
  Ev.PG.imp (pg_name hN hi hx hf) fun v σ H Q ⟨env, mu, F, S, d, env', he, hg, r, e, q⟩ => by
    have e : lsK (env.set i (some d)) some = some env' := e
    rw [lsK_eq] at e
    cases e
    exact q _ (he.set r) ⟨by simp, fun j hj => by rw [List.getElem?_set_ne]; intro z; apply hj; rw [← z]; exact List.mem_singleton.mpr rfl⟩
theorem pGs_nil : PGs X [] (tGs X.K []) := Ev.PGs.imp pgs_nil fun v σ H Q ⟨env, mu, F, S, ds, env', he, hg, r, e, q⟩ => by
  cases r with
  | nil => cases e; exact ⟨rfl, q σ he ⟨rfl, fun _ _ => rfl⟩⟩
  | cons _ _ => cases e
theorem pGs_cons {e : Expr} {es : List Expr} {t : Tn} {ts : List Tn} (h1 : PG X e (tG X.K t)) (h2 : PGs X es (tGs X.K ts))
    (hs : (assignEach (e :: es) X.env).map (·.2) = assign e X.env :: (assignEach es X.env).map (·.2)) : PGs X (e :: es) (tGs X.K (t :: ts)) := Ev.PGs.imp (pgs_cons h1 h2 hs) fun v σ H Q ⟨env, mu, F, S, ds, env', he, hg, r, e, q⟩ => by
  cases r with
  | nil => cases e
  | @cons v vs d ds r rr =>
    cases e1 : asgT t d env with
    | none => unfold asgTs at e; rw [e1] at e; cases e
    | some env1 =>
      unfold asgTs at e; rw [e1] at e
      refine ⟨v, vs, rfl, env, mu, F, S, d, env1, he, hg, r, e1, fun σ1 he1 o1 => ?_⟩
      exact ⟨env1, mu, F, S, ds, env', he1, hg, rr, e, fun σ2 he2 o2 => q σ2 he2 (o1.trans o2)⟩
theorem asgTs_len : ∀ {ts : List Tn} {ds : List D} {env env' : Env}, asgTs ts ds env = some env' → ds.length = ts.length
  | [], [], _, _, _ => rfl
  | [], _ :: _, _, _, h => by simp [asgTs] at h
  | _ :: _, [], _, _, h => by simp [asgTs] at h
  | t :: ts, d :: ds, env, env', h => by
    cases e1 : asgT t d env with
    | none => unfold asgTs at h; rw [e1] at h; cases h
    | some env1 =>
      unfold asgTs at h; rw [e1] at h
      simp [asgTs_len (ts := ts) (ds := ds) h]
theorem pG_tp {es : List Expr} {k : Nat} {ts : List Tn} (hc : X.calm = true) (h : PGs X es (tGs X.K ts)) (hn : (assignEach es X.env).length = ts.length) (hst : (assignEach es X.env).findIdx? (·.1) = none) : PG X (.Tuple es k pos) (tG X.K (.tp ts)) :=
  Ev.PG.imp (pg_tup hc h hn hst) fun v σ H Q ⟨env, mu, F, S, d, env', he, hg, r, e, q⟩ => by
    cases r with
    | @tup a vs ds hq rr =>
      have e : asgTs ts ds env = some env' := e
      exact ⟨a, vs, rfl, hq, by rw [rr.length, asgTs_len e], env, mu, F, S, ds, env', he, hg, rr, e, q⟩
    | _ => cases e
end

/-! ### comprehensions -/
section
variable {X : Cx} {Y : XI} {pos : Pos} {rs : EM (List D)} {ri re : EM D}
theorem pTs_nil : PTs X [] (tT X.K Y (kRet (.bl true))) := ⟨fun pins s σ H Q I ⟨env, mu, F, S, he, hg, hw⟩ => pts_nil.run pins s σ H Q I (by
  obtain ⟨b, e, q⟩ := hw
  cases e
  exact q H mu (Xt.refl _ _) hg)⟩
theorem pTs_one {c : Expr} (h : PT X c (tT X.K Y ri)) : PTs X [c] (tT X.K Y ri) := pts_one h
theorem lim_eq : LIM = sizeLine := rfl
theorem comp_wp {m : Bool} {own : List Nat} {t : Tn} {k : SK} {σ : L2.St} {H : Hp} {Q : VK} (ht : ∀ i, i ∈ t.names → i ∈ own) (h : tE X.K Y (kComp m own t k rs ri re) σ H Q) : tLc (tSrc X.K Y k rs) (tG X.K t) (tT X.K Y.nox ri) (tE X.K Y.nox re) own σ H Q := by
  obtain ⟨env, mu, F, S, he, hg, hw⟩ := h
  refine ⟨env, mu, F, S, he, hg, (WY.bnd.mp hw).mono fun ds S1 h1 => ?_⟩
  cases e0 : srcOf k ds S1 with
  | none => simp only [e0] at h1; exact h1.elim
  | some r =>
  obtain ⟨xs, dp⟩ := r
  simp only [e0] at h1
  obtain ⟨hlen, h1⟩ := WY.guard.mp h1
  have hlen : xs.length ≤ LIM := by rw [Nat.ble_eq] at hlen; exact hlen
  have h1 := WY.noX (QX := fun _ _ _ => False) (WY.bnd.mp h1)
  refine ⟨xs, dp, rfl, fun J H1 mu1 e1 g1 gv p hp => ?_⟩
  have he1 := he.mono hg.live e1
  have hpF : p ∉ F := fun h => g1.live.fne h hp
  have fx : Fx F (p :: F) H1 := fun b hb => (List.mem_cons.mp hb).elim (fun z => .inr (by rw [z]; exact hp)) .inl
  have h0 : Fr0 H p := by
    intro o q
    by_cases hm : p ∈ mu
    · obtain ⟨o', e'⟩ := g1.live.ex (e1.sub hm)
      rw [hp] at e'; cases e'
    · by_cases ht : ∃ ps, o = .tbl ps
      · exact ht
      · rw [e1.keep p o q hm fun ps z => ht ⟨ps, z⟩] at hp; cases hp
  let W : Nat → Nat → Hp → Prop := fun i n H' => n = xs.length - i ∧ i ≤ xs.length ∧ ∃ mu' S' acc accD, Xt mu1 H1 mu' H' ∧ Gd X.K mu' (p :: F) H' S' ∧ H' p = some (.lst acc) ∧ Rps X.K mu' (p :: F) H' acc accD ∧ accD.length ≤ i ∧
    WY (compL dp (turn t ri re (wipeD env own)) (xs.drop i) accD S') (fun ys S'' => WY (mkL m ys S'') (Po X.K mu F H Q) (PoX X.K Y mu F H)) fun _ _ _ => False
  refine ⟨W, ⟨xs.length, by simp, Nat.zero_le _, mu1, S1, [], [], Xt.new hp, ?_, upd_same, .nil, Nat.le_refl _, by simpa using h1⟩, ?_⟩
  · have g2 := g1.new (o := .lst []) hp
    refine ⟨⟨g2.live.nd, g2.live.mt, fun b hb hf => ?_, fun b hb => ?_⟩, g2.len, fun n c b h1 h2 => ?_, g2.tb⟩
    · rcases List.mem_cons.mp hf with z | z
      · exact g1.live.notin hp (by rw [← z]; exact hb)
      · exact g1.live.out b hb z
    · rcases List.mem_cons.mp hb with z | z
      · rw [z, upd_same]; exact ⟨_, rfl, fun _ z => nomatch z⟩
      · exact g2.live.frn b z
    · have q := g1.cell n c b h1 h2
      cases c with
      | lst ds =>
        obtain ⟨vs, e, r⟩ := q
        exact ⟨vs, by rw [upd_ne (ne_of_none e hp)]; exact e, r.far g1.live fx (Xt.new hp)⟩
      | obj _ _ => exact q.elim
  · rintro i n H' ⟨hn, hi, mu', S', acc, accD, e2, g2, hp2, ra, hla, h2⟩
    by_cases hlt : i < xs.length
    · refine .inr ?_
      have hxs : xs.drop i = xs[i] :: xs.drop (i + 1) := List.drop_eq_getElem_cons hlt
      rw [hxs] at h2
      unfold compL at h2
      by_cases hd : depOk dp S' = true
      · rw [if_pos hd] at h2
        refine ⟨gv.go mu' (p :: F) H' S' e2.e fx g2 hd i hlt, fun H'' => W (i + 1) (xs.length - (i + 1)) H'', fun H'' w => ⟨_, by omega, w⟩, fun v H3 hy => ?_⟩
        obtain ⟨e3, g3, rv⟩ := gv.yld mu' (p :: F) H' S' e2.e fx g2 hd i xs[i] v H3 (by simp [hlt]) hy
        have e13 := e2.trans g2.live e3
        have he3 : EnvR X.K mu' (p :: F) H3 (wipe σ own) (wipeD env own) := (he1.far g1.live fx e13).wipe own
        have hp3 : H3 p = some (.lst acc) := e3.keep p _ hp2 (fun z => g2.live.out p z List.mem_cons_self) (fun _ z => nomatch z)
        unfold turn at h2
        cases e4 : asgT t xs[i] (wipeD env own) with
        | none => simp only [e4] at h2; exact h2.elim
        | some env' =>
          simp only [e4] at h2
          refine ⟨wipeD env own, mu', p :: F, S', xs[i], env', he3, g3, rv, e4, fun σ' he' ho => ⟨?_, ?_⟩⟩
          · rw [wipe_only ho ht]
            exact wipe_only ⟨wipe_length σ own, fun j hj => wipe_out hj⟩ fun i hi => hi
          · refine ⟨env', mu', p :: F, S', he', g3, ?_⟩
            unfold Ev.bnd at h2
            cases e5 : ri env' S' with
            | no => simp only [e5] at h2; exact h2.elim
            | exc _ _ _ => simp only [e5] at h2; exact h2.elim
            | ok b S2 =>
              simp only [e5] at h2
              split at h2
              · rename_i z hz
                split at hz
                · refine ⟨true, rfl, fun H4 mu4 e6 g4 => ?_⟩
                  dsimp only
                  rw [if_pos rfl]
                  refine ⟨env', mu4, p :: F, S2, he'.mono g3.live e6, g4, ?_⟩
                  unfold Ev.ret at hz
                  cases e7 : re env' S2 with
                  | no => simp only [e7] at hz; cases hz
                  | exc _ _ _ => simp only [e7] at hz; cases hz
                  | ok y S3 =>
                    simp only [e7] at hz
                    cases hz
                    intro vy H5 mu5 e8 g5 r5
                    have e48 := e6.trans g4.live e8
                    have hp5 : H5 p = some (.lst acc) := e48.keep p _ hp3 (fun z => g2.live.out p z List.mem_cons_self) (fun _ z => nomatch z)
                    have ra5 : Rps X.K mu5 (p :: F) H5 acc accD := (ra.mono g2.live e3).mono g3.live e48
                    have e15 := e13.trans g3.live e48
                    refine ⟨acc, hp5, by rw [ra.length]; rw [lim_eq] at hlen; omega, rfl, hlt, mu5, _, acc ++ [vy], _, ?_, g5.inF hp5 (show Acc (.lst _) from trivial) (show Acc (.lst _) from trivial) List.mem_cons_self, upd_same, (ra5.append (.cons r5 .nil)).inF hp5 (show Acc (.lst _) from trivial) (show Acc (.lst _) from trivial) List.mem_cons_self, by simp; omega, h2⟩
                    exact ⟨e15.pre, fun b o hb hm ho => by rw [upd_ne (ne_of_none hb hp)]; exact e15.keep b o hb hm ho⟩
                · cases hz
                · cases hz
              · rename_i z hz
                split at hz
                · unfold Ev.ret at hz
                  split at hz <;> cases hz
                · cases hz
                  refine ⟨false, rfl, fun H4 mu4 e6 g4 => ?_⟩
                  dsimp only
                  rw [if_neg Bool.false_ne_true]
                  exact ⟨rfl, hlt, mu4, _, acc, accD, e13.trans g3.live e6, g4, e6.keep p _ hp3 (fun z => g2.live.out p z List.mem_cons_self) (fun _ z => nomatch z), (ra.mono g2.live e3).mono g3.live e6, by omega, h2⟩
                · cases hz
              · exact h2.elim
              · exact h2.elim
      · rw [if_neg hd] at h2; exact h2.elim
    · have hi : i = xs.length := by omega
      subst hi
      rw [List.drop_length] at h2
      unfold compL at h2
      by_cases hd : depOk dp S' = true
      · rw [if_pos hd] at h2
        have h2 : WY (mkL m accD S') (Po X.K mu F H Q) (PoX X.K Y mu F H) := h2
        exact .inl ⟨gv.stop mu' (p :: F) H' S' e2.e fx g2 hd, mkL_fin g2 hp2 ra (e1.trans g1.live e2) h0 hpF h2⟩
      · rw [if_neg hd] at h2; exact h2.elim
end
end Ev
/-! Ev: statements -/
namespace Ev
open PySem PySem.Spec
open PyProof.Rows L2
variable [LamN]

/-- what is wanted behind statements -/
def endS (K : PySem.W.Frag) (mu F : List Addr) (H : Hp) (D : Ends) : Fl → Store → Prop := fun f S' => match f with
  | .nx env' => ∀ σ' H' mu', Xt mu H mu' H' → Gd K mu' F H' S' → EnvR K mu' F H' σ' env' → D.nx σ' H'
  | .bk env' => ∀ σ' H' mu', Xt mu H mu' H' → Gd K mu' F H' S' → EnvR K mu' F H' σ' env' → D.bk σ' H'
  | .ct env' => ∀ σ' H' mu', Xt mu H mu' H' → Gd K mu' F H' S' → EnvR K mu' F H' σ' env' → D.ct σ' H'
  | .rt d => ∀ v H' mu', Xt mu H mu' H' → Gd K mu' F H' S' → Rp K mu' F H' v d → D.rt v H'
def tS (K : PySem.W.Frag) (Y : XI) (ev : EM Fl) : TS := fun D σ H => ∃ env mu F S, EnvR K mu F H σ env ∧ Gd K mu F H S ∧ WY (ev env S) (endS K mu F H D) (PoX K Y mu F H)
section
variable {K : PySem.W.Frag} {F : List Addr}
theorem cl_endS {D : Ends} : Cl F fun mu H => endS K mu F H D := fun mu H mu1 H1 a S e L h => by
  cases a with
  | nx env => exact fun σ' H' mu' e' g r => h σ' H' mu' (e.trans L e') g r
  | bk env => exact fun σ' H' mu' e' g r => h σ' H' mu' (e.trans L e') g r
  | ct env => exact fun σ' H' mu' e' g r => h σ' H' mu' (e.trans L e') g r
  | rt d => exact fun v H' mu' e' g r => h v H' mu' (e.trans L e') g r
/-- what is wanted behind a target -/
def endG (K : PySem.W.Frag) (mu F : List Addr) (H : Hp) (Q : L2.St → Hp → Prop) : Env → Store → Prop := fun env' S' => ∀ σ' H' mu', Xt mu H mu' H' → Gd K mu' F H' S' → EnvR K mu' F H' σ' env' → Q σ' H'
theorem cl_endG {Q : L2.St → Hp → Prop} : Cl F fun mu H => endG K mu F H Q := fun mu H mu1 H1 a S e L h σ' H' mu' e' g r => h σ' H' mu' (e.trans L e') g r
end
def tGg (K : PySem.W.Frag) (Y : XI) (gg : D → EM Env) : TG := fun v σ H Q => ∃ env mu F S d, EnvR K mu F H σ env ∧ Gd K mu F H S ∧ Rp K mu F H v d ∧ WY (gg d env S) (endG K mu F H Q) (PoX K Y mu F H)
def tGgs (K : PySem.W.Frag) (Y : XI) (gg : List D → EM Env) : TGs := fun vs σ H Q => ∃ env mu F S ds, EnvR K mu F H σ env ∧ Gd K mu F H S ∧ Rps K mu F H vs ds ∧ WY (gg ds env S) (endG K mu F H Q) (PoX K Y mu F H)

section
variable {X : Cx} {Y : XI} {pos : Pos}
theorem setIx_rd {x y d : D} {S : Store} {P : Unit → Store → Prop} {PX : PXT} (h : WY (setIx x y d S) P PX) : ∃ n k xs j, x = .ref n ∧ y = .int k ∧ S[n]? = some (.lst xs) ∧ ixI xs.length k = some j ∧ P () (S.set n (.lst (xs.set j d))) := by
  unfold setIx at h
  split at h
  · rename_i n k
    cases e : S[n]? with
    | none => simp only [e] at h; exact h.elim
    | some c => cases c with
      | obj _ _ => simp only [e] at h; exact h.elim
      | lst xs =>
        simp only [e] at h
        cases e2 : ixI xs.length k with
        | none => simp only [e2] at h; exact h.elim
        | some j =>
          simp only [e2, lsK_eq] at h
          exact ⟨n, k, xs, j, rfl, rfl, by first | exact e | rfl, e2, h⟩
  · exact h.elim
theorem pGg_nm {i : Nat} {x : Str} (hN : X.N.Nodup) (hi : X.N[i]? = some x) (hx : Loc X.env.scope x) (hf : X.fn x = true ∨ X.env.scope.names.lookup x = some .local) : PG X (.Name x pos) (tGg X.K Y (gNm i)) :=
  Ev.PG.imp (pg_name hN hi hx hf) fun v σ H Q ⟨env, mu, F, S, d, he, hg, r, hw⟩ => by
    unfold gNm at hw
    rw [lsK_eq] at hw
    have hw : endG X.K mu F H Q (env.set i (some d)) S := hw
    exact hw _ H mu (Xt.refl _ _) hg (he.set r)
theorem set_step {K : PySem.W.Frag} {mu F : List Addr} {H : Hp} {S : Store} {v w u : V} {x y d : D} {Q : Hp → Prop} {P : Unit → Store → Prop} {PX : PXT} (g : Gd K mu F H S) (rx : Rp K mu F H v x) (ry : Rp K mu F H w y) (rd : Rp K mu F H u d)
    (h : WY (setIx x y d S) P PX) (hQ : ∀ S' H', P () S' → Xt mu H mu H' → Gd K mu F H' S' → Q H') : rSetL v w u H Q := by
  obtain ⟨n, k, xs, j, rfl, rfl, e, e2, p⟩ := setIx_rd h
  cases rx with
  | @ref n a hn =>
  cases ry
  obtain ⟨vs, h1, h2⟩ := g.ref hn e
  refine ⟨a, vs, k, j, rfl, rfl, h1, by rw [h2.length, ← ixI_eq]; exact e2, ?_⟩
  exact hQ _ _ p (Xt.put (List.mem_of_getElem? hn)) (g.put (ds0 := xs) hn (h2.set rd j))
theorem pGg_ix {o i : Expr} {ro ri : EM D} (ho : PE X o (tE X.K Y ro)) (hi : PE X i (tE X.K Y ri))
    (ha : ∀ v, assign (.Subscript o i pos) X.env v = (do
      let ov ← holding [v] (eval o X.env)
      let iv ← holding [v, ov] (eval i X.env)
      standAt pos
      holding [v, ov, iv] (setItem ov iv v)
      release [v, ov, iv] [])) : PG X (.Subscript o i pos) (tGg X.K Y (gIx ro ri)) :=
  Ev.PG.imp (pg_sub ho hi set_list ha) fun v σ H Q ⟨env, mu, F, S, d, he, hg, r, hw⟩ => by
    refine run1 cl_endG he hg hw fun v1 H1 mu1 S1 x he1 hg1 r1 e1 hw1 => run1 cl_endG he1 hg1 hw1 fun v2 H2 mu2 S2 y he2 hg2 r2 e2 hw2 => ?_
    refine set_step hg2 (r1.mono hg1.live e2) r2 ((r.mono hg.live e1).mono hg1.live e2) (WY.bnd.mp hw2) fun S' H' p e3 g3 => ?_
    have p : endG X.K mu2 F H2 Q env S' := p
    exact p _ _ _ e3 g3 (he2.mono hg2.live e3)
theorem pGgs_nil : PGs X [] (tGgs X.K Y Ev.gNil) := Ev.PGs.imp pgs_nil fun v σ H Q ⟨env, mu, F, S, ds, he, hg, r, hw⟩ => by
  cases r with
  | nil =>
    have hw : endG X.K mu F H Q env S := hw
    exact ⟨rfl, hw σ H mu (Xt.refl _ _) hg he⟩
  | cons _ _ => exact hw.elim
theorem pGgs_cons {e : Expr} {es : List Expr} {gg : D → EM Env} {gs : List D → EM Env} (h1 : PG X e (tGg X.K Y gg)) (h2 : PGs X es (tGgs X.K Y gs))
    (hs : (assignEach (e :: es) X.env).map (·.2) = assign e X.env :: (assignEach es X.env).map (·.2)) : PGs X (e :: es) (tGgs X.K Y (Ev.gCons gg gs)) := Ev.PGs.imp (pgs_cons h1 h2 hs) fun v σ H Q ⟨env, mu, F, S, ds, he, hg, r, hw⟩ => by
  cases r with
  | nil => exact hw.elim
  | @cons v vs d ds r rr =>
    refine ⟨v, vs, rfl, env, mu, F, S, d, he, hg, r, (WY.bnd.mp hw).mono fun env1 S1 h σ1 H1 mu1 e1 g1 he1 => ?_⟩
    exact ⟨env1, mu1, F, S1, ds, he1, g1, rr.mono hg.live e1, h.mono2 (fun env2 S2 q => cl_endG (K := X.K) (F := F) mu H mu1 H1 env2 S2 e1 g1.live q) fun _ _ _ q => PoX.cl e1 g1.live q⟩
theorem pg_or {e : Expr} {g1 g2 : TG} (h1 : PG X e g1) (h2 : PG X e g2) : PG X e fun v σ H Q => g1 v σ H Q ∨ g2 v σ H Q :=
  ⟨fun pins s σ H v u Q I r h => h.elim (h1.run pins s σ H v u Q I r) (h2.run pins s σ H v u Q I r)⟩
theorem pGg_tp {es : List Expr} {k : Nat} {gs : List D → EM Env} {n : Nat} (hc : X.calm = true) (h : PGs X es (tGgs X.K Y gs)) (hn : (assignEach es X.env).length = n) (hst : (assignEach es X.env).findIdx? (·.1) = none) :
    PG X (.Tuple es k pos) (tGg X.K Y (gTp n gs)) :=
  Ev.PG.imp (pg_or (pg_tup hc h hn hst) (pg_lst hc h hn hst)) fun v σ H Q ⟨env, mu, F, S, d, he, hg, r, hw⟩ => by
    cases r with
    | @tup a vs ds hq rr =>
      have hw : WY ((if Nat.beq ds.length n = true then gs ds env else stk) S) (endG X.K mu F H Q) (PoX X.K Y mu F H) := hw
      split at hw
      · rename_i hl
        exact .inl ⟨a, vs, rfl, hq, by rw [rr.length]; exact Nat.eq_of_beq_eq_true hl, env, mu, F, S, ds, he, hg, rr, hw⟩
      · exact hw.elim
    | @lst a vs ds hq rr =>
      have hw : WY ((if Nat.beq ds.length n = true then gs ds env else stk) S) (endG X.K mu F H Q) (PoX X.K Y mu F H) := hw
      split at hw
      · rename_i hl
        exact .inr ⟨a, vs, rfl, .inl (.inl hq.1), by rw [rr.length]; exact Nat.eq_of_beq_eq_true hl, env, mu, F, S, ds, he, hg, rr, hw⟩
      · exact hw.elim
    | _ => exact hw.elim

/-! ### statements, one by one -/
variable {re rc ro ri : EM D} {rs : EM (List D)} {gg : D → EM Env} {e : Expr} {st : Stmt} {rest body b2 : List Stmt} {rb rb2 r1 : EM Fl}
theorem asg_rd {D : Ends} {σ : L2.St} {H : Hp} (h : tS X.K Y (sAsg re gg) D σ H) : tAsg (tE X.K Y re) (tGg X.K Y gg) D σ H := by
  obtain ⟨env, mu, F, S, he, hg, hw⟩ := h
  refine run1 cl_endS he hg hw fun v1 H1 mu1 S1 x he1 hg1 r1 e1 hw1 => ?_
  exact ⟨env, mu1, F, S1, x, he1, hg1, r1, (WY.bnd.mp hw1).mono fun env' S' q => q⟩
theorem pS_asg {tg : Expr} (he : PE X e (tE X.K Y re)) (hg : PG X tg (tGg X.K Y gg)) (hs : swapsWithSole [tg] e pos.line X.env = pure false) (hw : swappedStores [tg] e X.env = pure none)
    (h1 : (assignEach [tg] X.env).map (·.2) = [assign tg X.env]) : PS X (.Assign [tg] e pos) (tS X.K Y (sAsg re gg)) := Ev.PS.imp (ps_asg he hg hs hw h1) fun D σ H h => asg_rd h
theorem par2_rd {i j : Nat} {D : Ends} {σ : L2.St} {H : Hp} (h : tS X.K Y (sPar [i, j] rs) D σ H) : tPar i j (tA X.K Y rs) D σ H := by
  obtain ⟨env, mu, F, S, he, hg, hw⟩ := h
  refine runL cl_endS he hg hw fun vs H1 mu1 S1 ds he1 hg1 r1 e1 hw1 => ?_
  cases r1 with
  | nil => exact hw1.elim
  | @cons v vs d ds r r1 => cases r1 with
    | nil => simp only [parE, lsK_eq] at hw1; exact hw1.elim
    | @cons v2 vs d2 ds r2 r1 => cases r1 with
      | cons _ _ => simp only [parE, lsK_eq] at hw1; exact hw1.elim
      | nil =>
        simp only [parE, lsK_eq] at hw1
        have hw1 : endS X.K mu1 F H1 D (.nx ((env.set i (some d)).set j (some d2))) S1 := hw1
        exact ⟨v, v2, rfl, hw1 _ _ _ (Xt.refl _ _) hg1 ((he1.set r).set r2)⟩
theorem par3_rd {i j l : Nat} {D : Ends} {σ : L2.St} {H : Hp} (h : tS X.K Y (sPar [i, j, l] rs) D σ H) : tPar3 i j l (tA X.K Y rs) D σ H := by
  obtain ⟨env, mu, F, S, he, hg, hw⟩ := h
  refine runL cl_endS he hg hw fun vs H1 mu1 S1 ds he1 hg1 r1 e1 hw1 => ?_
  cases r1 with
  | nil => exact hw1.elim
  | @cons v vs d ds r r1 => cases r1 with
    | nil => simp only [parE, lsK_eq] at hw1; exact hw1.elim
    | @cons v2 vs d2 ds r2 r1 => cases r1 with
      | nil => simp only [parE, lsK_eq] at hw1; exact hw1.elim
      | @cons v3 vs d3 ds r3 r1 => cases r1 with
        | cons _ _ => simp only [parE, lsK_eq] at hw1; exact hw1.elim
        | nil =>
          simp only [parE, lsK_eq] at hw1
          have hw1 : endS X.K mu1 F H1 D (.nx (((env.set i (some d)).set j (some d2)).set l (some d3))) S1 := hw1
          exact ⟨v, v2, v3, rfl, hw1 _ _ _ (Xt.refl _ _) hg1 (((he1.set r).set r2).set r3)⟩
/-- op= for ints -/
def ipO : Op2 → Operator → Prop
  | .add, .Add => True
  | .sub, .Sub => True
  | _, _ => False
def ipF : Op2 → Int → Int → Int
  | .add, i, j => i + j
  | _, i, j => i - j
theorem ip_any {o : Op2} {op : Operator} (h : ipO o op) : PIp X op (ipI (ipF o)) := by
  cases o <;> cases op <;> first | exact h.elim | exact ip_add | exact ip_sub
theorem op2_ip {o : Op2} {op : Operator} (h : ipO o op) {S : Store} {i j : Int} {z : D} (e : op2 S o (.int i) (.int j) = some z) : z = .int (ipF o i j) := by
  cases o <;> cases op <;> first | exact h.elim | (simp [op2] at e; rw [← e]; rfl)
theorem WY.getV {i : Nat} {env : Env} {S : Store} {P : D → Store → Prop} {PX : PXT} (h : WY (getV i env S) P PX) : ∃ d, env[i]? = some (some d) ∧ P d S := by
  unfold Ev.getV at h
  rw [nth_eq] at h
  split at h
  · rename_i d hd; exact ⟨d, hd, h⟩
  · exact h.elim
theorem pS_aug {i : Nat} {x : Str} {o : Op2} {op : Operator} {pos' : Pos} (hN : X.N.Nodup) (hi : X.N[i]? = some x) (hx : Loc X.env.scope x) (he : PE X e (tE X.K Y re)) (ho : ipO o op) (hf : X.fn x = true ∨ X.env.scope.names.lookup x = some .local) :
    PS X (.AugAssign (.Name x pos') op e pos) (tS X.K Y (sAug i o re)) := Ev.PS.imp (ps_aug hN hi hx he (ip_any ho) hf) fun D σ H ⟨env, mu, F, S, he, hg, hw⟩ => by
  obtain ⟨d, hd, hw⟩ := WY.getV (WY.bnd.mp hw)
  obtain ⟨v, hv, rv⟩ := he.2 i d hd
  refine ⟨v, hv, run1 cl_endS he hg hw fun w H1 mu1 S1 y he1 hg1 r1 e1 hw1 => ?_⟩
  have rv1 := rv.mono hg.live e1
  cases d with
  | int k =>
    cases y with
    | int l =>
      cases rv1; cases r1
      cases e2 : op2 S1 o (.int k) (.int l) with
      | none => simp only [e2] at hw1; exact hw1.elim
      | some z =>
        simp only [e2, lsK_eq] at hw1
        have hw1 : endS X.K mu1 F H1 D (.nx (env.set i (some z))) S1 := hw1
        have ez := op2_ip ho e2
        subst ez
        exact ⟨k, l, rfl, rfl, hw1 _ _ _ (Xt.refl _ _) hg1 (he1.set (.int _))⟩
    | _ => exact hw1.elim
  | _ => exact hw1.elim
theorem doIx_nx (x y : D) (S : Store) (c : Nat) (d : D) (S' : Store) : doIx x y S ≠ .exc c d S' := by
  unfold doIx
  split
  · split <;> simp
  · simp
/-- o[i] of a list, by values -/
theorem get_list : PGet X (rIxL X.K) := by
  intro pins s σ H x y v u Q I rx ry h
  obtain ⟨p, xs, i, z, rfl, rfl, hq, he, q⟩ := h
  cases rx
  obtain ⟨t, rfl⟩ := ry
  obtain ⟨its, r, pl, hz⟩ := I.list hq
  obtain ⟨j, h1, h2, h3, h4, h5⟩ := atI_get he
  obtain ⟨w, ew, rw'⟩ := r.get h2
  have hl := r.length
  have hn := line63
  have fin : EP X pins σ Q w s := ⟨z, H, I, rw', q⟩
  by_cases h0 : 0 ≤ i
  · have hj : i.toNat = j := by
      rw [seqIndex_of h0 h5] at h1
      exact Option.some.inj h1
    exact wpAny_getItem_list pl.isList h0 (by omega) (by rw [hj]; simpa using ew) fin
  · have hj : (i + (its.toArray.size : Int)).toNat = j := by
      rw [seqIndex_neg (by omega) h4] at h1
      rw [List.size_toArray, ← hl]
      exact Option.some.inj h1
    exact wpAny_getItem_list_neg pl.isList (by omega) (by rw [List.size_toArray] <;> omega) (by omega) (by rw [hj]; simpa using ew) fin
theorem pS_augIx {o i : Expr} {k : Op2} {op : Operator} {tpos : Pos} (ho : PE X o (tE X.K Y ro)) (hi : PE X i (tE X.K Y ri)) (he : PE X e (tE X.K Y re)) (hk : ipO k op)
    (ha : ∀ ov iv new, augStore i ov iv new = (do holding [new, ov, iv] (setItem ov iv new); release [new, ov, iv] []; pure .next)) : PS X (.AugAssign (.Subscript o i tpos) op e pos) (tS X.K Y (sAugIx ro ri k re)) :=
  Ev.PS.imp (ps_augS ho hi get_list he (ip_any hk) set_list ha) fun D σ H ⟨env, mu, F, S, he, hg, hw⟩ => by
    refine run1 cl_endS he hg hw fun v1 H1 mu1 S1 x he1 hg1 r1 e1 hw1 => run1 cl_endS he1 hg1 hw1 fun v2 H2 mu2 S2 y he2 hg2 r2 e2 hw2 => ?_
    rcases (WY.bnd.mp hw2).get with ⟨u, S2', eu, hw3⟩ | ⟨c0, x0, S2', eu, _⟩
    rotate_left
    · exact absurd eu (doIx_nx _ _ _ _ _ _)
    have r1' := r1.mono hg1.live e2
    unfold doIx at eu
    cases e3 : seqOf S2 x with
    | none => simp only [e3] at eu; cases eu
    | some xs =>
    cases y with
    | int j =>
      simp only [e3] at eu
      cases e4 : (ixI xs.length j).bind fun j => nth xs j with
      | none => simp only [e4] at eu; cases eu
      | some w =>
        simp only [e4] at eu
        cases eu
        cases r2
        obtain ⟨j', hj, hd⟩ := Option.bind_eq_some_iff.mp e4
        rw [nth_eq] at hd
        -- the right side, then the store: x is a list in the store
        cases r1' with
        | @ref n a hn =>
          obtain ⟨a', vs, ea, ha, ra⟩ := hg2.seq (.ref hn) e3
          cases ea
          have hl : ∃ c, S2[n]? = some (.lst c) := by
            unfold seqOf at e3
            split at e3
            all_goals first | (rename_i z; cases z) | skip
            all_goals first | (split at e3; (rename_i c ec; exact ⟨c, ec⟩); cases e3) | cases e3
          obtain ⟨c, hc⟩ := hl
          obtain ⟨ws, hw1', hw2'⟩ := hg2.ref hn hc
          have ec : c = xs := by
            have : seqOf S2 (.ref n) = some c := by unfold seqOf; simp only [hc]
            rw [this] at e3; cases e3; rfl
          subst ec
          obtain ⟨z, hz, rz⟩ := hw2'.get hd
          refine ⟨a, ws, j, z, rfl, rfl, .inl (.inl hw1'), by unfold atI; rw [hw2'.length, ← ixI_eq, hj]; exact hz, ?_⟩
          refine run1 cl_endS he2 hg2 hw3 fun v3 H3 mu3 S3 v he3 hg3 r3 e5 hw4 => ?_
          have rz3 := rz.mono hg2.live e5
          cases u with
          | int k1 =>
            cases v with
            | int k2 =>
              cases rz3; cases r3
              cases e6 : op2 S3 k (.int k1) (.int k2) with
              | none => simp only [e6] at hw4; exact hw4.elim
              | some zz =>
                simp only [e6] at hw4
                have ez := op2_ip hk e6
                subst ez
                refine ⟨k1, k2, rfl, rfl, ?_⟩
                refine set_step hg3 ((Rp.ref hn).mono hg2.live e5) (.int j) (.int _) (WY.bnd.mp hw4) fun S' H' p e7 g7 => ?_
                have p : endS X.K mu3 F H3 D (.nx env) S' := p
                exact p _ _ _ e7 g7 (he3.mono hg3.live e7)
            | _ => exact hw4.elim
          | _ => exact hw4.elim
        | _ =>
          exact hw3.elim
    | _ => simp only [e3] at eu; cases eu
theorem pS_expr (he : PE X e (tE X.K Y re)) (hs : swapsWith e none pos.line X.env = pure false) : PS X (.Expr e pos) (tS X.K Y (sExpr re)) := Ev.PS.imp (ps_expr he hs) fun D σ H ⟨env, mu, F, S, he, hg, hw⟩ =>
  run1 cl_endS he hg hw fun v1 H1 mu1 S1 x he1 hg1 r1 e1 hw1 => by
    have hw1 : endS X.K mu1 F H1 D (.nx env) S1 := hw1
    exact hw1 _ _ _ (Xt.refl _ _) hg1 he1
theorem pS_ret (he : PE X e (tE X.K Y re)) : PS X (.Return (some e) pos) (tS X.K Y (sRet re)) := Ev.PS.imp (ps_ret he) fun D σ H ⟨env, mu, F, S, he, hg, hw⟩ =>
  run1 cl_endS he hg hw fun v1 H1 mu1 S1 x he1 hg1 r1 e1 hw1 => by
    have hw1 : endS X.K mu1 F H1 D (.rt x) S1 := hw1
    exact hw1 _ _ _ (Xt.refl _ _) hg1 r1
theorem pS_retN : PS X (.Return none pos) (tS X.K Y (fun _ => ret (.rt .non))) := Ev.PS.imp ps_retN fun D σ H ⟨env, mu, F, S, he, hg, hw⟩ => by
  have hw : endS X.K mu F H D (.rt .non) S := hw
  exact hw _ _ _ (Xt.refl _ _) hg .non
theorem pS_pass : PS X (.Pass pos) (tS X.K Y (fun env => ret (.nx env))) := Ev.PS.imp ps_pass fun D σ H ⟨env, mu, F, S, he, hg, hw⟩ => by
  have hw : endS X.K mu F H D (.nx env) S := hw
  exact hw _ _ _ (Xt.refl _ _) hg he
theorem pS_brk : PS X (.Break pos) (tS X.K Y (fun env => ret (.bk env))) := Ev.PS.imp ps_break fun D σ H ⟨env, mu, F, S, he, hg, hw⟩ => by
  have hw : endS X.K mu F H D (.bk env) S := hw
  exact hw _ _ _ (Xt.refl _ _) hg he
theorem pS_cont : PS X (.Continue pos) (tS X.K Y (fun env => ret (.ct env))) := Ev.PS.imp ps_continue fun D σ H ⟨env, mu, F, S, he, hg, hw⟩ => by
  have hw : endS X.K mu F H D (.ct env) S := hw
  exact hw _ _ _ (Xt.refl _ _) hg he
theorem pS_doc {x j pos'} : PS X (.Expr (.Constant (.str x) j pos') pos) (tS X.K Y (fun env => ret (.nx env))) := Ev.PS.imp ps_doc fun D σ H ⟨env, mu, F, S, he, hg, hw⟩ => by
  have hw : endS X.K mu F H D (.nx env) S := hw
  exact hw _ _ _ (Xt.refl _ _) hg he
theorem pS_never : PS X st (tS X.K Y (fun _ => stk)) := Ev.PS.imp ps_never fun D σ H ⟨env, mu, F, S, he, hg, hw⟩ => hw.elim
theorem pS_if {c : Expr} (hc : PT X c (tT X.K Y rc)) (ha : PSs X body (tS X.K Y rb)) (hb : PSs X b2 (tS X.K Y rb2)) : PS X (.If c body b2 pos) (tS X.K Y (sIte rc rb rb2)) := Ev.PS.imp (ps_if hc ha hb) fun D σ H ⟨env, mu, F, S, he, hg, hw⟩ => by
  refine ⟨env, mu, F, S, he, hg, (WY.bnd.mp hw).mono fun x S1 hw1 => ?_⟩
  cases x with
  | bl b =>
    refine ⟨b, rfl, fun H1 mu1 e1 hg1 => ?_⟩
    cases b with
    | true => exact ⟨env, mu1, F, S1, he.mono hg.live e1, hg1, WY.mono2 hw1 (fun f S2 q => cl_endS (K := X.K) (F := F) mu H mu1 H1 f S2 e1 hg1.live q) fun _ _ _ q => PoX.cl e1 hg1.live q⟩
    | false => exact ⟨env, mu1, F, S1, he.mono hg.live e1, hg1, WY.mono2 hw1 (fun f S2 q => cl_endS (K := X.K) (F := F) mu H mu1 H1 f S2 e1 hg1.live q) fun _ _ _ q => PoX.cl e1 hg1.live q⟩
  | _ => exact hw1.elim
theorem pSs_nil : PSs X [] (tS X.K Y Ev.sNil) := Ev.PSs.imp pss_nil fun D σ H ⟨env, mu, F, S, he, hg, hw⟩ => by
  have hw : endS X.K mu F H D (.nx env) S := hw
  exact hw _ _ _ (Xt.refl _ _) hg he
theorem pSs_cons (h1 : PS X st (tS X.K Y r1)) (h2 : PSs X rest (tS X.K Y rb)) : PSs X (st :: rest) (tS X.K Y (Ev.sCons r1 rb)) := Ev.PSs.imp (pss_cons h1 h2) fun D σ H ⟨env, mu, F, S, he, hg, hw⟩ => by
  refine ⟨env, mu, F, S, he, hg, (WY.bnd.mp hw).mono fun f S1 hw1 => ?_⟩
  cases f with
  | nx env' => exact fun σ' H' mu' e' g' he' => ⟨env', mu', F, S1, he', g', WY.mono2 hw1 (fun f S2 q => cl_endS (K := X.K) (F := F) mu H mu' H' f S2 e' g'.live q) fun _ _ _ q => PoX.cl e' g'.live q⟩
  | rt d => exact hw1
  | bk _ => exact hw1
  | ct _ => exact hw1

/-! ### loops -/
theorem while_rd {n : Nat} {D : Ends} {σ : L2.St} {H : Hp} (h : tS X.K Y (whileL rc rb n) D σ H) : tWhile (tT X.K Y rc) (tS X.K Y rb) D σ H := by
  obtain ⟨env, mu, F, S, he, hg, hw⟩ := h
  refine ⟨fun m σ' H' => ∃ env' mu' S', Xt mu H mu' H' ∧ EnvR X.K mu' F H' σ' env' ∧ Gd X.K mu' F H' S' ∧ WY (whileL rc rb m env' S') (endS X.K mu F H D) (PoX X.K Y mu F H), ⟨n, env, mu, S, Xt.refl _ _, he, hg, hw⟩, ?_⟩
  rintro m σ1 H1 ⟨env1, mu1, S1, e1, he1, hg1, hw1⟩
  cases m with
  | zero => exact hw1.elim
  | succ m =>
    refine ⟨env1, mu1, F, S1, he1, hg1, ?_⟩
    unfold whileL at hw1
    cases e2 : rc env1 S1 with
    | no => simp only [e2] at hw1; exact hw1.elim
    | exc c0 x0 S0 => simp only [e2] at hw1; exact PoX.cl e1 hg1.live hw1
    | ok x S2 =>
      cases x with
      | bl b =>
        refine ⟨b, rfl, fun H2 mu2 x2 hg2 => ?_⟩
        have e12 := e1.trans hg1.live x2
        have he2 := he1.mono hg1.live x2
        cases b with
        | false =>
          simp only [e2] at hw1
          have hw1 : endS X.K mu F H D (.nx env1) S2 := hw1
          dsimp only
          rw [if_neg Bool.false_ne_true]
          exact hw1 _ _ _ e12 hg2 he2
        | true =>
          simp only [e2] at hw1
          dsimp only
          rw [if_pos rfl]
          refine ⟨fun σ' H' => ∃ env' mu' S', Xt mu H mu' H' ∧ EnvR X.K mu' F H' σ' env' ∧ Gd X.K mu' F H' S' ∧ WY (whileL rc rb m env' S') (endS X.K mu F H D) (PoX X.K Y mu F H), fun σ' H' w => ⟨m, Nat.lt_succ_self _, w⟩, ?_⟩
          refine ⟨env1, mu2, F, S2, he2, hg2, ?_⟩
          cases e3 : rb env1 S2 with
          | no => simp only [e3] at hw1; exact hw1.elim
          | exc c0 x0 S0 => simp only [e3] at hw1; exact PoX.cl e12 hg2.live hw1
          | ok f S3 =>
            simp only [e3] at hw1
            cases f with
            | nx env' => exact fun σ' H' mu' e' g' he' => ⟨env', mu', S3, e12.trans hg2.live e', he', g', hw1⟩
            | ct env' => exact fun σ' H' mu' e' g' he' => ⟨env', mu', S3, e12.trans hg2.live e', he', g', hw1⟩
            | bk env' =>
              have hw1 : endS X.K mu F H D (.nx env') S3 := hw1
              exact fun σ' H' mu' e' g' he' => hw1 _ _ _ (e12.trans hg2.live e') g' he'
            | rt d =>
              have hw1 : endS X.K mu F H D (.rt d) S3 := hw1
              exact fun v H' mu' e' g' r => hw1 _ _ _ (e12.trans hg2.live e') g' r
      | _ => simp only [e2] at hw1; exact hw1.elim
theorem pS_while {c : Expr} (hp : PassesOwn (model X.prog X.w) X.A X.env X.xe) (hc : PT X c (tT X.K Y rc)) (hb : PSs X body (tS X.K Y rb)) : PS X (.While c body [] pos) (tS X.K Y (sWhile rc rb)) := Ev.PS.imp (ps_while hp hc hb) fun D σ H ⟨env, mu, F, S, he, hg, hw⟩ => while_rd (n := envFuel env) ⟨env, mu, F, S, he, hg, hw⟩
theorem for_rd {t : Tn} {k : SK} {D : Ends} {σ : L2.St} {H : Hp} (h : tS X.K Y (sFor t k rs rb) D σ H) : tFor (tSrc X.K Y k rs) (tG X.K t) (tS X.K Y rb) D σ H := by
  obtain ⟨env, mu, F, S, he, hg, hw⟩ := h
  refine ⟨env, mu, F, S, he, hg, (WY.bnd.mp hw).mono fun ds S1 h1 => ?_⟩
  cases e0 : srcOf k ds S1 with
  | none => simp only [e0] at h1; exact h1.elim
  | some r =>
  obtain ⟨xs, dp⟩ := r
  simp only [e0] at h1
  refine ⟨xs, dp, rfl, fun J H1 mu1 e1 g1 gv => ?_⟩
  have he1 := he.mono hg.live e1
  have fx : Fx F F H1 := Fx.refl _ _
  let W : Nat → Nat → L2.St → Hp → Prop := fun i n σ' H' => n = xs.length - i ∧ i ≤ xs.length ∧ ∃ env' mu' S', Xt mu1 H1 mu' H' ∧ EnvR X.K mu' F H' σ' env' ∧ Gd X.K mu' F H' S' ∧
    WY (forL dp (fTurn t rb) (xs.drop i) env' S') (endS X.K mu F H D) (PoX X.K Y mu F H)
  refine ⟨W, ⟨xs.length, by simp, Nat.zero_le _, env, mu1, S1, Xt.refl _ _, he1, g1, by simpa using h1⟩, ?_⟩
  rintro i n σ' H' ⟨hn, hi, env', mu', S', e2, he2, g2, h2⟩
  by_cases hlt : i < xs.length
  · refine .inr ?_
    have hxs : xs.drop i = xs[i] :: xs.drop (i + 1) := List.drop_eq_getElem_cons hlt
    rw [hxs] at h2
    unfold forL at h2
    by_cases hd : depOk dp S' = true
    · rw [if_pos hd] at h2
      refine ⟨gv.go mu' F H' S' e2.e fx g2 hd i hlt, fun σ'' H'' => W (i + 1) (xs.length - (i + 1)) σ'' H'', fun σ'' H'' w => ⟨_, by omega, w⟩, fun v H3 hy => ?_⟩
      obtain ⟨e3, g3, rv⟩ := gv.yld mu' F H' S' e2.e fx g2 hd i xs[i] v H3 (by simp [hlt]) hy
      have e13 := e2.trans g2.live e3
      have he3 := he2.mono g2.live e3
      unfold fTurn at h2
      cases e4 : asgT t xs[i] env' with
      | none => simp only [e4] at h2; exact h2.elim
      | some env3 =>
        simp only [e4] at h2
        refine ⟨env', mu', F, S', xs[i], env3, he3, g3, rv, e4, fun σ3 he4 ho => ⟨env3, mu', F, S', he4, g3, ?_⟩⟩
        cases e5 : rb env3 S' with
        | no => simp only [e5] at h2; exact h2.elim
        | exc c0 x0 S0 => simp only [e5] at h2; exact PoX.cl (e1.trans g1.live e13) g3.live h2
        | ok f S3 =>
          simp only [e5] at h2
          cases f with
          | nx env4 => exact fun σ4 H4 mu4 e6 g4 he5 => ⟨rfl, hlt, env4, mu4, S3, e13.trans g3.live e6, he5, g4, h2⟩
          | ct env4 => exact fun σ4 H4 mu4 e6 g4 he5 => ⟨rfl, hlt, env4, mu4, S3, e13.trans g3.live e6, he5, g4, h2⟩
          | bk env4 =>
            have h2 : endS X.K mu F H D (.nx env4) S3 := h2
            exact fun σ4 H4 mu4 e6 g4 he5 => h2 _ _ _ ((e1.trans g1.live e13).trans g3.live e6) g4 he5
          | rt d =>
            have h2 : endS X.K mu F H D (.rt d) S3 := h2
            exact fun v4 H4 mu4 e6 g4 r => h2 _ _ _ ((e1.trans g1.live e13).trans g3.live e6) g4 r
    · rw [if_neg hd] at h2; exact h2.elim
  · have hi : i = xs.length := by omega
    subst hi
    rw [List.drop_length] at h2
    unfold forL at h2
    by_cases hd : depOk dp S' = true
    · rw [if_pos hd] at h2
      have h2 : endS X.K mu F H D (.nx env') S' := h2
      exact .inl ⟨gv.stop mu' F H' S' e2.e fx g2 hd, h2 _ _ _ (e1.trans g1.live e2) g2 he2⟩
    · rw [if_neg hd] at h2; exact h2.elim
theorem pS_for {tg iter : Expr} {t : Tn} {k : SK} (hp : PassesOwn (model X.prog X.w) X.A X.env X.xe) (hc : X.calm = true) (hi : PI X tg iter (tSrc X.K Y k rs)) (hg : PG X tg (tG X.K t)) (hb : PSs X body (tS X.K Y rb)) (hs : ∀ x, foldedSetIterable iter X.env x = pure x) :
    PS X (.For tg iter body [] pos) (tS X.K Y (sFor t k rs rb)) := Ev.PS.imp (ps_for hp hc hi hg hb hs) fun D σ H h => for_rd h
end
end Ev
/-! Ev: comprehensions with two clauses -/
namespace Ev
open PySem PySem.Spec
open PyProof.Rows L2
variable [LamN]
section
variable {X : Cx} {Y : XI} {rs rs1 : EM (List D)} {ri ri1 re : EM D}
theorem comp2_wp {m : Bool} {own own1 : List Nat} {t t1 : Tn} {k k1 : SK} {σ : L2.St} {H : Hp} {Q : VK} (ht : ∀ i, i ∈ t.names → i ∈ own) (ht1 : ∀ i, i ∈ t1.names → i ∈ own1)
    (h : tE X.K Y (kComp2 m own t k rs ri own1 t1 k1 rs1 ri1 re) σ H Q) : tLc2 (tSrc X.K Y k rs) (tG X.K t) (tT X.K Y.nox ri) (tSrc X.K Y.nox k1 rs1) (tG X.K t1) (tT X.K Y.nox ri1) (tE X.K Y.nox re) own own1 σ H Q := by
  obtain ⟨env, mu, F, S, he, hg, hw⟩ := h
  refine ⟨env, mu, F, S, he, hg, (WY.bnd.mp hw).mono fun ds S1 h1 => ?_⟩
  cases e0 : srcOf k ds S1 with
  | none => simp only [e0] at h1; exact h1.elim
  | some r =>
  obtain ⟨xs, dp⟩ := r
  simp only [e0] at h1
  have h1 := WY.noX (QX := fun _ _ _ => False) (WY.bnd.mp h1)
  refine ⟨xs, dp, rfl, fun J H1 mu1 e1 g1 gv p hp => ?_⟩
  have he1 := he.mono hg.live e1
  have hpF : p ∉ F := fun h => g1.live.fne h hp
  have fx : Fx F (p :: F) H1 := fun b hb => (List.mem_cons.mp hb).elim (fun z => .inr (by rw [z]; exact hp)) .inl
  have h0 : Fr0 H p := by
    intro o q
    by_cases hm : p ∈ mu
    · obtain ⟨o', e'⟩ := g1.live.ex (e1.sub hm)
      rw [hp] at e'; cases e'
    · by_cases ht : ∃ ps, o = .tbl ps
      · exact ht
      · rw [e1.keep p o q hm fun ps z => ht ⟨ps, z⟩] at hp; cases hp
  let f : D → List D → M (List D) := turnA t k1 own1 t1 ri rs1 ri1 re (wipeD env own)
  let Fin : List D → Store → Prop := fun ys S'' => WY (mkL m ys S'') (Po X.K mu F H Q) (PoX X.K Y mu F H)
  let W : Nat → Nat → Hp → Prop := fun i n H' => n = xs.length - i ∧ i ≤ xs.length ∧ ∃ mu' S' acc accD, Xt mu1 H1 mu' H' ∧ Gd X.K mu' (p :: F) H' S' ∧ H' p = some (.lst acc) ∧ Rps X.K mu' (p :: F) H' acc accD ∧
    WY (compA dp f (xs.drop i) accD S') Fin fun _ _ _ => False
  refine ⟨W, ⟨xs.length, by simp, Nat.zero_le _, mu1, S1, [], [], Xt.new hp, ?_, upd_same, .nil, by simpa using h1⟩, ?_⟩
  · have g2 := g1.new (o := .lst []) hp
    refine ⟨⟨g2.live.nd, g2.live.mt, fun b hb hf => ?_, fun b hb => ?_⟩, g2.len, fun n c b h1 h2 => ?_, g2.tb⟩
    · rcases List.mem_cons.mp hf with z | z
      · exact g1.live.notin hp (by rw [← z]; exact hb)
      · exact g1.live.out b hb z
    · rcases List.mem_cons.mp hb with z | z
      · rw [z, upd_same]; exact ⟨_, rfl, fun _ z => nomatch z⟩
      · exact g2.live.frn b z
    · have q := g1.cell n c b h1 h2
      cases c with
      | lst ds =>
        obtain ⟨vs, e, r⟩ := q
        exact ⟨vs, by rw [upd_ne (ne_of_none e hp)]; exact e, r.far g1.live fx (Xt.new hp)⟩
      | obj _ _ => exact q.elim
  · rintro i n H' ⟨hn, hi, mu', S', acc, accD, e2, g2, hp2, ra, h2⟩
    by_cases hlt : i < xs.length
    · refine .inr ?_
      have hxs : xs.drop i = xs[i] :: xs.drop (i + 1) := List.drop_eq_getElem_cons hlt
      rw [hxs] at h2
      unfold compA at h2
      by_cases hd : depOk dp S' = true
      · rw [if_pos hd] at h2
        refine ⟨gv.go mu' (p :: F) H' S' e2.e fx g2 hd i hlt, fun H'' => W (i + 1) (xs.length - (i + 1)) H'', fun H'' w => ⟨_, by omega, w⟩, fun v H3 hy => ?_⟩
        obtain ⟨e3, g3, rv⟩ := gv.yld mu' (p :: F) H' S' e2.e fx g2 hd i xs[i] v H3 (by simp [hlt]) hy
        have e13 := e2.trans g2.live e3
        have he3 : EnvR X.K mu' (p :: F) H3 (wipe σ own) (wipeD env own) := (he1.far g1.live fx e13).wipe own
        have hp3 : H3 p = some (.lst acc) := e3.keep p _ hp2 (fun z => g2.live.out p z List.mem_cons_self) (fun _ z => nomatch z)
        have h2 : WY (Ev.bnd (f xs[i] accD) (fun acc' => compA dp f (xs.drop (i + 1)) acc') S') Fin fun _ _ _ => False := by
          unfold Ev.bnd
          cases e9 : f xs[i] accD S' with
          | ok a S9 => rw [e9] at h2; exact h2
          | exc _ _ _ => rw [e9] at h2; exact h2
          | no => rw [e9] at h2; exact h2
        have h2 := WY.bnd.mp h2
        have h2 : WY (turnA t k1 own1 t1 ri rs1 ri1 re (wipeD env own) xs[i] accD S') _ _ := h2
        unfold turnA at h2
        cases e4 : asgT t xs[i] (wipeD env own) with
        | none => simp only [e4] at h2; exact h2.elim
        | some env' =>
          simp only [e4] at h2
          refine ⟨wipeD env own, mu', p :: F, S', xs[i], env', he3, g3, rv, e4, fun σ' he' ho => ⟨?_, ?_⟩⟩
          · rw [wipe_only ho ht]
            exact wipe_only ⟨wipe_length σ own, fun j hj => wipe_out hj⟩ fun i hi => hi
          · refine ⟨env', mu', p :: F, S', he', g3, (WY.bnd.mp h2).mono2 (fun b S2 h3 => ?_) fun _ _ _ z => z.elim⟩
            have off : ∀ H4 mu4, Xt mu' H3 mu4 H4 → H4 p = some (.lst acc) := fun H4 mu4 e6 => e6.keep p _ hp3 (fun z => g2.live.out p z List.mem_cons_self) (fun _ z => nomatch z)
            split at h3
            · refine ⟨true, rfl, fun H4 mu4 e6 g4 => ?_⟩
              dsimp only
              rw [if_pos rfl]
              refine ⟨env', mu4, p :: F, S2, he'.mono g3.live e6, g4, (WY.bnd.mp h3).mono2 (fun ds1 S3 h4 => ?_) fun _ _ _ z => z.elim⟩
              cases e10 : srcOf k1 ds1 S3 with
              | none => simp only [e10] at h4; exact h4.elim
              | some r1 =>
              obtain ⟨ys, dp1⟩ := r1
              simp only [e10] at h4
              obtain ⟨hlen, h4⟩ := WY.guard.mp h4
              have hlen : accD.length + ys.length ≤ LIM := by rw [Nat.ble_eq] at hlen; exact hlen
              refine ⟨ys, dp1, rfl, fun J1 H5 mu5 e11 g5 gv1 => ?_⟩
              have e46 := e6.trans g4.live e11
              have hp5 := off H5 mu5 e46
              have hpn5 : ∀ b, b ∈ p :: F → ∃ o, H5 b = some o ∧ ∀ ps, o ≠ .tbl ps := g5.live.frn
              have ra5 : Rps X.K mu5 (p :: F) H5 acc accD := (ra.mono g2.live e3).mono g3.live e46
              have e15 := e13.trans g3.live e46
              have he5 := he'.mono g3.live e46
              let Fin1 : List D → Store → Prop := fun acc' S'' => WY (compA dp f (xs.drop (i + 1)) acc' S'') Fin fun _ _ _ => False
              let W1 : Nat → Nat → Hp → Prop := fun j n H' => n = ys.length - j ∧ j ≤ ys.length ∧ ∃ mu' S' acc1 accD1, Xt mu1 H1 mu' H' ∧ XtE (p :: F) mu5 H5 mu' H' ∧ Gd X.K mu' (p :: F) H' S' ∧ H' p = some (.lst acc1) ∧ Rps X.K mu' (p :: F) H' acc1 accD1 ∧ accD1.length ≤ accD.length + j ∧
                WY (compL dp1 (turn t1 ri1 re (wipeD env' own1)) (ys.drop j) accD1 S') Fin1 fun _ _ _ => False
              refine ⟨W1, ⟨ys.length, by simp, Nat.zero_le _, mu5, S3, acc, accD, e15, (Xt.refl _ _).e, g5, hp5, ra5, by omega, by simpa using h4⟩, ?_⟩
              rintro j n1 H6 ⟨hn1, hj, mu6, S6, acc1, accD1, e16, e56, g6, hp6, ra6, hla, h6⟩
              by_cases hlt1 : j < ys.length
              · refine .inr ?_
                have hys : ys.drop j = ys[j] :: ys.drop (j + 1) := List.drop_eq_getElem_cons hlt1
                rw [hys] at h6
                unfold compL at h6
                by_cases hd1 : depOk dp1 S6 = true
                · rw [if_pos hd1] at h6
                  refine ⟨gv1.go mu6 (p :: F) H6 S6 e56 (Fx.refl _ _) g6 hd1 j hlt1, fun H'' => W1 (j + 1) (ys.length - (j + 1)) H'', fun H'' w => ⟨_, by omega, w⟩, fun v1 H7 hy1 => ?_⟩
                  obtain ⟨e7, g7, rv1⟩ := gv1.yld mu6 (p :: F) H6 S6 e56 (Fx.refl _ _) g6 hd1 j ys[j] v1 H7 (by simp [hlt1]) hy1
                  have e17 := e16.trans g6.live e7
                  have e57 := e56.trans g6.live e7 (g6.live.frnE e56 hpn5)
                  have he7 : EnvR X.K mu6 (p :: F) H7 (wipe σ' own1) (wipeD env' own1) := (he5.farE g5.live (Fx.refl _ _) e57).wipe own1
                  have hp7 : H7 p = some (.lst acc1) := e7.keep p _ hp6 (fun z => g6.live.out p z List.mem_cons_self) (fun _ z => nomatch z)
                  have ra7 := ra6.mono g6.live e7
                  unfold turn at h6
                  cases e20 : asgT t1 ys[j] (wipeD env' own1) with
                  | none => simp only [e20] at h6; exact h6.elim
                  | some env2 =>
                    simp only [e20] at h6
                    refine ⟨wipeD env' own1, mu6, p :: F, S6, ys[j], env2, he7, g7, rv1, e20, fun σ2 he2 ho2 => ⟨?_, ?_⟩⟩
                    · rw [wipe_only ho2 ht1]
                      exact wipe_only ⟨wipe_length σ' own1, fun j hj => wipe_out hj⟩ fun i hi => hi
                    · refine ⟨env2, mu6, p :: F, S6, he2, g7, ?_⟩
                      unfold Ev.bnd at h6
                      cases e21 : ri1 env2 S6 with
                      | no => simp only [e21] at h6; exact h6.elim
                      | exc _ _ _ => simp only [e21] at h6; exact h6.elim
                      | ok b S7 =>
                        simp only [e21] at h6
                        split at h6
                        · rename_i z hz
                          split at hz
                          · refine ⟨true, rfl, fun H8 mu8 e8 g8 => ?_⟩
                            dsimp only
                            rw [if_pos rfl]
                            refine ⟨env2, mu8, p :: F, S7, he2.mono g7.live e8, g8, ?_⟩
                            unfold Ev.ret at hz
                            cases e22 : re env2 S7 with
                            | no => simp only [e22] at hz; cases hz
                            | exc _ _ _ => simp only [e22] at hz; cases hz
                            | ok y S8 =>
                              simp only [e22] at hz
                              cases hz
                              intro vy H9 mu9 e9 g9 r9
                              have e79 := e8.trans g8.live e9
                              have hp9 : H9 p = some (.lst acc1) := e79.keep p _ hp7 (fun z => g6.live.out p z List.mem_cons_self) (fun _ z => nomatch z)
                              have ra9 : Rps X.K mu9 (p :: F) H9 acc1 accD1 := ra7.mono g7.live e79
                              have e19 := e17.trans g7.live e79
                              have e59 := e57.trans g7.live e79 (g7.live.frnE e57 hpn5)
                              refine ⟨acc1, hp9, by rw [ra6.length]; rw [lim_eq] at hlen; omega, rfl, hlt1, mu9, _, acc1 ++ [vy], _, ?_, e59.put hp9 (show Acc (.lst _) from trivial) List.mem_cons_self, g9.inF hp9 (show Acc (.lst _) from trivial) (show Acc (.lst _) from trivial) List.mem_cons_self, upd_same, (ra9.append (.cons r9 .nil)).inF hp9 (show Acc (.lst _) from trivial) (show Acc (.lst _) from trivial) List.mem_cons_self, by simp; omega, h6⟩
                              exact ⟨e19.pre, fun b o hb hm ho => by rw [upd_ne (ne_of_none hb hp)]; exact e19.keep b o hb hm ho⟩
                          · cases hz
                          · cases hz
                        · rename_i z hz
                          split at hz
                          · unfold Ev.ret at hz
                            split at hz <;> cases hz
                          · cases hz
                            refine ⟨false, rfl, fun H8 mu8 e8 g8 => ?_⟩
                            dsimp only
                            rw [if_neg Bool.false_ne_true]
                            exact ⟨rfl, hlt1, mu8, _, acc1, accD1, e17.trans g7.live e8, e57.trans g7.live e8 (g7.live.frnE e57 hpn5), g8, e8.keep p _ hp7 (fun z => g6.live.out p z List.mem_cons_self) (fun _ z => nomatch z), ra7.mono g7.live e8, by omega, h6⟩
                          · cases hz
                        · exact h6.elim
                        · exact h6.elim
                · rw [if_neg hd1] at h6; exact h6.elim
              · have hj1 : j = ys.length := by omega
                subst hj1
                rw [List.drop_length] at h6
                unfold compL at h6
                by_cases hd1 : depOk dp1 S6 = true
                · rw [if_pos hd1] at h6
                  exact .inl ⟨gv1.stop mu6 (p :: F) H6 S6 e56 (Fx.refl _ _) g6 hd1, rfl, hlt, mu6, S6, acc1, accD1, e16, g6, hp6, ra6, h6⟩
                · rw [if_neg hd1] at h6; exact h6.elim
            · refine ⟨false, rfl, fun H4 mu4 e6 g4 => ?_⟩
              dsimp only
              rw [if_neg Bool.false_ne_true]
              exact ⟨rfl, hlt, mu4, _, acc, accD, e13.trans g3.live e6, g4, off H4 mu4 e6, (ra.mono g2.live e3).mono g3.live e6, h3⟩
            · exact h3.elim
      · rw [if_neg hd] at h2; exact h2.elim
    · have hi : i = xs.length := by omega
      subst hi
      rw [List.drop_length] at h2
      unfold compA at h2
      by_cases hd : depOk dp S' = true
      · rw [if_pos hd] at h2
        have h2 : WY (mkL m accD S') (Po X.K mu F H Q) (PoX X.K Y mu F H) := h2
        exact .inl ⟨gv.stop mu' (p :: F) H' S' e2.e fx g2 hd, mkL_fin g2 hp2 ra (e1.trans g1.live e2) h0 hpF h2⟩
      · rw [if_neg hd] at h2; exact h2.elim
theorem call_len_dK : CallR X (.builtin "len") (fun xs H Q => ∃ a kvs, xs = [V.ref a] ∧ H a = some (.dK kvs) ∧ Q (.int kvs.length) H) := by
  intro pins s σ H xs us Q I r h
  obtain ⟨p, kvs, rfl, e, q⟩ := h
  obtain ⟨u, rfl, rx⟩ := vals1 r
  cases rx
  exact d_len I (.inl e) fun t s' I' => ⟨.int _, H, I', ⟨t, rfl⟩, q⟩
theorem addD_len : ∀ (l : List D) (acc : List Int), (l.foldl addD acc).length ≤ acc.length + l.length
  | [], acc => by simp
  | d :: l, acc => by
    have := addD_len l (addD acc d)
    have h2 : (addD acc d).length ≤ acc.length + 1 := by
      unfold addD addI
      split
      · split <;> simp
      · simp
    simp only [List.foldl_cons, List.length_cons]
    omega
theorem putK_keys {kvs : List (Key × V)} {ks : List Int} {j : Int} {v : V} (h : kvs.map (·.1) = ks.map Sum.inl) : (putK kvs (.inl j) v).map (·.1) = (addI ks j).map Sum.inl := by
  have ha : (kvs.any fun kv => decide (kv.1 = Sum.inl j)) = ks.any fun y => y == j := by
    have h1 : (kvs.any fun kv => decide (kv.1 = (Sum.inl j : Key))) = (kvs.map (·.1)).any fun k => decide (k = (Sum.inl j : Key)) := by rw [List.any_map]; rfl
    rw [h1, h, List.any_map]
    congr 1
    funext y
    rw [Bool.eq_iff_iff]
    simp
  unfold putK addI
  rw [ha]
  split
  · rw [← h, List.map_map]
    congr 1
    funext kv
    simp only [Function.comp]
    split
    · rfl
    · rfl
  · simp [h]
theorem dlen_wp {own : List Nat} {t : Tn} {k : SK} {σ : L2.St} {H : Hp} {Q : VK} (ht : ∀ i, i ∈ t.names → i ∈ own) (h : tE X.K Y (kDlen own t k rs re) σ H Q) : tDc (tSrc X.K Y k rs) (tG X.K t) (tT X.K Y.nox (kRet (.bl true))) (tE X.K Y.nox re) (fun _ H Q => Q (.bl true) H) own σ H (fun v H1 => ∃ a kvs, [v] = [V.ref a] ∧ H1 a = some (.dK kvs) ∧ Q (.int kvs.length) H1) := by
  obtain ⟨env, mu, F, S, he, hg, hw⟩ := h
  refine ⟨env, mu, F, S, he, hg, (WY.bnd.mp hw).mono fun ds S1 h1 => ?_⟩
  cases e0 : srcOf k ds S1 with
  | none => simp only [e0] at h1; exact h1.elim
  | some r =>
  obtain ⟨xs, dp⟩ := r
  simp only [e0] at h1
  obtain ⟨hlen, h1⟩ := WY.guard.mp h1
  have hlen : xs.length ≤ LIM := by rw [Nat.ble_eq] at hlen; exact hlen
  have h1 := WY.noX (QX := fun _ _ _ => False) (WY.bnd.mp h1)
  refine ⟨xs, dp, rfl, fun J H1 mu1 e1 g1 gv p hp => ?_⟩
  have he1 := he.mono hg.live e1
  have hpF : p ∉ F := fun h => g1.live.fne h hp
  have fx : Fx F (p :: F) H1 := fun b hb => (List.mem_cons.mp hb).elim (fun z => .inr (by rw [z]; exact hp)) .inl
  have h0 : Fr0 H p := by
    intro o q
    by_cases hm : p ∈ mu
    · obtain ⟨o', e'⟩ := g1.live.ex (e1.sub hm)
      rw [hp] at e'; cases e'
    · by_cases ht : ∃ ps, o = .tbl ps
      · exact ht
      · rw [e1.keep p o q hm fun ps z => ht ⟨ps, z⟩] at hp; cases hp
  let W : Nat → Nat → Hp → Prop := fun i n H' => n = xs.length - i ∧ i ≤ xs.length ∧ ∃ mu' S' acc accD, Xt mu1 H1 mu' H' ∧ Gd X.K mu' (p :: F) H' S' ∧ H' p = some (.dK acc) ∧ acc.map (·.1) = (accD.foldl addD []).map Sum.inl ∧ accD.length ≤ i ∧
    WY (compL dp (turn t (kRet (.bl true)) (kInt re) (wipeD env own)) (xs.drop i) accD S') (fun ys S'' => WY (rInt ((ys.foldl addD []).length) S'') (Po X.K mu F H Q) (PoX X.K Y mu F H)) fun _ _ _ => False
  refine ⟨W, ⟨xs.length, by simp, Nat.zero_le _, mu1, S1, [], [], Xt.new hp, ?_, upd_same, rfl, Nat.le_refl _, by simpa using h1⟩, ?_⟩
  · have g2 := g1.new (o := .dK []) hp
    refine ⟨⟨g2.live.nd, g2.live.mt, fun b hb hf => ?_, fun b hb => ?_⟩, g2.len, fun n c b h1 h2 => ?_, g2.tb⟩
    · rcases List.mem_cons.mp hf with z | z
      · exact g1.live.notin hp (by rw [← z]; exact hb)
      · exact g1.live.out b hb z
    · rcases List.mem_cons.mp hb with z | z
      · rw [z, upd_same]; exact ⟨_, rfl, fun _ z => nomatch z⟩
      · exact g2.live.frn b z
    · have q := g1.cell n c b h1 h2
      cases c with
      | lst ds =>
        obtain ⟨vs, e, r⟩ := q
        exact ⟨vs, by rw [upd_ne (ne_of_none e hp)]; exact e, r.far g1.live fx (Xt.new hp)⟩
      | obj _ _ => exact q.elim
  · rintro i n H' ⟨hn, hi, mu', S', acc, accD, e2, g2, hp2, ra, hla, h2⟩
    by_cases hlt : i < xs.length
    · refine .inr ?_
      have hxs : xs.drop i = xs[i] :: xs.drop (i + 1) := List.drop_eq_getElem_cons hlt
      rw [hxs] at h2
      unfold compL at h2
      by_cases hd : depOk dp S' = true
      · rw [if_pos hd] at h2
        refine ⟨gv.go mu' (p :: F) H' S' e2.e fx g2 hd i hlt, fun H'' => W (i + 1) (xs.length - (i + 1)) H'', fun H'' w => ⟨_, by omega, w⟩, fun v H3 hy => ?_⟩
        obtain ⟨e3, g3, rv⟩ := gv.yld mu' (p :: F) H' S' e2.e fx g2 hd i xs[i] v H3 (by simp [hlt]) hy
        have e13 := e2.trans g2.live e3
        have he3 : EnvR X.K mu' (p :: F) H3 (wipe σ own) (wipeD env own) := (he1.far g1.live fx e13).wipe own
        have hp3 : H3 p = some (.dK acc) := e3.keep p _ hp2 (fun z => g2.live.out p z List.mem_cons_self) (fun _ z => nomatch z)
        unfold turn at h2
        cases e4 : asgT t xs[i] (wipeD env own) with
        | none => simp only [e4] at h2; exact h2.elim
        | some env' =>
          simp only [e4] at h2
          refine ⟨wipeD env own, mu', p :: F, S', xs[i], env', he3, g3, rv, e4, fun σ' he' ho => ⟨?_, ?_⟩⟩
          · rw [wipe_only ho ht]
            exact wipe_only ⟨wipe_length σ own, fun j hj => wipe_out hj⟩ fun i hi => hi
          · refine ⟨env', mu', p :: F, S', he', g3, ?_⟩
            unfold Ev.bnd at h2
            cases e5 : kRet (.bl true) env' S' with
            | no => simp only [e5] at h2; exact h2.elim
            | exc _ _ _ => simp only [e5] at h2; exact h2.elim
            | ok b S2 =>
              simp only [e5] at h2
              split at h2
              · rename_i z hz
                split at hz
                · refine ⟨true, rfl, fun H4 mu4 e6 g4 => ?_⟩
                  dsimp only
                  rw [if_pos rfl]
                  refine ⟨env', mu4, p :: F, S2, he'.mono g3.live e6, g4, ?_⟩
                  unfold Ev.ret at hz
                  unfold kInt Ev.bnd at hz
                  cases e7 : re env' S2 with
                  | no => simp only [e7] at hz; cases hz
                  | exc _ _ _ => simp only [e7] at hz; cases hz
                  | ok y S3 =>
                    simp only [e7] at hz
                    cases y with
                    | int y =>
                      have hz := hz
                      cases hz
                      intro vy H5 mu5 e8 g5 r5
                      cases r5
                      have e48 := e6.trans g4.live e8
                      have hp5 : H5 p = some (.dK acc) := e48.keep p _ hp3 (fun z => g2.live.out p z List.mem_cons_self) (fun _ z => nomatch z)
                      have e15 := e13.trans g3.live e48
                      have hla2 : acc.length = (accD.foldl addD []).length := by
                        have := congrArg List.length ra
                        simpa using this
                      have hla3 := addD_len accD []
                      refine ⟨acc, .inl y, rfl, hp5, by rw [lim_eq] at hlen; simp at hla3; omega, rfl, hlt, mu5, _, putK acc (.inl y) (.bl true), _, ?_, g5.inF hp5 (show Acc (.dK _) from trivial) (show Acc (.dK _) from trivial) List.mem_cons_self, upd_same, ?_, by simp; omega, h2⟩
                      · exact ⟨e15.pre, fun b o hb hm ho => by rw [upd_ne (ne_of_none hb hp)]; exact e15.keep b o hb hm ho⟩
                      · rw [List.foldl_append]
                        exact putK_keys ra
                    | _ => cases hz
                · cases hz
                · cases hz
              · rename_i z hz
                split at hz
                · unfold Ev.ret at hz
                  split at hz <;> cases hz
                · cases hz
                  refine ⟨false, rfl, fun H4 mu4 e6 g4 => ?_⟩
                  dsimp only
                  rw [if_neg Bool.false_ne_true]
                  exact ⟨rfl, hlt, mu4, _, acc, accD, e13.trans g3.live e6, g4, e6.keep p _ hp3 (fun z => g2.live.out p z List.mem_cons_self) (fun _ z => nomatch z), ra, by omega, h2⟩
                · cases hz
              · exact h2.elim
              · exact h2.elim
      · rw [if_neg hd] at h2; exact h2.elim
    · have hi : i = xs.length := by omega
      subst hi
      rw [List.drop_length] at h2
      unfold compL at h2
      by_cases hd : depOk dp S' = true
      · rw [if_pos hd] at h2
        have h2 : WY (rInt ((accD.foldl addD []).length) S') (Po X.K mu F H Q) (PoX X.K Y mu F H) := h2
        rw [rInt_eq] at h2
        have h2 : Po X.K mu F H Q (.int ((accD.foldl addD []).length : Nat)) S' := h2
        have hla2 : acc.length = (accD.foldl addD []).length := by
          have := congrArg List.length ra
          simpa using this
        refine .inl ⟨gv.stop mu' (p :: F) H' S' e2.e fx g2 hd, _, acc, rfl, hp2, ?_⟩
        rw [hla2]
        exact h2 _ _ mu' (e1.trans g1.live e2) (g2.fewer fun b hb => List.mem_cons_of_mem _ hb) (.int _)
      · rw [if_neg hd] at h2; exact h2.elim
theorem dlen_pe {own : List (Str × Nat)} {own' : List Nat} {t : Tn} {k : SK} {kx tg iter : Expr} {scope : Scope} {p dp vp pos : Pos} {vj : Nat} (hc : X.calm = true) (hN : X.N.Nodup) (hgl : Gl X "len") (hm : X.mg "len" = none) (ok : BlkOk X.N X.env.scope scope own) (ho : own.map (·.2) = own') (ht : ∀ i, i ∈ t.names → i ∈ own')
    (hi : PI X tg iter (tSrc X.K Y k rs)) (hg : ∀ (s : Shared) (H : Hp) (Ca : Addr) (cl : List (Str × Addr)) (fp : List Addr), PG (X.blk s H scope (compEnvC scope cl Ca X.env) fp) tg (tG X.K t))
    (he : ∀ (s : Shared) (H : Hp) (Ca : Addr) (cl : List (Str × Addr)) (fp : List Addr), PE (X.blk s H scope (compEnvC scope cl Ca X.env) fp) kx (tE X.K Y.nox re)) (ns : ∀ x, foldedSetIterable iter X.env x = pure x) :
    PE X (.Call (.Name "len" p) [.DictComp kx (.Constant (.bool true) vj vp) [⟨tg, iter, [], 0⟩] scope dp] [] pos) (tE X.K Y (kDlen own' t k rs re)) :=
  Ev.PE.imp (pe_callB call_len_dK hgl hm (by decide +kernel) (pa_cons (pe_dc hc hN hi ok hg (fun s H Ca cl fp => pTs_nil) he (fun s H Ca cl fp => pe_bl) ns) pa_nil)) fun σ H Q q => by
    rw [ho]
    exact dlen_wp ht q
end
end Ev
/-! Ev: the package's exceptions: made, raised -/
namespace Ev
open PySem PySem.Spec
open PyProof.Rows L2
variable [LamN]

/-! ### super().__init__(x); self.f = x -/
/-- what the written part says of a class whose own __init__ is this -/
structure SupC (P : Program) (K : PySem.W.Frag) (mg : Str → Option Value) (C : Addr) (f : Str) (fI cda cc : Addr) (fd : FuncData) (x1 x2 qual : Str) (params : Arguments) (scope : Scope) (b : List Stmt) : Prop where
  T : OexC K C
  lk : ∃ oc od osl dV kV doc pm an ct, K.lookup fI = some ⟨oc, od, .func fd, osl⟩ ∧ fd = PySem.W.ksFn "__init__" qual params b scope dV kV doc pm an (.ref cda) ct cc
  hcd : PySem.W.codeIn K (.ref cda) qual = true
  code : ∃ ccl cdd vs ccs file tf, K.lookup cda = some ⟨ccl, cdd, .fields vs, ccs⟩ ∧ vs[2]? = some (.str file tf) ∧ ((P.main.file : Str) == file) = true
  cell : ∃ cl cld csl, K.lookup cc = some ⟨cl, cld, .cell (some (.ref C)), csl⟩
  sup : PySem.W.ks_superIn K C C "__init__" = some (some (.builtin "ValueError.__init__"))
  ns : mg "super" = none
  opq : PySem.W.nsIn K PySem.cStatics "thirdparty.any" = some none
  nf : PySem.W.findIn K (.ref C) f = some none
  ve : PySem.W.subIn K (.ref C) (.type "ValueError") = some true
  me : PySem.W.mroIn K C (.ref C) = some true
  top : (P.main.scope.names.lookup ("super" : Str)).isSome = false
  txt : ∃ (p0 p1 p2 p3 p4 p5 p6 p7 p8 p9 : Pos), b = [.Expr (.Call (.Attribute (.Call (.Name "super" p0) [] [] p1) "__init__" p2) [.Name x2 p3] [] p4) p5, .Assign [.Attribute (.Name x1 p6) f p7] (.Name x2 p8) p9] ∧
    ∃ pl : Sem Bool, ∀ env : PySem.Env, eval (.Call (.Attribute (.Call (.Name "super" p0) [] [] p1) "__init__" p2) [.Name x2 p3] [] p4) env = (do
      let ov ← attributeBase (.Call (.Name "super" p0) [] [] p1) "__init__" env (eval (.Call (.Name "super" p0) [] [] p1) env)
      standAt p2.atName
      let (f, first) ← holding [ov] (getMethod ov "__init__" pl)
      callWith p4 f first (backTo p4 (starEach [.Name x2 p3] env)) [])
  hp : ∃ ar, (params.posonlyargs ++ params.args).head? = some ar ∧ ar.arg = x1
  kind : scope.kind = .function
  co : scope.isCoroutine = false
  gen : scope.isGenerator = false
  own : ∀ y ∈ scope.names, y.2 ≠ .cell ∧ (y.2 = .free → y.1 = "__class__")
  n1 : scope.names.lookup x1 = some .local
  n2 : scope.names.lookup x2 = some .local
  ks : scope.names.lookup ("super" : Str) = some .globalImplicit
  kc : scope.names.lookup ("__class__" : Str) = some .free
  ne : x1 ≠ x2
  d1 : (x1 == ("__debug__" : Str)) = false ∧ (x1 == ("__classdict__" : Str)) = false
  d2 : (x2 == ("__debug__" : Str)) = false ∧ (x2 == ("__classdict__" : Str)) = false
def spI (C : Addr) (f : Str) : Sp := fun vs H Q _ => ∃ a v, vs = [.ref a, v] ∧ H a = some (exo a C none) ∧ ∀ dx, H dx = none → dx ≠ a → Q .non (upd (upd H dx (exd dx [(f, v)])) a (exo a C (some dx)))
section
variable {P : Program} {w : World} {K : PySem.W.Frag} {mg : Str → Option Value} {base : Heap} {C : Addr} {f : Str} {fI cda cc : Addr} {fd : FuncData} {x1 x2 qual : Str} {params : Arguments} {scope : Scope} {b : List Stmt} {CX : CXT}
abbrev iEnv (qual : Str) (scope : Scope) (L fI cda cc : Addr) : PySem.Env := PySem.W.ksEnv qual scope L fI (.ref cda) cc
/-- the context of __init__'s body -/
def iCx (CX : CXT) (P : Program) (w : World) (K : PySem.W.Frag) (mg : Str → Option Value) (base : Heap) (N : List Str) (env : PySem.Env) (A : Around) (outer : List PySem.Env) (s : Shared) (H : Hp) (E : XK) : Cx where
  prog := P
  w := w
  K := K
  mg := mg
  base := base
  A := A.deeper env
  N := N
  s_0 := s
  H_0 := H
  env := env
  outer := outer
  stack := env :: outer
  ex := []
  fn := fun _ => false
  calm := true
  pn := []
  xe := fun e s' => wpAny (model P w) (A.deeper env) (leaving env e) (fun _ s'' => CX outer H s E e s'') (fun e' s'' => CX outer H s E e' s'') s'
theorem one_cell {y : Str} {c cc : Addr} (h : [(("__class__" : Str), cc)].lookup y = some c) : y = "__class__" ∧ c = cc := by
  rw [List.lookup_cons] at h
  cases e : (y == ("__class__" : Str)) with
  | true => rw [e] at h; exact ⟨by simpa using e, by simpa using h.symm⟩
  | false => rw [e] at h; cases h
theorem init_inv (S : SupC P K mg C f fI cda cc fd x1 x2 qual params scope b) {A : Around} {outer : List PySem.Env} {s : Shared} {H : Hp} {E : XK} {u1 u2 : Value} {v1 v2 : V} {h₁ : Heap} {tk : Nat} (e0 : Env0 P w K mg base A outer s H) (hd : A.handled = none)
    (r1 : L2.RelV v1 u1) (r2 : L2.RelV v2 u2) (hns : h₁.Ns s.heap.objs.size fun y => ([x1, x2].zip [u1, u2]).reverse.lookup y) (kp : ∀ b o, s.heap.get? b = some o → h₁.get? b = some o) :
    Inv (iCx CX P w K mg base [x1, x2] (iEnv qual scope s.heap.objs.size fI cda cc) A outer s H E) [] [some v1, some v2] H { s with heap := h₁, toks := tk } := by
  have noA : ∀ b : Addr, b ∉ (iCx CX P w K mg base [x1, x2] (iEnv qual scope s.heap.objs.size fI cda cc) A outer s H E).ex := fun b z => absurd (show b ∈ ([] : List Addr) from z) (by simp)
  obtain ⟨cl, cld, csl, hcc⟩ := S.cell
  have hb := e0.mod.kin _ _ hcc
  have hb2 := e0.bs _ _ hb
  refine ⟨⟨e0.mod, S.kind, rfl, rfl, Nat.le_refl _, fun y z c h1 h2 => ?_, fun y hy => ?_, fun y c z _ => ?_, fun _ => hd, Around.frames_deeper e0.frames, .inr ⟨rfl, rfl⟩, fun b z => absurd z (noA b), e0.bs, e0.bsz, fun b _ _ => noA b,
      fun b z => absurd z (noA b), e0.funs, e0.frf⟩,
    rfl, e0.bare, Un.kept kp, ⟨_, hns, fun i y v h1 h2 h3 => ?_⟩, fun y c h1 => ?_, e0.hok.fresh (Nat.le_refl _), fun y c h1 => ?_, fun q hq => absurd (show q ∈ ([] : List (Addr × Obj)) ++ [] from hq) (by simp), e0.hok.kept kp, rfl⟩
  · rw [(one_cell h1).1, (one_cell h2).1]
  · have hy : scope.names.lookup y = some .cell ∨ scope.names.lookup y = some .free := hy
    rcases hy with hy | hy
    · exact absurd rfl (S.own _ (PySem.mem_of_lookup hy)).1
    · have e : y = "__class__" := (S.own _ (PySem.mem_of_lookup hy)).2 rfl
      subst e
      exact ⟨cc, rfl⟩
  · have z : false = true := z
    cases z
  · have e1 : ([x1, x2].zip [u1, u2]).reverse.lookup x1 = some u1 := by
      have : (x1 == x2) = false := by simpa using S.ne
      simp [List.lookup_cons, this]
    have e2 : ([x1, x2].zip [u1, u2]).reverse.lookup x2 = some u2 := by simp [List.lookup_cons]
    match i, h1, h2 with
    | 0, h1, h2 =>
      have h1 : some x1 = some y := h1
      have h2 : some (some v1) = some (some v) := h2
      cases h1; cases h2
      exact ⟨u1, r1, .inl ⟨S.n1, e1⟩⟩
    | 1, h1, h2 =>
      have h1 : some x2 = some y := h1
      have h2 : some (some v2) = some (some v) := h2
      cases h1; cases h2
      exact ⟨u2, r2, .inl ⟨S.n2, e2⟩⟩
  · rw [(one_cell h1).2]
    exact ⟨_, _, kp _ _ hb2.1, rfl⟩
  · rw [(one_cell h1).2]
    exact hb2.2
/-- the body runs -/
theorem init_run (S : SupC P K mg C f fI cda cc fd x1 x2 qual params scope b) {A : Around} {outer : List PySem.Env} {s : Shared} {H : Hp} {Q : VK} {E : XK} {L : Addr} {a : Addr} {v : V} {s1 : Shared} {D : Ends}
    {X : Cx} (hX : X = iCx CX P w K mg base [x1, x2] (iEnv qual scope L fI cda cc) A outer s H E) (I : Inv X [] [some (.ref a), some v] H s1) (ha : H a = some (exo a C none))
    (hD : ∀ dx, H dx = none → dx ≠ a → D.nx [some (.ref a), some v] (upd (upd H dx (exd dx [(f, v)])) a (exo a C (some dx)))) :
    PySem.wpAt (model P w) X.A (.func b X.env) (execs b X.env) (SP X [] D) X.xe s1 := by
  subst hX
  obtain ⟨p0, p1, p2, p3, p4, p5, p6, p7, p8, p9, rfl, pl, he⟩ := S.txt
  obtain ⟨oc, od, osl, dV, kV, doc, pm, an, ct, lk, efd⟩ := S.lk
  obtain ⟨ccl, cdd, vs, ccs, file, tf, lc, hv2, hfile⟩ := S.code
  obtain ⟨cl, cld, csl, lcell⟩ := S.cell
  obtain ⟨ar, har, hax⟩ := S.hp
  obtain ⟨mb, hb1, hb2⟩ := I.mod.blt
  have KX := I.kIn
  obtain ⟨nm, q, N, bs, bm, sn, sub, ab, col, dd, k0, k1, k2, k3, k5, hC, hbm⟩ := S.T.cls
  refine PySem.ks_wpAt_execs_cons (PySem.ks_wpAt_Expr_any (PySem.ks_wpAt_MethodCall (he := he _) (PySem.ks_wpAt_super_base S.ks S.kc (by decide) rfl (KX _ _ lk) rfl (by rw [efd]; exact har) rfl (KX _ _ lc) rfl hv2 hfile S.top ?_)) (by unfold interactive; rw [show (iCx CX P w K mg base [x1, x2] (iEnv qual scope L fI cda cc) A outer s H E).env.scope.kind = .function from S.kind]; rfl) rfl)
  refine PySem.W.ks_loadName_global S.kind S.ks (Calls.loadGlobal_builtin (by rw [I.ok.glob]; exact I.mod.glob.keeps I.bk) S.ns (by rw [I.ok.blt]; exact hb1.keeps I.bk) (v := .type "super") ((hb2 _ (by decide)).trans (by decide +kernel)) ⟨rfl, ?_⟩)
  refine wpAny_loadName_free S.kind S.kc rfl ⟨_, KX _ _ lcell, rfl⟩ ?_
  obtain ⟨m, hns, hl⟩ := I.loc
  obtain ⟨u, ru, hlk⟩ := hl 0 x1 (.ref a) rfl rfl (.inl S.n1)
  obtain rfl : u = .ref a := ru
  have hm : m x1 = some (.ref a) := by
    rcases hlk with ⟨_, z⟩ | ⟨z, _⟩
    · exact z
    · have z : scope.names.lookup x1 = some .cell ∨ scope.names.lookup x1 = some .free := z
      rw [S.n1] at z
      rcases z with z | z <;> cases z
  refine wpAny_loadName_local S.kind (by rw [hax]; exact S.n1) hns (by rw [hax]; exact hm) ?_
  refine PySem.ks_wpAny_isType_cls (KX _ _ hC) rfl ⟨rfl, ?_⟩
  obtain ⟨t1, ho⟩ := exo_at I.hok ha
  obtain ⟨hp, g, dr, tk, os⟩ := s1
  refine PySem.ks_wpAny_call_super (KX _ _ hC) rfl ho rfl (fun c e => nomatch e) (PySem.W.looks_mroIn KX S.me) (fun h' e k => ?_)
  have I1 := I.kept (t' := tk) k
  have X1 : K.In h' := I1.kIn
  have hcl : PySem.W.clsIn K C = some { name := nm, bases := bs, mro := .ref C :: bm, ns := N, qualname := q, hasDict := true, slotNames := sn, subclasses := sub, abstract := ab, collection := col, hasDel := false } := by unfold PySem.W.clsIn; rw [hC] <;> rfl
  have hf := S.sup
  unfold PySem.W.ks_superIn at hf
  rw [hcl] at hf
  have at1 : PySem.W.InstAt h' a { cls := .ref C, dict := none, data := .fields #[.ref t1, .none, .none, .none, .bool false, .none] } C none := ⟨k _ _ ho, rfl, rfl, trivial⟩
  refine PySem.W.kxs_getMethod PySem.W.kxs_ValueError e (PySem.W.looks_opaque X1 S.opq) (fun A Q E s k q => wpAny_bind ((PySem.W.looks_clsIn X1 hcl) A _ E s k (wpAny_pure q))) rfl X1 hf (at1.type.andThen (PySem.W.looks_subIn X1 S.ve)) (PySem.W.ks_ne X1 at1 hcl) (by decide) ?_
  have I2 := I1.kept (t' := tk + 1) (h' := h'.push (PySem.W.kxs_mw "ValueError.__init__" a)) (fun b u e => Heap.get?_push_of_some _ e)
  have hu2 : (h'.push (PySem.W.kxs_mw "ValueError.__init__" a)).get? h'.objs.size = some (PySem.W.kxs_mw "ValueError.__init__" a) := Heap.get?_push_size _ rfl
  have hnone : ∀ c o, s.heap.get? c = some o → c ≠ h'.objs.size := fun c o e z => by
    obtain ⟨o2, e2⟩ := I1.base.there c o e (by simp [iCx])
    rw [z] at e2
    exact absurd (Heap.lt_size (show h'.get? h'.objs.size = some o2 from e2)) (Nat.lt_irrefl _)
  have nH : H h'.objs.size = none := I1.hok.fresh (Nat.le_refl _)
  have hL : h'.objs.size ≠ L := fun z => by
    obtain ⟨_, hns2, _⟩ := I1.loc
    obtain ⟨o, es, ep, h1, _⟩ := hns2
    have h1 : h'.get? L = some o := h1
    rw [← z] at h1
    exact absurd (Heap.lt_size h1) (Nat.lt_irrefl _)
  have hpin : ∀ p ∈ (iCx CX P w K mg base [x1, x2] (iEnv qual scope L fI cda cc) A outer s H E).pn ++ [(h'.objs.size, PySem.W.kxs_mw "ValueError.__init__" a)], (h'.push (PySem.W.kxs_mw "ValueError.__init__" a)).get? p.1 = some p.2 ∧ H p.1 = none ∧ p.1 ≠ L ∧ p.1 ∉ (iCx CX P w K mg base [x1, x2] (iEnv qual scope L fI cda cc) A outer s H E).fs ∧ ∀ v, p.2.data ≠ .cell v := by
    intro p hp
    have hp : p = (h'.objs.size, PySem.W.kxs_mw "ValueError.__init__" a) := by simpa [iCx] using hp
    subst hp
    refine ⟨hu2, nH, hL, fun z => ?_, fun v z => nomatch z⟩
    obtain ⟨_, o, e1, _⟩ := I.ok.funs.mem z
    exact hnone _ _ e1 rfl
  have I3 : Inv (iCx CX P w K mg base [x1, x2] (iEnv qual scope L fI cda cc) A outer s H E) [(h'.objs.size, PySem.W.kxs_mw "ValueError.__init__" a)] [some (.ref a), some v] H ⟨h'.push (PySem.W.kxs_mw "ValueError.__init__" a), g, dr, tk + 1, os⟩ :=
    ⟨I2.ok, I2.os, I2.bare, I2.base, I2.loc, I2.cell, I2.free, I2.freeC, hpin, I2.hok, I2.len⟩
  have hst : starEach [Expr.Name x2 p3] (iCx CX P w K mg base [x1, x2] (iEnv qual scope L fI cda cc) A outer s H E).env = (false, eval (.Name x2 p3) (iCx CX P w K mg base [x1, x2] (iEnv qual scope L fI cda cc) A outer s H E).env) :: starEach [] (iCx CX P w K mg base [x1, x2] (iEnv qual scope L fI cda cc) A outer s H E).env := rfl
  have pe2 : PE (iCx CX P w K mg base [x1, x2] (iEnv qual scope L fI cda cc) A outer s H E) (.Name x2 p3) (tVar 1) := pe_var rfl (.inl S.n2) S.d2.1 S.d2.2
  have pa2 := pa_cons pe2 pa_nil hst
  refine PySem.W.kxs_callWith (i := "ValueError.__init__") (x := a) (by rw [hst] <;> rfl) ?_
  have hA := pa2.run p4 [(h'.objs.size, PySem.W.kxs_mw "ValueError.__init__" a)] _ _ _ (fun vs H1 => vs = [v] ∧ H1 = H) I3 ⟨v, rfl, rfl, rfl⟩
  rw [hst] at hA ⊢
  refine Calls.evalArgs_plain (thn hA fun us s2 ⟨vs', H1, I4, r1, ev, eh⟩ => ?_)
  subst eh
  have hu4 : s2.heap.get? h'.objs.size = some (PySem.W.kxs_mw "ValueError.__init__" a) := (I4.pin (h'.objs.size, PySem.W.kxs_mw "ValueError.__init__" a) (List.mem_append_right _ (List.mem_singleton.mpr rfl))).1
  refine ⟨hu4, ?_⟩
  obtain ⟨t4, ho4⟩ := exo_at I4.hok ha
  obtain ⟨hp4, g4, dr4, tk4, os4⟩ := s2
  have K4 := I4.kIn
  have hus : us.length ≤ sizeLine := by rw [← Paired.length r1, sizeLine_eq, ev]; show 1 ≤ _; decide
  refine wpAny_call (codeAny_of_tree ?_)
  show wpAny _ (Around.in1 _) (callAny (.ref h'.objs.size) ⟨us, []⟩) _ _ _
  simp only [callAny]
  refine wpAny_bind (wpAny_load hu4 ?_)
  simp only [PySem.W.kxs_mw, show (Value.type "method-wrapper" == Value.type "method" || Value.type "method-wrapper" == Value.type "builtin_function_or_method" || Value.type "method-wrapper" == Value.type "method-wrapper") = true by decide, if_true]
  refine PySem.W.KFB.if_so (by decide) ?_
  refine wpAny_bind (PySem.W.check_bound_init PySem.F.excBase_ValueError.toExcCallFacts (K4 _ _ hC) ho4 rfl ?_)
  refine wpAny_bind (wpAny_pure (wpAny_pure ?_))
  refine ⟨plainId_quiet PySem.F.excBase_ValueError.init.plain _, codeAny_builtin PySem.F.excBase_ValueError.initEntry ?_⟩
  refine PySem.W.exc_init_tree (cls := .ref C) (t0 := t4) (dv := none) (c2 := .none) (c3 := .none) (b4 := .bool false) ho4 hus fun h5 k5' hx5 _ => ?_
  have J := I4.write (t' := tk4) (x := a) (e := a) (o := exo a C none) (by rw [ha]; exact True.intro) (.inl rfl) k5' ⟨_, hx5⟩ (exo_ok hx5)
  have eu : upd H1 a (exo a C none) = H1 := by
    funext b
    by_cases hb : b = a
    · rw [hb, upd_same, ha]
    · rw [upd_ne hb]
  rw [eu] at J
  -- the second statement
  have pe1 : PE (iCx CX P w K mg base [x1, x2] (iEnv qual scope L fI cda cc) A outer s H1 E) (.Name x1 p6) (tVar 0) := pe_var rfl (.inl S.n1) S.d1.1 S.d1.2
  have pe3 : PE (iCx CX P w K mg base [x1, x2] (iEnv qual scope L fI cda cc) A outer s H1 E) (.Name x2 p8) (tVar 1) := pe_var rfl (.inl S.n2) S.d2.1 S.d2.2
  have pss := pss_one (ps_ost (f := f) (p' := p7) (pos := p9) pe1 pe3)
  have J2 : Inv (iCx CX P w K mg base [x1, x2] (iEnv qual scope L fI cda cc) A outer s H1 E) [] [some (.ref a), some v] H1 ⟨h5, g4, dr4, tk4, os4⟩ :=
    ⟨J.ok, J.os, J.bare, J.base, J.loc, J.cell, J.free, J.freeC, fun q hq => absurd (show q ∈ ([] : List (Addr × Obj)) ++ [] from hq) (by simp), J.hok, J.len⟩
  exact wpAt_of_wpAny (pss.run [] _ _ H1 D J2 ⟨v, rfl, .ref a, rfl, a, C, rfl, S.T, S.nf, .inl ⟨ha, fun dx n ne => hD dx n ne⟩⟩)
/-- __init__ as a promise -/
theorem init_fn (S : SupC P K mg C f fI cda cc fd x1 x2 qual params scope b) {k : Nat} : FnOk P w K mg base CX (k + 1) fI fd [x1, x2] (spI C f) := by
  refine ⟨fun vs H Q E ⟨a, v, h, _⟩ => by rw [h]; rfl, fun A outer s H args us vs Q E hr e0 hb r hsp => ?_⟩
  obtain ⟨a, v, rfl, ha, hQ⟩ := hsp
  have KX : K.In s.heap := e0.mod.kin.keeps fun b o e => (e0.bs b o e).1
  have lim : s.heap.NoLimit := e0.mod.nolimit.keeps fun b o e => (e0.bs b o e).1
  obtain ⟨oc, od, osl, dV, kV, doc, pm, an, ct, lk, efd⟩ := S.lk
  cases r with
  | @cons _ u1 _ ur r1 rr =>
  cases rr with
  | @cons _ u2 _ ur2 r2 rr2 =>
  cases rr2
  subst efd
  refine PySem.ks_codeAny_call_defAt hr.depth (KX _ _ lk) rfl lim (PySem.W.codeRec_of KX S.hcd) rfl hb (fun y hy => (S.own y hy).1) (fun y hy => ?_) (fun h₀ hns kp => ?_) S.co S.gen S.kind
  · have hy : y = (x1, u1) ∨ y = (x2, u2) := by simpa using hy
    rcases hy with rfl | rfl
    · exact S.n1
    · exact S.n2
  · have I := init_inv (CX := CX) (E := E) (tk := s.toks + ([x1, x2].zip [u1, u2]).length) S e0 hr.hd r1 r2 hns kp
    refine PySem.ks_wpAt_mono (init_run (Q := Q) (D := { nx := fun _ H' => Q .non H', rt := Q }) S rfl I ha fun dx n ne => hQ dx n ne) (fun fl s' hs => ?_) fun e s' hs => hs
    cases fl with
    | ret u =>
      obtain ⟨v', σ', H', J, rv, q⟩ := hs
      exact ⟨v', H', J.os, J.bare, J.base, J.hok, rv, q⟩
    | next =>
      obtain ⟨σ', H', J, q⟩ := hs
      exact ⟨.non, H', J.os, J.bare, J.base, J.hok, rfl, q⟩
    | brk =>
      obtain ⟨_, _, _, q⟩ := hs
      exact False.elim q
    | cont =>
      obtain ⟨_, _, _, q⟩ := hs
      exact False.elim q
end
end Ev
/-! Ev: try with several clauses, with names and without -/
namespace Ev
open PySem PySem.Spec
open PyProof.Rows L2
def endsDrop (i : Nat) (D : Ends) : Ends := { nx := fun σ' H' => D.nx (σ'.set i none) H', rt := D.rt, bk := fun σ' H' => D.bk (σ'.set i none) H', ct := fun σ' H' => D.ct (σ'.set i none) H' }
abbrev ClW := Value × Option Nat × (Addr → Value → Option Addr → TS)
def clD (o : Option Nat) (t : TS) (a : Addr) (D : Ends) (σ : L2.St) (H : Hp) : Prop := match o with
  | none => t D σ H
  | some i => t (endsDrop i D) (σ.set i (some (.ref a))) H
/-- what the clauses wish, one after the other -/
def wCl (K : PySem.W.Frag) (Wout : L2.WX) (D : Ends) : List ClW → L2.WX
  | [] => Wout
  | (c, o, ts) :: r => fun cls d σ H => ∃ b, PySem.W.exmOne K cls c = some b ∧ (b = true → ∀ a, H a = none → clD o (ts a cls d) a D σ H) ∧ (b = false → wCl K Wout D r cls d σ H)
def nmOk (X : Cx) : Option Str → Option Nat → Prop
  | none, none => True
  | some n, some i => X.N[i]? = some n ∧ X.env.kindOf n = some .local
  | _, _ => False
inductive ClOk (X : Cx) : List ExceptHandler → List ClW → Prop
  | nil : ClOk X [] []
  | cons {x : Str} {c : Value} {nm : Option Str} {o : Option Nat} {ts : Addr → Value → Option Addr → TS} {b₀ : Stmt} {suite : List Stmt} {np pos' : Pos} {hds : List ExceptHandler} {l : List ClW} (hc : Names X x c) (hn : nmOk X nm o)
      (hsu : ∀ (a : Addr) (oe : Obj) (cls : Value) (d : Option Addr) (pn : List (Addr × Obj)), Zc cls d oe → (∃ vs, oe.data = .fields vs) → PSs (X.suite a ((a, oe) :: pn)) (b₀ :: suite) (ts a cls d)) (r : ClOk X hds l) :
      ClOk X (.ExceptHandler (some (.Name x np)) nm (b₀ :: suite) pos' :: hds) ((c, o, ts) :: l)
section
variable {X : Cx} {body : List Stmt} {h₀ : ExceptHandler} {hds : List ExceptHandler} {l : List ClW} {pos : Pos} {tb : L2.WX → TS} {Wout : L2.WX}
theorem pS_try (hs : X.stack = X.env :: X.outer) (hf : X.env.frame = some X.env.locals) (hN : X.N.Nodup) (tk : Takes X Wout)
    (hb : ∀ (W : L2.WX) (pn : List (Addr × Obj)) (xe : Value → Shared → Prop), Takes (X.tr pn xe) W → PassesOwn (model X.prog X.w) X.A X.env xe → PSs (X.tr pn xe) body (tb W))
    (hh : ClOk X (h₀ :: hds) l) : PS X (.Try body (h₀ :: hds) [] [] pos) (fun D σ H => tb (wCl X.K Wout D l) D σ H) := by
  refine ⟨fun pins s σ H D I h => ?_⟩
  have ok := I.ok
  have hfr : X.A.frames = some (X.env :: X.outer) := by rw [ok.frames, hs]
  refine wpAny_Try_except ?_
  refine wpAny_mono ((hb (wCl X.K Wout D l) (X.pn ++ pins) _ (fun u s' xx => ?_) PassesOwn.looking).run [] s σ H D (I.toTry _) h) (fun f s1 hsp => ?_) (fun e s1 he => he)
  · obtain ⟨a, B, sI, pins', σ', H', cls, d, rfl, J', nb, up, sky, na, os, ag, w⟩ := xx
    have J : Inv X pins σ' H' sI := J'.ofTry ok
    have sky' : Sky B (X.env :: X.outer) a (Zc cls d) X.env.locals s'.heap := by rw [← hs]; exact sky
    refine Sky.land Zc.steady hfr hf sky' fun h3 fl3 up3 => ?_
    have J3 : Inv X pins σ' H' { s' with heap := h3 } := J.landed nb fl3.1 (up.trans up3) os ag
    obtain ⟨oe3, vs3, he3, hz3, hd3⟩ := fl3.there
    have nfr : a ∉ frs (X.env :: X.outer) := fun hm => by
      obtain ⟨_, o', e', hnf⟩ := fl3.2.2.1.mem hm
      rw [he3] at e'; cases e'
      exact hnf _ hd3
    have nL : a ≠ X.env.locals := fun z => nfr (List.mem_filterMap.mpr ⟨X.env, List.mem_cons_self, by rw [hf, z]⟩)
    have nF : a ∉ X.fs := fun hm => by
      obtain ⟨e, he, q⟩ := List.mem_filterMap.mp hm
      exact nfr (List.mem_filterMap.mpr ⟨e, List.mem_cons_of_mem _ he, q⟩)
    have S3 := J3.suite he3 hd3 na nL nF
    have go : ∀ {hds' : List ExceptHandler} {l' : List ClW}, ClOk X hds' l' → wCl X.K Wout D l' cls d σ' H' →
        wpAny (model X.prog X.w) X.A (handleBy (.ref a) X.env hds') (SP X pins D) X.xe { s' with heap := h3 } := by
      intro hds' l' hk
      induction hk with
      | nil =>
        intro w
        refine PySem.PX.no_clauseZ (Z := Zc cls d) (outer := X.outer) (B := B) hf fl3 fun h4 hh4 up4 => tk _ _ ?_
        exact ⟨a, B, sI, pins, σ', H', cls, d, rfl, J, nb, (up.trans up3).trans up4, .inr (.inr (by rw [hs]; exact hh4)), na, os, ag, w⟩
      | @cons x c nm o ts b₀ suite np pos' hds2 l2 hc hn hsu r ih =>
        intro w
        obtain ⟨b, hb1, hyes, hno⟩ := w
        have test : ∀ {Q : Value → Shared → Prop} {E : Value → Shared → Prop}, Q c { s' with heap := h3 } → wpAny (model X.prog X.w) (X.A.mark (some (.ref a))) (eval (.Name x np) X.env) Q E { s' with heap := h3 } := fun {Q E} q => by
          obtain ⟨hg, hdbg, hm | ⟨hm, hv, hnn⟩⟩ := hc
          · exact ld_glob (X := X.suite a ((a, oe3) :: (X.pn ++ pins))) S3 hg hm q hdbg
          · exact ld_blt (X := X.suite a ((a, oe3) :: (X.pn ++ pins))) S3 hg hm hv q hnn hdbg
        cases b with
        | false => exact PySem.PX.clause_passZ (Z := Zc cls d) (outer := X.outer) (B := B) J3.kIn (fun o z => z.1) fl3 hb1 test (ih (hno rfl))
        | true =>
          have hy := hyes rfl a na
          cases o with
          | none =>
            cases nm with
            | some n => exact hn.elim
            | none =>
              refine PySem.PX.clause_onlyZ (Z := Zc cls d) (outer := X.outer) (B := B) J3.kIn (fun o z => z.1) fl3 hb1 test fun h4 fl4 up4 => ?_
              have J4 : Inv X pins σ' H' { s' with heap := h4 } := J.landed nb fl4.1 ((up.trans up3).trans up4) os ag
              obtain ⟨oe4, vs4, he4, hz4, hd4⟩ := fl4.there
              have S4 := J4.suite he4 hd4 na nL nF
              refine wpAny_mono ((hsu a oe4 cls d (X.pn ++ pins) hz4 ⟨_, hd4⟩).run [] _ _ H' _ S4 hy) (fun f s6 hsp => ?_) (fun _ _ z => False.elim z)
              cases f with
              | next => obtain ⟨σ6, H6, S6, q6⟩ := hsp; exact ⟨_, _, S6.unsuite ok, q6⟩
              | brk => obtain ⟨σ6, H6, S6, q6⟩ := hsp; exact ⟨_, _, S6.unsuite ok, q6⟩
              | cont => obtain ⟨σ6, H6, S6, q6⟩ := hsp; exact ⟨_, _, S6.unsuite ok, q6⟩
              | ret u => obtain ⟨v6, σ6, H6, S6, r6, q6⟩ := hsp; exact ⟨_, _, _, S6.unsuite ok, r6, q6⟩
          | some i =>
            cases nm with
            | none => exact hn.elim
            | some n =>
              obtain ⟨hi, hln⟩ := hn
              refine PySem.PX.clause_asZ (Z := Zc cls d) (outer := X.outer) (B := B) J3.kIn (fun o z => z.1) fl3 hb1 test fun h4 fl4 up4 => ?_
              have J4 : Inv X pins σ' H' { s' with heap := h4 } := J.landed nb fl4.1 ((up.trans up3).trans up4) os ag
              obtain ⟨oe4, vs4, he4, hz4, hd4⟩ := fl4.there
              have S4 := J4.suite he4 hd4 na nL nF
              refine store_ok (X := X.suite a ((a, oe4) :: (X.pn ++ pins))) (v := .ref a) S4 hN hi (.inl hln) rfl (fun s5 S5 => ?_) (.inr hln)
              refine wpAny_mono ((hsu a oe4 cls d (X.pn ++ pins) hz4 ⟨_, hd4⟩).run [] s5 _ H' _ S5 hy) (fun f s6 hsp => ?_) (fun _ _ z => False.elim z)
              have fin : ∀ {σ6 : L2.St} {H6 : Hp} {Q : Shared → Prop}, Inv (X.suite a ((a, oe4) :: (X.pn ++ pins))) [] σ6 H6 s6 → (∀ s7, Inv X pins (σ6.set i none) H6 s7 → Q s7) →
                  wpAny (model X.prog X.w) X.A (do bindName X.env n .none; unbindBehindTheSuite X.env n pos') (fun _ s7 => Q s7) X.xe s6 := fun {σ6 H6 Q} S6 hq => gone_ok (S6.unsuite ok) hN hi hln hq
              cases f with
              | next => obtain ⟨σ6, H6, S6, q6⟩ := hsp; exact fin S6 fun s7 J7 => ⟨_, _, J7, q6⟩
              | brk => obtain ⟨σ6, H6, S6, q6⟩ := hsp; exact fin S6 fun s7 J7 => ⟨_, _, J7, q6⟩
              | cont => obtain ⟨σ6, H6, S6, q6⟩ := hsp; exact fin S6 fun s7 J7 => ⟨_, _, J7, q6⟩
              | ret u => obtain ⟨v6, σ6, H6, S6, r6, q6⟩ := hsp; exact fin S6 fun s7 J7 => ⟨_, _, _, J7, r6, q6⟩
    exact go hh w
  · cases f with
    | next => obtain ⟨σ', H', J', q⟩ := hsp; exact wpAny_execs_nil ⟨σ', H', J'.ofTry ok, q⟩
    | brk => obtain ⟨σ', H', J', q⟩ := hsp; exact ⟨σ', H', J'.ofTry ok, q⟩
    | cont => obtain ⟨σ', H', J', q⟩ := hsp; exact ⟨σ', H', J'.ofTry ok, q⟩
    | ret u => obtain ⟨v, σ', H', J', r, q⟩ := hsp; exact ⟨v, σ', H', J'.ofTry ok, r, q⟩
end
end Ev
/-! Ev: exceptions raised; what is met -/
namespace Ev
open PySem PySem.Spec
open PyProof.Rows L2
variable [LamN]
/-- an exception class of the module, at C -/
inductive ExcE (P : Program) (K : PySem.W.Frag) (mg : Str → Option Value) (r : XRow) (C : Addr) : Prop
  | plain (hf : r.fld = none) (ex : PySem.W.excIn K C [.type "ValueError", .type "Exception", .type "BaseException", .type "object"] "ValueError.__new__" = true) (kp : PySem.W.keepIn K (.ref C) = true)
      (sb : PySem.W.subIn K (.ref C) (.type "BaseException") = some true) (ty : PySem.W.typeIn K (.ref C) = some (.type "type"))
  | own {f : Str} {fI cda cc : Addr} {fd : FuncData} {x1 x2 qual : Str} {params : Arguments} {scope : Scope} {b : List Stmt} (hf : r.fld = some f) (S : SupC P K mg C f fI cda cc fd x1 x2 qual params scope b)
      (iC : PySem.W.findIn K (.ref C) "__init__" = some (some (.ref fI))) (tI : PySem.W.typeIn K (.ref fI) = some (.type "function")) (bd : Binds K fd [x1, x2] [])
      (ga : PySem.W.findIn K (.ref C) "__getattribute__" = some (some (.builtin "BaseException.__getattribute__"))) (gg : PySem.W.findIn K (.ref C) "__getattr__" = some none)
section
variable {X : Cx} {Y : XI} {c : Nat} {r : XRow} {C : Addr} {p p2 pos pos' : Pos} {e : Expr} {re : EM D}
theorem pS_raise0 {m : Str} {j : Nat} (hc : X.calm = true) (tk : Takes X fun cls d _ H => Y.W cls d H) (hx : Y.xt c = some r) (hY : Y.mg = X.mg) (hm : X.mg r.name = some (.ref C)) (hf : r.fld = none) (T : ExcE X.prog X.K X.mg r C) (hg : Gl X r.name) (hdb : (r.name == ("__debug__" : Str)) = false) :
    PS X (.Raise (some (.Call (.Name r.name p) [.Constant (.str m) j p2] [] pos)) none pos') (tS X.K Y (sRaise0 c)) := by
  cases T with
  | own hf' => rw [hf] at hf'; cases hf'
  | plain _ ex kp sb ty =>
    refine Ev.PS.imp (ps_raise hc tk (pmk_own PySem.F.excBase_ValueError ex hm kp (raises_own sb ty) hg hdb)) fun D σ H ⟨env, mu, F, S, he, hgd, hw⟩ => ?_
    have hw : PoX X.K Y mu F H c .non S := hw
    exact hw (.ref C) none H mu (Xt.refl _ _) hgd ⟨r, C, hx, by rw [hY]; exact hm, rfl, by rw [hf]⟩
theorem upd_del {H1 : Hp} {a dx : Addr} {o1 o2 o3 o4 : HO} (ha : H1 a = none) (hd : dx ≠ a) : upd (del (upd (upd (upd H1 a o1) dx o2) a o3) a) dx o4 = upd H1 dx o4 := by
  funext b
  by_cases h1 : b = dx
  · subst h1; rw [upd_same, upd_same]
  · rw [upd_ne h1, upd_ne h1]
    by_cases h2 : b = a
    · subst h2; rw [del_same, ha]
    · rw [del_ne h2, upd_ne h2, upd_ne h1, upd_ne h2]
theorem pS_raise1 (hc : X.calm = true) (hr : Room 2 X.A) (tk : Takes X fun cls d _ H => Y.W cls d H) (hx : Y.xt c = some r) (hY : Y.mg = X.mg) (hm : X.mg r.name = some (.ref C)) (hf : r.fld ≠ none) (T : ExcE X.prog X.K X.mg r C) (hg : Gl X r.name) (hdb : (r.name == ("__debug__" : Str)) = false)
    (he : PE X e (tE X.K Y re)) (hst : starEach [e] X.env = (false, eval e X.env) :: starEach [] X.env) :
    PS X (.Raise (some (.Call (.Name r.name p) [e] [] pos)) none pos') (tS X.K Y (sRaise1 c re)) := by
  cases T with
  | plain hf' => exact absurd hf' hf
  | @own f fI cda cc fd x1 x2 qual params scope b hf' S iC tI bd =>
    refine Ev.PS.imp (ps_raise hc tk (pmk_oex S.T iC tI (init_fn (CX := L2.CX X.prog X.w) (k := 0) S) hr bd .nil passL hg hm (pA_cons he pA_nil hst) hdb hst rfl)) fun D σ H ⟨env, mu, F, S0, hen, hgd, hw⟩ => ?_
    have hw : WY (bnd (re env) (fun d S => Rs.exc c d S) S0) (endS X.K mu F H D) (PoX X.K Y mu F H) := hw
    refine ⟨env, mu, F, S0, hen, hgd, WY.kCons1.mpr ((WY.bnd.mp hw).mono fun d S1 h vs H1 mu1 e1 g1 r1 => ?_)⟩
    have h : PoX X.K Y mu F H c d S1 := h
    cases r1 with
    | @cons v _ _ _ rv rr =>
    cases rr
    refine ⟨by simp, fun a ha => ⟨a, v, by simp, upd_same, fun dx n ne => ?_⟩⟩
    have n1 : H1 dx = none := by rw [upd_ne ne] at n; exact n
    refine ⟨rfl, dx, [(f, v)], upd_same, by rw [upd_ne ne, upd_same], n1, ?_⟩
    rw [upd_del ha ne]
    have e2 : Xt mu1 H1 mu1 (upd H1 dx (.xd [(f, v)])) := Xt.new n1
    refine h (.ref C) (some dx) _ mu1 (e1.trans g1.live e2) (g1.new n1) ⟨r, C, hx, by rw [hY]; exact hm, rfl, ?_⟩
    rw [hf']
    exact ⟨dx, [(f, v)], v, rfl, upd_same, by simp [List.lookup_cons], rv.mono g1.live e2⟩
end
end Ev
/-! Ev: lambdas handed to a def that tells what is met -/
namespace Ev
open PySem PySem.Spec
open PyProof.Rows L2
variable [LamN]
section
variable {K : PySem.W.Frag} {mu F : List Addr} {H H1 : Hp} {S : Store}
/-! ### code objects are made: the tables change -/
theorem Xt.lam (e : LamX.ExtN H H1) : Xt mu H mu H1 := ⟨⟨[], by simp, by simp⟩, fun a o h _ ho => e a o h ho⟩
theorem mut_nt {o : HO} (h : Mut (some o)) : ∀ ps, o ≠ .tbl ps := fun ps e => by rw [e] at h; exact h
theorem Gd.lam (g : Gd K mu F H S) (e : LamX.ExtN H H1) (t : LamX.Tabs (tbOf K) H1) : Gd K mu F H1 S := by
  have hm : ∀ a, a ∈ mu → ∀ o, H a = some o → H1 a = some o := fun a ha o h => e a o h (mut_nt (by rw [← h]; exact g.live.mt a ha))
  refine ⟨⟨g.live.nd, fun a ha => ?_, g.live.out, fun a ha => ?_⟩, g.len, fun n c a h1 h2 => ?_, t⟩
  · obtain ⟨o, h⟩ := g.live.ex ha
    have := g.live.mt a ha
    rw [h] at this
    rw [hm a ha o h]; exact this
  · obtain ⟨o, h, ho⟩ := g.live.frn a ha
    exact ⟨o, e a o h ho, ho⟩
  · exact (g.cell n c a h1 h2).mono g.live (Xt.lam e) (hm a (List.mem_of_getElem? h2))
end

/-! ### the lambda is called -/
section
variable {X Z : Cx} {pins : List (Addr × Obj)} {σ : L2.St} {H : Hp} {s : Shared}
/-- x(), in a def that got the lambda: Z is its context, over X's state s -/
theorem act {A : Around} {N : List Str} {s0 : Shared} {H0 : Hp} {env : PySem.Env} {outer stack : List PySem.Env} {ex : List Addr} {fn : Str → Bool} {calm : Bool} {pn : List (Addr × Obj)} {xe : Value → Shared → Prop} {f c' : Addr} {pm ctv : Value} {params : Arguments} {body : Expr} {scope : Scope} {k i : Nat} {a : Str}
    {W : L2.WX} {E : XK} {tb : TE} {p1 p2 : Pos} (hZ : Z = { X with A := A, N := N, s_0 := s0, H_0 := H0, env := env, outer := outer, stack := stack, ex := ex, fn := fn, calm := calm, pn := pn, xe := xe })
    (I : Inv X pins σ H s) (L : LamX.LamS X.env.scope scope) (hf : s.heap.get? f = some (PySem.W.kla_obj "<lambda>" (X.env.qual ++ "<lambda>") params body scope (cloFrom X.env.cells scope.names []) pm c' ctv)) (hfn : H f = none) (hfr : f ∉ frs X.stack)
    (hbind : bindArgs (PySem.W.kla_fn "<lambda>" (X.env.qual ++ "<lambda>") params body scope (cloFrom X.env.cells scope.names []) pm (.ref c') ctv) ⟨[], []⟩ = pure [])
    (un : ∀ (pins : List (Addr × Obj)) (σ' : L2.St) (H' : Hp) (s' : Shared), Inv Z pins σ' H' s' → Un (frs X.stack) [] H H' s.heap s'.heap)
    (tk : Takes Z W) (hW : ∀ cls d σ' H', E cls d H' → W cls d σ' H') (hr : Room (k + 1) Z.A) (hgd : Z.A.guards = some [])
    (hbody : ∀ (s : Shared) (H : Hp), Room k (Z.A.deeper (LamX.lamEnv X scope s.heap.objs.size f c')) → (Z.A.deeper (LamX.lamEnv X scope s.heap.objs.size f c')).guards = some [] → PE (LamX.lamCx X Z.A Z.stack s H E scope f c') body tb)
    (hN : Z.N[i]? = some a) (hv : Vis Z.env.scope a) (hd : (a == ("__debug__" : Str)) = false) (hcd : (a == ("__classdict__" : Str)) = false) :
    PE Z (.Call (.Name a p1) [] [] p2) (fun σZ HZ Q => σZ[i]? = some (some (.ref f)) ∧ HZ c' = some (LamX.CodeO c' (X.env.qual ++ "<lambda>")) ∧ tb σ HZ Q) := by
  have hx : Passes (L2.CX Z.prog Z.w) Z E := passes_call tk hW
  have pv := pe_var (pos := p1) (i := i) hN hv hd hcd
  subst hZ
  refine ⟨fun pinsZ sZ σZ HZ Q IZ h => ?_⟩
  obtain ⟨hs, hc, ht⟩ := h
  refine wpAny_Call_Name_kw (thn (pv.run pinsZ sZ σZ HZ (fun v H1 => v = .ref f ∧ H1 = HZ) IZ ⟨.ref f, hs, rfl, rfl⟩) fun u s1 ⟨v, H1, I1, r1, ev, eH⟩ => ?_)
  subst ev
  rw [eH] at I1
  obtain rfl : u = Value.ref f := r1
  have U := un _ _ _ _ I1
  have at1 := U.keep f _ hf hfn hfr (fun z => nomatch (show f ∈ ([] : List Addr) from z))
  refine PySem.W.callWith_F0 ⟨_, _, _, _, at1⟩ ?_
  obtain ⟨⟨oc, vs, t, hoc, hdc, hvc⟩, _, _⟩ := I1.hok c' _ hc
  have rc : codeAny (model X.prog X.w) A (.call (.ref f) ⟨[], []⟩) (CR (L2.CX X.prog X.w) stack X.prog X.w HZ s1 Q E) s1 := by
    refine PySem.W.kla_callFunE hr.depth at1 rfl L.co L.gen rfl ⟨c', oc, vs, t, rfl, hoc, hdc, hvc⟩ ?_
    rw [hbind]
    refine wpAny_pure (wpAny_newFunctionEnv (fun y hy => (L.own y hy).2) (fun y hy => absurd hy (by simp)) (fun h₁ hns hsb => ⟨I1.nolimit.fresh _ hsb, ?_⟩) L.kind)
    have kp : ∀ b o, s1.heap.get? b = some o → h₁.get? b = some o := fun b o e => hsb.extBut b o (Nat.ne_of_lt (Heap.lt_size e)) (Heap.get?_push_of_some _ e)
    have J := LamX.lam_start2 (f := f) (c' := c') (E := E) (tk := s1.toks + ([] : List (Str × Value)).length) I L I1.env0 hr.hd U hns kp
    refine PySem.W.kla_codeExpr (wpAny_mono ((hbody s1 HZ (hr.deeper _) (by rw [deeper_guards]; exact hgd)).run [] _ _ HZ Q J ht) (fun v s' hq => ?_) fun e s' hq => hq)
    obtain ⟨w', H', J', rv, q⟩ := hq
    exact ⟨w', H', J'.os, J'.bare, J'.base, J'.hok, rv, q⟩
  refine wpAny_call (codeAny_mono rc fun r s' hq => ?_)
  cases r with
  | error e => exact hx pinsZ σZ HZ s1 e s' I1 hq
  | ok fl =>
    cases fl with
    | ret u => exact I1.after hq
    | next => exact False.elim hq
    | brk => exact False.elim hq
    | cont => exact False.elim hq
end
end Ev
/-! Ev: a def that tells what is met -/
namespace Ev
open PySem PySem.Spec
open PyProof.Rows L2
variable [LamN]
/-! ### the text -/
def litE (s : Str) : Expr → Bool
  | .Constant (.str t) _ _ => decide (s = t)
  | _ => false
def glS (sc : Scope) (x : Str) : Bool := decide (sc.names.lookup x = some .globalImplicit)
def hpB (sc : Scope) (n : Str) (f : Option Str) : HP → Expr → Bool
  | .lit s, e => litE s e
  | .rp t, e => match e with
    | .BinOp (.Constant (.str u) _ _) .Add (.Call (.Name x _) [.Attribute (.Name y _) g _] [] _) _ => decide (u = t) && decide (x = "repr") && decide (y = n) && decide (f = some g) && glS sc "repr"
    | _ => false
def hkB (sc : Scope) (n : Str) (f : Option Str) (h : HK) (e : Expr) : Bool := match h.pre with
  | none => hpB sc n f h.p e
  | some a => (match e with
    | .Tuple [e1, e2] _ _ => litE a e1 && hpB sc n f h.p e2 && (match e2 with | .Starred .. => false | _ => true)
    | _ => false)
def clB (xt : XTab) (sc : Scope) (n : Str) : List (Nat × HK) → List ExceptHandler → Bool
  | [], [] => true
  | (i, h) :: hs, hd :: hds => (match xt i, hd with
    | some r, .ExceptHandler (some (.Name x _)) nm [.Return (some e) _] _ => decide (x = r.name) && glS sc x && hkB sc n r.fld h e && (match h.p with
      | .lit _ => nm.isNone
      | .rp _ => decide (nm = some n) && decide (sc.names.lookup n = some .local))
    | _, _ => false) && clB xt sc n hs hds
  | _, _ => false
def boolE (b : Bool) : Expr → Bool
  | .Constant (.bool j) _ _ => b == j
  | _ => false
def pairE (a b : Str) : Expr → Bool
  | .Tuple [e1, e2] _ _ => litE a e1 && litE b e2
  | _ => false
def finB (fin : D) (e : Expr) : Bool := match fin with
  | .str s => litE s e
  | .bl b => boolE b e
  | .tup [.str a, .str b] => pairE a b e
  | _ => false
/-- def x(a): try: a() except ..: return .. return fin -/
def metB (xt : XTab) (a n : Str) (st : Stmt) (hs : List (Nat × HK)) (fin : D) : Bool :=
  fnScB' [a, n] (defScope st) && okA a && okA n && (match defBody st with
    | [.Try [.Expr (.Call (.Name y _) [] [] _) _] (hd :: hds) [] [] _, .Return (some e) _] => decide (y = a) && clB xt (defScope st) n hs (hd :: hds) && finB fin e
    | _ => false)
where
  okA (x : Str) : Bool := !(x == ("__debug__" : Str)) && !(x == ("__classdict__" : Str))
  fnScB' (N : List Str) (sc : Scope) : Bool := (match sc.kind with | .function => true | _ => false) && !sc.isCoroutine && !sc.isGenerator && decide N.Nodup && (match sc.names.lookup (N.getD 0 "") with | some .local => true | _ => false) && sc.names.all (fun y => match y.2 with | .free => false | _ => true)
theorem litE_ok {X : Cx} {s : Str} {e : Expr} (h : litE s e = true) : ∃ j p, e = .Constant (.str s) j p := by
  cases e with
  | Constant v j p => cases v with
    | str t => exact ⟨j, p, by rw [show s = t from by simpa [litE] using h]⟩
    | _ => cases h
  | _ => cases h

/-! ### what a clause does -/
/-- text + repr(err.f) -/
def rpW (K : PySem.W.Frag) (a : Addr) (cls : Value) (dd : Option Addr) (C : Addr) (f t : Str) (i : Nat) (σ : L2.St) (H : Hp) (Q : Str → Prop) : Prop :=
  σ[i]? = some (some (.ref a)) ∧ cls = .ref C ∧ ∃ ddr fs v d, dd = some ddr ∧ H ddr = some (.xd fs) ∧ fs.lookup f = some v ∧ Dp K H v d ∧ d.showable = true ∧ d.hasDict = false ∧ d.shown.length ≤ 1000000 ∧ d.depth ≤ 40 ∧ t.length + d.shown.length ≤ sizeLine ∧ Q (t ++ d.shown)
def tHP (K : PySem.W.Frag) (a : Addr) (cls : Value) (dd : Option Addr) (C : Addr) (f : Option Str) (i : Nat) : HP → TE
  | .lit s => fun _ H Q => Q (.str s) H
  | .rp t => fun σ H Q => ∃ g, f = some g ∧ rpW K a cls dd C g t i σ H fun s => Q (.str s) H
def tHK (K : PySem.W.Frag) (a : Addr) (cls : Value) (dd : Option Addr) (C : Addr) (f : Option Str) (i : Nat) (h : HK) : TE := match h.pre with
  | none => tHP K a cls dd C f i h.p
  | some b => fun σ H Q => tHP K a cls dd C f i h.p σ H fun v H1 => ∀ p, H1 p = none → Q (.ref p) (upd H1 p (.tup [.str b, v]))
section
variable {X : Cx} {a C : Addr} {oe : Obj} {cls : Value} {dd : Option Addr} {pn : List (Addr × Obj)} {r : XRow} {i : Nat} {n : Str}
theorem hp_pe (hm0 : X.mg "repr" = none) (hgd : X.A.guards = some []) (hu : X.A.units + 64 < cLine) (T : r.fld.isSome = true → ∀ g, r.fld = some g → L2.XfC X.K C ∧ PySem.W.findIn X.K (.ref C) g = some none) (hz : Zc cls dd oe) (hf : ∃ vs, oe.data = .fields vs) (hi : X.N[i]? = some n) (hd : (n == ("__debug__" : Str)) = false) (hcd : (n == ("__classdict__" : Str)) = false)
    {p : HP} {e : Expr} (hl : ∀ t, p = .rp t → X.env.scope.names.lookup n = some .local) (h : hpB X.env.scope n r.fld p e = true) : PE (X.suite a ((a, oe) :: pn)) e (tHP X.K a cls dd C r.fld i p) := by
  cases p with
  | lit s =>
    obtain ⟨j, q, rfl⟩ := litE_ok (X := X) h
    exact Ev.PE.imp pe_str fun σ H Q q => q
  | rp t =>
    unfold hpB at h
    dsimp only at h
    split at h
    · simp only [Bool.and_eq_true, decide_eq_true_eq] at h
      obtain ⟨⟨⟨⟨rfl, rfl⟩, rfl⟩, h4⟩, h5⟩ := h
      rename_i u _ _ _ y _ g _ _ _
      obtain ⟨T1, T2⟩ := T (by rw [h4]; rfl) g h4
      have hg : Gl (X.suite a ((a, oe) :: pn)) "repr" := by
        unfold glS at h5
        rw [decide_eq_true_eq] at h5
        exact h5
      have hgd' : (X.suite a ((a, oe) :: pn)).A.guards = some [] := hgd
      have hu' : (X.suite a ((a, oe) :: pn)).A.units + 64 < cLine := hu
      have px : ∀ (q1 q2 : Pos), PE (X.suite a ((a, oe) :: pn)) (.Attribute (.Name y q1) g q2) (tXf a cls dd C g (tVar i)) := fun q1 q2 => pe_xf (pos := q2) T1 T2 hz hf (pe_var (X := X.suite a ((a, oe) :: pn)) (i := i) (pos := q1) hi (.inl (hl _ rfl)) hd hcd)
      refine Ev.PE.imp (pe_op op_add_str pe_str (pe_callB (repr_ok hgd' hu') hg hm0 (by decide +kernel) (pa_cons (px _ _) pa_nil))) fun σ H Q h => ?_
      obtain ⟨g', eg, hs, hc, ddr, fs, v, d, e1, e2, e3, hd, d1, d2, d3, d4, d5, q⟩ := h
      rw [h4] at eg
      cases eg
      refine ⟨.ref a, hs, rfl, hc, ddr, fs, v, e1, e2, e3, v, d, rfl, hd, d1, d2, d3, d4, _, _, rfl, rfl, d5, q⟩
    · cases h
theorem hk_pss (hm0 : X.mg "repr" = none) (hgd : X.A.guards = some []) (hu : X.A.units + 64 < cLine) (T : r.fld.isSome = true → ∀ g, r.fld = some g → L2.XfC X.K C ∧ PySem.W.findIn X.K (.ref C) g = some none) (hz : Zc cls dd oe) (hf : ∃ vs, oe.data = .fields vs) (hi : X.N[i]? = some n) (hd : (n == ("__debug__" : Str)) = false) (hcd : (n == ("__classdict__" : Str)) = false)
    {h : HK} {e : Expr} {pos : Pos} (hl : ∀ t, h.p = .rp t → X.env.scope.names.lookup n = some .local) (hh : hkB X.env.scope n r.fld h e = true) : PSs (X.suite a ((a, oe) :: pn)) [.Return (some e) pos] (tRet (tHK X.K a cls dd C r.fld i h)) := by
  refine pss_one (ps_ret ?_)
  unfold hkB at hh
  unfold tHK
  split at hh
  · exact hp_pe hm0 hgd hu T hz hf hi hd hcd hl hh
  · rename_i b e0
    split at hh
    · rename_i e1 e2 kk pp
      simp only [Bool.and_eq_true] at hh
      obtain ⟨⟨h1, h2⟩, h3⟩ := hh
      obtain ⟨j, q, rfl⟩ := litE_ok (X := X) h1
      have p2 := hp_pe (a := a) (pn := pn) hm0 hgd hu T hz hf hi hd hcd hl h2
      have st2 : starEach [e2] (X.suite a ((a, oe) :: pn)).env = (false, eval e2 (X.suite a ((a, oe) :: pn)).env) :: starEach [] (X.suite a ((a, oe) :: pn)).env := by
        cases e2 <;> first | rfl | (cases h3; done)
      exact Ev.PE.imp (pe_tup (pa_cons pe_str (pa_cons p2 pa_nil st2) rfl)) fun σ H Q q => tHP_mono _ q fun v H1 q => ⟨by rw [sizeLine_eq]; show 2 ≤ _; decide, q⟩
    · cases hh
where
  tHP_mono {K : PySem.W.Frag} {f : Option Str} {σ : L2.St} {H : Hp} {Q Q' : VK} : ∀ (p : HP), tHP K a cls dd C f i p σ H Q → (∀ v H1, Q v H1 → Q' v H1) → tHP K a cls dd C f i p σ H Q'
    | .lit s, h, hq => hq _ _ h
    | .rp t, ⟨g, eg, a1, a2, ddr, fs, v, d, b1, b2, b3, b4, b5, b6, b7, b8, b9, q⟩, hq => ⟨g, eg, a1, a2, ddr, fs, v, d, b1, b2, b3, b4, b5, b6, b7, b8, b9, hq _ _ q⟩
end

/-! ### the classes -/
/-- what is known of the package's exception classes -/
structure XGd (P : Program) (K : PySem.W.Frag) (mg : Str → Option Value) (xt : XTab) : Prop where
  each : ∀ c r, xt c = some r → ∃ C, mg r.name = some (.ref C) ∧ ExcE P K mg r C ∧ (r.name == ("__debug__" : Str)) = false
  exm : ∀ c c' r r' C C', xt c = some r → xt c' = some r' → mg r.name = some (.ref C) → mg r'.name = some (.ref C') → PySem.W.exmOne K (.ref C) (.ref C') = some (Nat.beq c' c)
  hd : ∀ c r C, xt c = some r → mg r.name = some (.ref C) → r.fld.isSome = true → PySem.W.hasDictIn K C = true
def cofX (mg : Str → Option Value) (xt : XTab) (c : Nat) : Addr := match xt c with
  | some r => (match mg r.name with
    | some (.ref C) => C
    | _ => 0)
  | none => 0
def fldX (xt : XTab) (c : Nat) : Option Str := (xt c).bind (·.fld)
theorem cofX_ok {mg : Str → Option Value} {xt : XTab} {c : Nat} {r : XRow} {C : Addr} (h : xt c = some r) (hm : mg r.name = some (.ref C)) : cofX mg xt c = C := by
  unfold cofX
  simp only [h, hm]
def slotH (h : HK) : Option Nat := match h.p with
  | .lit _ => none
  | .rp _ => some 1
/-- the clauses' wishes -/
def clWs (K : PySem.W.Frag) (mg : Str → Option Value) (xt : XTab) (hs : List (Nat × HK)) : List ClW :=
  hs.map fun q => (.ref (cofX mg xt q.1), slotH q.2, fun a cls dd => tRet (tHK K a cls dd (cofX mg xt q.1) (fldX xt q.1) 1 q.2))
theorem takes_len {X : Cx} {W : L2.WX} (tk : Takes X W) : Takes X fun cls d σ H => σ.length = X.N.length → W cls d σ H := fun u s' ⟨a, B, sI, pins, σ, H, cls, d, e, I, nb, up, sky, na, os, ag, w⟩ =>
  tk u s' ⟨a, B, sI, pins, σ, H, cls, d, e, I, nb, up, sky, na, os, ag, w I.len⟩
section
variable {K : PySem.W.Frag} {mg : Str → Option Value} {xt : XTab} {P : Program}
/-- the text's clauses are these -/
theorem cl_ok {X : Cx} (G : XGd P X.K X.mg xt) (hm0 : X.mg "repr" = none) (hgd : X.A.guards = some []) (hu : X.A.units + 64 < cLine) {n : Str} (hi : X.N[1]? = some n) (hd : (n == ("__debug__" : Str)) = false) (hcd : (n == ("__classdict__" : Str)) = false) :
    ∀ {hs : List (Nat × HK)} {hds : List ExceptHandler}, clB xt X.env.scope n hs hds = true → ClOk X hds (clWs X.K X.mg xt hs)
  | [], [], _ => .nil
  | [], _ :: _, h => by cases h
  | _ :: _, [], h => by cases h
  | (i, k) :: hs, hd0 :: hds, h => by
    unfold clB at h
    rw [Bool.and_eq_true] at h
    obtain ⟨h1, h2⟩ := h
    have ih := cl_ok G hm0 hgd hu hi hd hcd h2
    split at h1
    · rename_i r x p1 nm e p2 p3 er
      simp only [Bool.and_eq_true, decide_eq_true_eq] at h1
      obtain ⟨⟨⟨rfl, h4⟩, h5⟩, h6⟩ := h1
      obtain ⟨C, hC, T, hdb⟩ := G.each i r er
      have ec : cofX X.mg xt i = C := cofX_ok er hC
      have ef : fldX xt i = r.fld := by unfold fldX; rw [er]; rfl
      have hgl : Gl X r.name := by
        unfold glS at h4
        rw [decide_eq_true_eq] at h4
        exact h4
      have hT : r.fld.isSome = true → ∀ g, r.fld = some g → L2.XfC X.K C ∧ PySem.W.findIn X.K (.ref C) g = some none := fun z g eg => by
        cases T with
        | plain hf => rw [hf] at z; cases z
        | own hf S iC tI bd ga gg =>
          rw [hf] at eg; cases eg
          exact ⟨⟨ga, gg, S.T.exC, G.hd i r C er hC z⟩, S.nf⟩
      refine .cons (nm := nm) (o := slotH k) ⟨hgl, hdb, .inl (by rw [ec]; exact hC)⟩ ?_ (fun a oe cls d pn hz hf => ?_) ih
      · unfold slotH
        split at h6
        · cases nm with
          | none => trivial
          | some _ => cases h6
        · simp only [Bool.and_eq_true, decide_eq_true_eq] at h6
          rw [h6.1]
          exact ⟨hi, h6.2⟩
      · rw [ec, ef]
        refine hk_pss hm0 hgd hu hT hz hf hi hd hcd (fun t et => ?_) h5
        rw [et] at h6
        simp only [Bool.and_eq_true, decide_eq_true_eq] at h6
        exact h6.2
    · cases h1
/-- which clause it is -/
theorem cl_find (G : XGd P K mg xt) {hs : List (Nat × HK)} (hx : ∀ q ∈ hs, ∃ r, xt q.1 = some r) {c : Nat} {r : XRow} {C : Addr} (er : xt c = some r) (hC : mg r.name = some (.ref C)) {dd : Option Addr} {σ : L2.St} {H : Hp} {D : Ends} {Wout : L2.WX} {h : HK} (hf : fndH hs c = some h)
    (w : ∀ a, H a = none → clD (slotH h) (tRet (tHK K a (.ref C) dd (cofX mg xt c) (fldX xt c) 1 h)) a D σ H) : wCl K Wout D (clWs K mg xt hs) (.ref C) dd σ H := by
  induction hs with
  | nil => cases hf
  | cons q hs ih =>
    obtain ⟨i, k⟩ := q
    unfold fndH at hf
    obtain ⟨r', er'⟩ := hx (i, k) (by simp)
    obtain ⟨C', hC', _⟩ := G.each i r' er'
    refine ⟨Nat.beq i c, ?_, fun hb a ha => ?_, fun hb => ?_⟩
    · show PySem.W.exmOne K (.ref C) (.ref (cofX mg xt i)) = _
      rw [cofX_ok er' hC']
      exact G.exm c i r r' C C' er er' hC hC'
    · rw [if_pos hb] at hf
      cases hf
      have e0 : i = c := Nat.eq_of_beq_eq_true hb
      subst e0
      exact w a ha
    · rw [hb, if_neg Bool.false_ne_true] at hf
      exact ih (fun q hq => hx q (List.mem_cons_of_mem _ hq)) hf
end
theorem hk_rd {K : PySem.W.Frag} {mg : Str → Option Value} {xt : XTab} {mu F : List Addr} {H' : Hp} {S' : Store} {Q : VK} {c : Nat} {d r0 : D} {C : Addr} {r : XRow} {dd : Option Addr} {σ : L2.St} {h : HK} {D : Ends} (g : Gd K mu F H' S') (er : xt c = some r) (hC : mg r.name = some (.ref C))
    (hx : match r.fld with | none => d = .non | some f => ∃ a fs v, dd = some a ∧ H' a = some (.xd fs) ∧ fs.lookup f = some v ∧ Rp K mu F H' v d) (hk : hkD h d = some r0) (hl : 2 ≤ σ.length) (hD : D.rt = Q) (hf : ∀ t, h.p = .rp t → r.fld.isSome = true) (q : Po K mu F H' Q r0 S') :
    ∀ a, H' a = none → clD (slotH h) (tRet (tHK K a (.ref C) dd (cofX mg xt c) (fldX xt c) 1 h)) a D σ H' := by
  intro a ha
  obtain ⟨s, hs, rfl⟩ := Option.map_eq_some_iff.mp hk
  have ef : fldX xt c = r.fld := by unfold fldX; rw [er]; rfl
  rw [cofX_ok er hC, ef]
  have fin : ∀ {D' : Ends} {σ' : L2.St}, D'.rt = Q → (∀ Q' : VK, Q' (.str s) H' → tHP K a (.ref C) dd C r.fld 1 h.p σ' H' Q') → tRet (tHK K a (.ref C) dd C r.fld 1 h) D' σ' H' := fun {D' σ'} hD' hp => by
    unfold tRet tHK
    rw [hD']
    unfold preD at q
    cases e0 : h.pre with
    | none =>
      simp only [e0] at q ⊢
      exact hp _ (Po.flat g (.str _) q)
    | some b =>
      simp only [e0] at q ⊢
      refine hp _ fun p hp' => ?_
      exact Po.tup g (.cons (.str _) (.cons (.str _) .nil)) q p hp'
  unfold slotH clD
  cases e0 : h.p with
  | lit t =>
    rw [e0] at hs
    cases hs
    dsimp only
    refine fin hD fun Q' q' => ?_
    rw [e0]
    exact q'
  | rp t =>
    rw [e0] at hs
    obtain ⟨s', h1, h2⟩ := Option.bind_eq_some_iff.mp hs
    split at h2
    · rename_i hz
      cases h2
      dsimp only
      refine fin (by exact hD) fun Q' q' => ?_
      rw [e0]
      have hf' := hf t e0
      cases ef2 : r.fld with
      | none => rw [ef2] at hf'; cases hf'
      | some f =>
        rw [ef2] at hx
        obtain ⟨ar, fs, v, e1, e2, e3, rv⟩ := hx
        obtain ⟨d1, d2, d3, d4, d5⟩ := reprD_some h1
        refine ⟨f, rfl, List.getElem?_set_self (by omega), rfl, ar, fs, v, toPy d, e1, e2, e3, dp_of d1 rv, d2, d3, d4, depth_le d1, ?_, by rw [d5]; exact q'⟩
        rw [d5, ← LIM_eq]; exact hz
    · cases h2
end Ev
/-! Ev: met(lambda: f(..)) -/
namespace Ev
open PySem PySem.Spec
open PyProof.Rows L2
variable [LamN]
def tFin (fin : D) : TE := fun _ H Q => match fin with
  | .str s => Q (.str s) H
  | .bl b => Q (.bl b) H
  | .tup [.str a, .str b] => ∀ p, H p = none → Q (.ref p) (upd H p (.tup [.str a, .str b]))
  | _ => False
theorem fin_pe {X : Cx} {fin : D} {e : Expr} (h : finB fin e = true) : PE X e (tFin fin) := by
  unfold finB at h
  split at h
  · obtain ⟨j, q, rfl⟩ := litE_ok (X := X) h
    exact pe_str
  · unfold boolE at h
    split at h
    · have := eq_of_beq h; subst this
      exact pe_bl
    · cases h
  · unfold pairE at h
    split at h
    · rw [Bool.and_eq_true] at h
      obtain ⟨j, q, rfl⟩ := litE_ok (X := X) h.1
      obtain ⟨j2, q2, rfl⟩ := litE_ok (X := X) h.2
      exact Ev.PE.imp (pe_tup (pa_cons pe_str (pa_cons pe_str pa_nil))) fun σ H Q q => ⟨by rw [sizeLine_eq]; show 2 ≤ _; decide, q⟩
    · cases h
  · cases h
theorem fin_rd {K : PySem.W.Frag} {mu F : List Addr} {H : Hp} {S : Store} {Q : VK} {σ : L2.St} (g : Gd K mu F H S) {fin : D} {e : Expr} (h : finB fin e = true) (q : Po K mu F H Q fin S) : tFin fin σ H Q := by
  unfold finB at h
  split at h
  · exact Po.flat g (.str _) q
  · exact Po.flat g (.bl _) q
  · exact fun p hp => Po.tup g (.cons (.str _) (.cons (.str _) .nil)) q p hp
  · cases h
/-- the clauses' classes are told; those of which the data is told keep some -/
def hsB (xt : XTab) (hs : List (Nat × HK)) : Bool := hs.all fun q => (xt q.1).isSome && (match q.2.p with | .rp _ => (fldX xt q.1).isSome | .lit _ => true)
theorem fnd_mem : ∀ {hs : List (Nat × HK)} {c : Nat} {h : HK}, fndH hs c = some h → (c, h) ∈ hs
  | [], _, _, h => by cases h
  | (i, k) :: hs, c, h, hf => by
    unfold fndH at hf
    split at hf
    · rename_i e
      cases hf
      rw [Nat.eq_of_beq_eq_true e]; exact List.mem_cons_self
    · exact List.mem_cons_of_mem _ (fnd_mem hf)
section
variable {X : Cx} {Y : XI}
set_option maxHeartbeats 4000000 in
theorem pE_met {x a n : Str} {gm c P : Addr} {k : Nat} {st : Stmt} {fdm : FuncData} {hs : List (Nat × HK)} {fin : D} {ev : EM D} {params : Arguments} {body : Expr} {scope : Scope} {p lpos pos : Pos}
    (G : XGd X.prog X.K X.mg Y.xt) (hm0 : X.mg "repr" = none) (hgd : X.A.guards = some []) (hr : Room (k + 2) X.A) (hg : Gl X x) (hm : X.mg x = some (.ref gm)) (hk : PySem.W.keepIn X.K (.ref gm) = true) (hdb : (x == ("__debug__" : Str)) = false)
    (Fm : Fun X.K x x st gm fdm) (hb : Binds X.K fdm [a] []) (hmet : metB Y.xt a n st hs fin = true) (hhs : hsB Y.xt hs = true)
    (TB : LamX.TabB X.base X.mg c P) (hcode : X.env.code = .ref c) (hmT : (P, X.env.qual ++ "<lambda>") ∈ tbOf X.K) (hu : ∀ q ∈ tbOf X.K, q.1 = P → q.2 = X.env.qual ++ "<lambda>") (L : LamX.LamS X.env.scope scope) (hdef : PySem.defaultsOf params X.env = ([], []))
    (hbind : ∀ (q : Str) (cl : List (Str × Addr)) (pm cv ctv : Value), bindArgs (PySem.W.kla_fn "<lambda>" q params body scope cl pm cv ctv) ⟨[], []⟩ = pure [])
    (hbody : ∀ (A : Around) (outer : List PySem.Env) (s : Shared) (H : Hp) (E : XK) (f c' : Addr), Room k (A.deeper (LamX.lamEnv X scope s.heap.objs.size f c')) → (A.deeper (LamX.lamEnv X scope s.heap.objs.size f c')).guards = some [] → PE (LamX.lamCx X A outer s H E scope f c') body (tE X.K ⟨X.mg, Y.xt, E⟩ ev)) :
    PE X (.Call (.Name x p) [.Lambda params body scope lpos] [] pos) (tE X.K Y (kMetE hs fin ev)) := by
  obtain ⟨oc, od, kV, doc, pm, an, cdv, ct, osl, rfl, lk, hcg⟩ := Fm.ex
  unfold metB at hmet
  simp only [Bool.and_eq_true] at hmet
  obtain ⟨⟨⟨hsc, hoa⟩, hon⟩, hbd⟩ := hmet
  unfold metB.okA at hoa hon
  simp only [Bool.and_eq_true, Bool.not_eq_true'] at hoa hon
  have Sg : FnScope [a, n] [a] (defScope st) := by
    unfold metB.fnScB' at hsc
    simp only [Bool.and_eq_true, Bool.not_eq_true', decide_eq_true_eq, List.all_eq_true] at hsc
    obtain ⟨⟨⟨⟨⟨h1, h2⟩, h3⟩, h4⟩, h5⟩, h6⟩ := hsc
    refine ⟨?_, h2, h3, h4, rfl, fun y hy => ?_, fun y hy e => ?_⟩
    · split at h1
      · assumption
      · cases h1
    · have : y = a := by simpa using hy
      subst this
      split at h5
      · rename_i z; exact .inl z
      · cases h5
    · have := h6 y hy
      rw [e] at this
      cases this
  have hal : (defScope st).names.lookup a = some .local := by
    unfold metB.fnScB' at hsc
    simp only [Bool.and_eq_true] at hsc
    have h5 := hsc.1.2
    split at h5
    · rename_i z; exact z
    · cases h5
  split at hbd
  · rename_i y p1 p2 p3 hd0 hds p4 e p5 ebd
    simp only [Bool.and_eq_true, decide_eq_true_eq] at hbd
    obtain ⟨⟨rfl, hcl⟩, hfin⟩ := hbd
    refine ⟨fun pins s σ H Q I h => ?_⟩
    obtain ⟨env, mu, F, S, he, hG, hw⟩ := h
    have hw : WY (metR hs fin (ev env S)) (Po X.K mu F H Q) (PoX X.K Y mu F H) := hw
    refine wpAny_Call_Name_kw (ld_glob I hg hm ?_ hdb)
    refine PySem.W.callWith_K (h₀ := X.base) I.ok.mod.kin hk ?_ (by rfl) (by rfl)
    show wpAny _ _ (spliced ((false, eval (.Lambda params body scope lpos) X.env) :: backTo pos (starEach [] X.env))) _ _ s
    refine Calls.spliced_cons (LamX.lam_make2 I TB hcode hmT hu hG.tb hdef (L.has I.ok) fun f c' pm' ctv H1 s' I1 eN T1 hf hfn hfr hco => ?_)
    refine Calls.spliced_nil ⟨I1.kIn, ?_⟩
    have rc : codeAny (model X.prog X.w) X.A (.call (.ref gm) ⟨[.ref f], []⟩) (CR C8.CX0 X.stack X.prog X.w H1 s' Q C8.E0) s' := by
      refine LamX.run_ofS (N := [y, n]) (ps := [y]) (us := [.ref f]) (vs := [.ref f]) lk hcg Sg hr I1.env0 (hb s' [.ref f] I1.kIn rfl) (.cons rfl .nil) rfl fun hr' => ?_
      rw [ebd]
      have hgd' : (X.A.deeper (envOfC x (defScope st) s'.heap.objs.size gm cdv)).guards = some [] := by rw [deeper_guards]; exact hgd
      have hun : (X.A.deeper (envOfC x (defScope st) s'.heap.objs.size gm cdv)).units + 64 < cLine := by have := hr'.un; omega
      have clk := cl_ok (X := cxOf C8.CX0 X.prog X.w X.K X.mg X.base [y, n] x (defScope st) gm cdv X.A X.stack s' H1 C8.E0) G hm0 hgd' hun (n := n) rfl hon.1 hon.2 hcl
      refine ⟨_, pss_cons (pS_try (X := cxOf C8.CX0 X.prog X.w X.K X.mg X.base [y, n] x (defScope st) gm cdv X.A X.stack s' H1 C8.E0) (Wout := fun _ _ _ _ => False)
        (tb := fun W D σ' H' => ∃ E : XK, (∀ cls d σ' H', E cls d H' → σ'.length = 2 → W cls d σ' H') ∧ σ'[0]? = some (some (.ref f)) ∧ H' c' = some (LamX.CodeO c' (X.env.qual ++ "<lambda>")) ∧ tE X.K ⟨X.mg, Y.xt, E⟩ ev σ H' (fun _ H2 => D.nx σ' H2))
        rfl rfl Sg.nd takesN' (fun W pn xe tk _ => ?_) clk) (pss_one (ps_ret (fin_pe hfin))), ?_⟩
      · refine ⟨fun pins2 s2 σ2 H2 D2 I2 h2 => ?_⟩
        obtain ⟨E, hW, h0, h1, h3⟩ := h2
        have hp := act (X := X) (Z := (cxOf C8.CX0 X.prog X.w X.K X.mg X.base [y, n] x (defScope st) gm cdv X.A X.stack s' H1 C8.E0).tr pn xe) (i := 0) (p1 := p1) (p2 := p2) rfl I1 L hf hfn hfr (hbind _ _ _ _ _) (fun pins σ' H' s'' J => J.base) (takes_len tk) (E := E) hW hr' hgd'
          (fun s H hr2 hg2 => hbody _ _ s H E f c' hr2 hg2) rfl (.inl hal) hoa.1 hoa.2
        exact (pss_one (ps_expr hp)).run pins2 s2 σ2 H2 D2 I2 ⟨h0, h1, h3⟩
      · -- what is told
        refine ⟨fun cls dd H' => ∃ mu' S' c d r0, Xt mu H mu' H' ∧ Gd X.K mu' F H' S' ∧ RX X.K ⟨X.mg, Y.xt, fun _ _ _ => True⟩ mu' F H' c d cls dd ∧ (fndH hs c).bind (fun h => hkD h d) = some r0 ∧ Po X.K mu F H Q r0 S', ?_, rfl, hco, ?_⟩
        · rintro cls dd σ' H' ⟨mu', S', c0, d, r0, e1, g1, ⟨r, C, er, hC, rfl, hx⟩, hfd, q⟩ hl
          obtain ⟨hk0, hf1, hf2⟩ := Option.bind_eq_some_iff.mp hfd
          have hmem := fnd_mem hf1
          unfold hsB at hhs
          rw [List.all_eq_true] at hhs
          refine cl_find G (fun q hq => ?_) er hC hf1 (hk_rd g1 er hC hx hf2 (by omega) rfl (fun t et => ?_) (cl_Po (K := X.K) (F := F) mu H mu' H' r0 S' e1 g1.live q))
          · have := hhs q hq
            rw [Bool.and_eq_true] at this
            exact Option.isSome_iff_exists.mp this.1
          · have := hhs _ hmem
            rw [Bool.and_eq_true] at this
            have h2 := this.2
            rw [et] at h2
            have h2 : (fldX Y.xt c0).isSome = true := h2
            unfold fldX at h2
            have er : Y.xt c0 = some r := er
            rw [er] at h2
            exact h2
        · have eL := Xt.lam (mu := mu) eN
          have gL := hG.lam eN T1
          refine ⟨env, mu, F, S, he.mono hG.live eL, gL, ?_⟩
          show WY (ev env S) _ _
          cases er : ev env S with
          | no => rw [er] at hw; exact hw.elim
          | ok d S' =>
            rw [er] at hw
            have hw : Po X.K mu F H Q fin S' := hw
            intro v H2 mu2 e2 g2 rv
            exact fin_rd (σ := []) g2 hfin (cl_Po (K := X.K) (F := F) mu H mu2 H2 fin S' (eL.trans gL.live e2) g2.live hw)
          | exc c0 d S' =>
            rw [er] at hw
            cases eb : (fndH hs c0).bind fun h => hkD h d with
            | none => simp only [metR, eb] at hw; exact hw.elim
            | some r0 =>
              simp only [metR, eb] at hw
              have hw : Po X.K mu F H Q r0 S' := hw
              intro cls dd H2 mu2 e2 g2 rx
              exact ⟨mu2, S', c0, d, r0, eL.trans gL.live e2, g2, rx, eb, hw⟩
    refine wpAny_call (codeAny_mono rc fun r s2 hq => ?_)
    cases r with
    | error e => exact (show False from hq).elim
    | ok fl =>
      cases fl with
      | ret u => exact I1.after hq
      | next => exact False.elim hq
      | brk => exact False.elim hq
      | cont => exact False.elim hq
  · cases hbd
where
  takesN' {X : Cx} : Takes X (fun _ _ _ _ => False) := fun _ _ ⟨_, _, _, _, _, _, _, _, _, _, _, _, _, _, _, _, w⟩ => w.elim
end
end Ev
/-! Ev: calls that get no list of the store -/
namespace Ev
open PySem PySem.Spec
open PyProof.Rows L2
variable [LamN]
section
variable {K : PySem.W.Frag} {mu mu' F F' mu2 F2 : List Addr} {H H' : Hp} {S S' : Store}
mutual
theorem Rp.noRef (f : ∀ a, a ∉ mu → a ∉ F → a ∉ mu2 ∧ a ∉ F2) : ∀ {v : V} {d : D}, Rp K mu F H v d → noRef d = true → Rp K mu2 F2 H v d
  | _, _, .non, _ => .non
  | _, _, .bl b, _ => .bl b
  | _, _, .int i, _ => .int i
  | _, _, .str s, _ => .str s
  | _, _, .tup h r, n => .tup h (Rps.noRef f r n)
  | _, _, .lst h r, n => .lst ⟨h.1, (f _ h.2.1 h.2.2).1, (f _ h.2.1 h.2.2).2⟩ (Rps.noRef f r n)
  | _, _, .ref h, n => by cases n
  | _, _, .scr h r, n => .scr (h.elim (fun h => .inl ⟨h.1, (f _ h.2.1 h.2.2).1, (f _ h.2.1 h.2.2).2⟩) .inr) (Rps.noRef f r n)
  | _, _, .opq h, n => .opq ⟨h.1, (f _ h.2.1 h.2.2).1, (f _ h.2.1 h.2.2).2⟩
  | _, _, .gl h, n => by cases n
theorem Rps.noRef (f : ∀ a, a ∉ mu → a ∉ F → a ∉ mu2 ∧ a ∉ F2) : ∀ {vs : List V} {ds : List D}, Rps K mu F H vs ds → noRefs ds = true → Rps K mu2 F2 H vs ds
  | _, _, .nil, _ => .nil
  | _, _, .cons r t, n => by
    have n : (Ev.noRef _ && noRefs _) = true := n
    rw [Bool.and_eq_true] at n
    exact .cons (Rp.noRef f r n.1) (Rps.noRef f t n.2)
end
/-- our lists are put aside -/
theorem Gd.aside (g : Gd K mu F H S) : Gd K [] (F ++ mu) H [] :=
  ⟨⟨List.nodup_nil, fun a h => by simp at h, fun a h => by simp at h, fun a h => by
    rcases List.mem_append.mp h with h | h
    · exact g.live.frn a h
    · obtain ⟨o, e⟩ := g.live.ex h
      exact ⟨o, e, mut_nt (by rw [← e]; exact g.live.mt a h)⟩⟩, rfl, fun n c a h => by simp at h, g.tb⟩
theorem Xt.back (e : Xt [] H mu' H') : Xt mu H mu H' := ⟨⟨[], by simp, by simp⟩, fun a o h _ ho => e.keep a o h (by simp) ho⟩
theorem Gd.back (g : Gd K mu F H S) (e : Xt [] H mu' H') (g' : Gd K mu' F' H' S') : Gd K mu F H' S := by
  have e2 : Xt mu H mu H' := e.back
  have hm : ∀ a, a ∈ mu → ∀ o, H a = some o → H' a = some o := fun a ha o h => e.keep a o h (by simp) (mut_nt (by rw [← h]; exact g.live.mt a ha))
  refine ⟨⟨g.live.nd, fun a ha => ?_, g.live.out, fun a ha => ?_⟩, g.len, fun n c a h1 h2 => ?_, g'.tb⟩
  · obtain ⟨o, h⟩ := g.live.ex ha
    have := g.live.mt a ha
    rw [h] at this
    rw [hm a ha o h]; exact this
  · obtain ⟨o, h, ho⟩ := g.live.frn a ha
    exact ⟨o, e.keep a o h (by simp) ho, ho⟩
  · exact (g.cell n c a h1 h2).mono g.live e2 (hm a (List.mem_of_getElem? h2))
theorem Po.aside {Q : VK} {d : D} (g : Gd K mu F H S) (n : Ev.noRef d = true) (q : Po K mu F H Q d S) : Po K [] (F ++ mu) H Q d S' := fun v H' mu' e g' r =>
  q v H' mu e.back (g.back e g') (r.noRef (fun a _ h => ⟨fun z => h (List.mem_append_right _ z), fun z => h (List.mem_append_left _ z)⟩) n)
theorem PoX.aside {Y : XI} {c : Nat} {d : D} (g : Gd K mu F H S) (n : Ev.noRef d = true) (q : PoX K Y mu F H c d S) : PoX K Y [] (F ++ mu) H c d S' := fun cls dd H' mu' e g' r => by
  refine q cls dd H' mu e.back (g.back e g') ?_
  obtain ⟨row, C, h1, h2, h3, h4⟩ := r
  refine ⟨row, C, h1, h2, h3, ?_⟩
  cases ef : row.fld with
  | none => rw [ef] at h4; exact h4
  | some f =>
    rw [ef] at h4
    obtain ⟨a, fs, v, a1, a2, a3, a4⟩ := h4
    exact ⟨a, fs, v, a1, a2, a3, a4.noRef (fun a _ h => ⟨fun z => h (List.mem_append_right _ z), fun z => h (List.mem_append_left _ z)⟩) n⟩
/-- what is promised from an empty store is promised from any -/
theorem spF_pure {m : XM} {cl : List D → M D} {vs : List V} {Q : VK} {E : XK} (h : spF K m (pureC cl) vs H Q E) : spF K m cl vs H Q E := by
  obtain ⟨mu, F, S, xs, g, r, w⟩ := h
  have plain : WY (cl xs S) (Po K mu F H Q) (PoX K (m.at E) mu F H) → spF K m cl vs H Q E := fun w => ⟨mu, F, S, xs, g, r, w⟩
  unfold pureC at w
  split at w
  · rename_i n
    have side : Rps K [] (F ++ mu) H vs xs := r.noRef (fun a h1 h2 => ⟨by simp, fun z => (List.mem_append.mp z).elim h2 h1⟩) n
    cases e : pureV (cl xs []) with
    | ok d S1 =>
      obtain ⟨nd, S', e'⟩ := pureV_ok e
      rw [e] at w
      have w : Po K mu F H Q d S := w
      exact ⟨[], F ++ mu, [], xs, g.aside, side, by rw [e']; exact Po.aside g nd w⟩
    | exc c d S1 =>
      obtain ⟨nd, S', e'⟩ := pureV_exc e
      rw [e] at w
      have w : PoX K (m.at E) mu F H c d S := w
      exact ⟨[], F ++ mu, [], xs, g.aside, side, by rw [e']; exact PoX.aside g nd w⟩
    | no => rw [e] at w; exact plain w
  · exact plain w
theorem metP_wy {hs : List (Nat × HK)} {fin : D} {cl : List D → M D} {args : EM (List D)} {env : Env} {S : Store} {P : D → Store → Prop} {PX : PXT} (w : WY (kMetP hs fin cl args env S) P PX) : WY (kMetE hs fin (kCall (pureC cl) args) env S) P PX := by
  show WY (kMet hs fin (pureC cl) args env S) P PX
  unfold kMetP at w
  unfold kMet
  unfold bnd
  cases ea : args env S with
  | no => rw [ea] at w; exact w
  | exc c d S1 => rw [ea] at w; exact w.elim
  | ok ds S1 =>
    rw [ea] at w
    dsimp only at w ⊢
    unfold pureC
    split at w
    · rename_i n
      rw [if_pos n]
      cases e : pureV (cl ds []) with
      | ok d S2 => rw [e] at w; exact w
      | exc c d S2 =>
        rw [e] at w
        cases eb : (fndH hs c).bind fun h => hkD h d with
        | none => simp only [metR, eb] at w; exact w.elim
        | some r0 => simp only [metR, eb] at w ⊢; exact w
      | no => rw [e] at w; exact w.elim
    · rename_i n
      rw [if_neg n]; exact w
theorem metP_met {Y : XI} {σ : L2.St} {H : Hp} {Q : VK} {hs : List (Nat × HK)} {fin : D} {cl : List D → M D} {args : EM (List D)} (h : tE K Y (kMetP hs fin cl args) σ H Q) : tE K Y (kMetE hs fin (kCall (pureC cl) args)) σ H Q := by
  obtain ⟨env, mu, F, S, he, g, w⟩ := h
  exact ⟨env, mu, F, S, he, g, metP_wy w⟩
theorem metV_met {Y : XI} {σ : L2.St} {H : Hp} {Q : VK} {hs : List (Nat × HK)} {fin : D} {cl : Nat → List D → M D} {i : Nat} {args : EM (List D)} (h : tE K Y (kMetV hs fin cl i args) σ H Q) : tE K Y (kMetE hs fin (kCallV (fun g => pureC (cl g)) i args)) σ H Q := by
  obtain ⟨env, mu, F, S, he, g, w⟩ := h
  refine ⟨env, mu, F, S, he, g, ?_⟩
  unfold kMetV at w
  unfold kMetE kCallV
  split at w
  · rename_i g0 e
    simp only [e]
    exact metP_wy w
  · exact w.elim
theorem memo_rd {Y : XI} {σ : L2.St} {H : Hp} {Q : VK} {n : Nat} {ev : EM D} (h : tE K Y (kMemo n ev) σ H Q) : tE K Y ev σ H Q := by
  obtain ⟨env, mu, F, S, he, g, w⟩ := h
  unfold kMemo at w
  split at w
  · rename_i hl
    have hl := Nat.eq_of_beq_eq_true hl
    cases e : pureV (ev (nones n) []) with
    | ok d S1 =>
      obtain ⟨nd, S', e'⟩ := pureV_ok e
      rw [e] at w
      have w : Po K mu F H Q d S := w
      refine ⟨nones n, [], F ++ mu, [], ⟨by rw [he.1, hl, nones_len], fun i d h => ?_⟩, g.aside, by rw [e']; exact Po.aside g nd w⟩
      have := nones_get n i
      rw [h] at this
      cases this with
      | inl h => cases h
      | inr h => cases h
    | exc c d S1 => rw [e] at w; exact w.elim
    | no => rw [e] at w; exact w.elim
  · exact w.elim
where
  nones_len : ∀ n, (nones n).length = n
    | 0 => rfl
    | n + 1 => by show (nones n).length + 1 = _; rw [nones_len n]
  nones_get : ∀ (n i : Nat), (nones n)[i]? = none ∨ (nones n)[i]? = some none
    | 0, i => .inl (by simp [nones])
    | n + 1, 0 => .inr rfl
    | n + 1, i + 1 => by
      have := nones_get n i
      simpa [nones] using this
end
section
variable {K : PySem.W.Frag}
theorem tail_rd {Y : XI} {σ : L2.St} {H : Hp} {D0 : Ends} {n : Nat} {ev : EM Fl} (h : tS K Y (sCons (sTail n ev) sNil) D0 σ H) : tS K Y ev D0 σ H := by
  obtain ⟨env, mu, F, S, he, g, w⟩ := h
  have w := WY.bnd.mp w
  unfold sTail at w
  split at w
  · rename_i hl
    have hl := Nat.eq_of_beq_eq_true hl
    cases e : pureV (bnd (ev (nones n)) flR []) with
    | ok d S1 =>
      obtain ⟨nd, S', e'⟩ := pureV_ok e
      rw [e] at w
      have w : endS K mu F H D0 (.rt d) S := w
      refine ⟨nones n, [], F ++ mu, [], ⟨by rw [he.1, hl, memo_rd.nones_len], fun i d h => ?_⟩, g.aside, ?_⟩
      · have := memo_rd.nones_get n i
        rw [h] at this
        cases this with
        | inl h => cases h
        | inr h => cases h
      · unfold bnd at e'
        cases e2 : ev (nones n) [] with
        | no => rw [e2] at e'; cases e'
        | exc _ _ _ => rw [e2] at e'; cases e'
        | ok f S2 =>
          rw [e2] at e'
          cases f with
          | rt d2 =>
            cases e'
            have q : Po K [] (F ++ mu) H D0.rt d S' := Po.aside g nd w
            exact q
          | _ => cases e'
    | exc c d S1 => rw [e] at w; exact w.elim
    | no => rw [e] at w; exact w.elim
  · exact w.elim
end
section
variable {X : Cx} {Y : XI} {pos : Pos} {a : Expr} {es : List Expr} {rs : EM (List D)}
theorem pE_callV {i : Nat} {x : Str} {p : Pos} {k : Nat} {cl : Nat → List D → M D} (tk : Takes X fun cls d _ H => Y.W cls d H) (hr : Room k X.A) (hgd : X.A.guards = some []) (hN : X.N[i]? = some x) (hv : Vis X.env.scope x)
    (Fk : ∀ g f, fvK X.K g f → PySem.W.keepIn X.K (.ref f) = true ∧ ∃ fd ps, Binds X.K fd ps [] ∧ FnOkG X.prog X.w X.K X.mg X.base (L2.CX X.prog X.w) k f fd ps (spF X.K Y.m (cl g)))
    (ha : PA X (a :: es) (tA X.K Y rs)) (hdb : (x == ("__debug__" : Str)) = false) (hcd : (x == ("__classdict__" : Str)) = false) (hst : starEach (a :: es) X.env = (false, eval a X.env) :: starEach es X.env) (hpl : (backTo pos (starEach es X.env)).any (·.1) = false) :
    PE X (.Call (.Name x p) (a :: es) [] pos) (tE X.K Y (kCallV cl i rs)) := by
  refine ⟨fun pins s σ H Q I h => ?_⟩
  obtain ⟨env, mu, F, S, he, hg, hw⟩ := h
  unfold kCallV at hw
  rw [nth_eq] at hw
  split at hw
  · rename_i g hgi
    obtain ⟨v, h1, h2⟩ := he.2 i _ hgi
    cases h2 with
    | gl hfv =>
      obtain ⟨hk, fd, ps, hb, F'⟩ := Fk _ _ hfv
      refine wpAny_Call_Name_kw (thn ((pe_var (pos := p) hN hv hdb hcd).run pins s σ H (fun v' H1 => v' = .ref _ ∧ H1 = H) I ⟨_, h1, rfl, rfl⟩) fun u s1 ⟨v', H1, I1, r1, q1⟩ => ?_)
      obtain ⟨rfl, rfl⟩ := q1
      cases r1
      have ht : tE X.K Y (kCall (cl g) rs) σ H1 Q := ⟨env, mu, F, S, he, hg, hw⟩
      refine PySem.W.callWith_K (h₀ := X.base) I.ok.mod.kin hk (thn (ha.run pos pins s1 σ _ _ I1 (tCF_rd ht)) fun us s2 ⟨vs, H2, I2, r, q⟩ => ⟨I2.kIn, ?_⟩) hst hpl
      exact run_fnG F' hr hgd hb (passes_call tk (E := Y.W) fun _ _ _ _ h => h) I2 r q
  · exact hw.elim
end
end Ev
/-! Ev: an expression of the program is one of Ev's: the check -/
namespace Ev
open PySem PySem.Spec
open PyProof.Rows L2
variable [LamN]

structure CC where
  N : List Str
  sc : Scope
  fnB : Option Scope
  gs : List (Str × Bool)
  bl : List Str
  gcd : Bool
  /-- the def's name, where it makes lambdas -/
  lam : Option Str
  /-- the defs that tell what is met: clauses, and what is told otherwise -/
  ms : List (Str × List (Nat × HK) × D)
  /-- the classes of exceptions -/
  xt : XTab
def CC.blk (c : CC) (scope : Scope) : CC := { c with sc := relS scope c.sc, fnB := some scope, lam := none }
def CC.lmd (c : CC) (scope : Scope) : CC := { c with sc := scope, fnB := some scope, lam := none }
def glC (c : CC) (x : Str) : Bool := decide (c.sc.names.lookup x = some .globalImplicit)
def blC (c : CC) (x : Str) : Bool := c.bl.any fun y => decide (y = x)
def okN (x : Str) : Bool := !(x == ("__debug__" : Str)) && !(x == ("__classdict__" : Str)) && !(x == ("__name__" : Str))
def visC (c : CC) (x : Str) : Bool := match c.sc.names.lookup x with
  | some .local => true
  | some .cell => true
  | some .free => true
  | _ => false
def locC (c : CC) (x : Str) : Bool := match c.sc.names.lookup x with
  | some .local => true
  | some .cell => (match c.fnB with | none => true | some s => decide (s.names.lookup x = some .cell))
  | _ => false
def notStar : Expr → Bool
  | .Starred .. => false
  | _ => true
def notCall : Expr → Bool
  | .Call .. => false
  | _ => true
def notSet : Expr → Bool
  | .Set .. => false
  | _ => true
def notSlice : Expr → Bool
  | .Slice .. => false
  | _ => true
def isTupE : Expr → Bool
  | .Tuple .. => true
  | _ => false
mutual
def chkT (c : CC) : Tn → Expr → Bool
  | .nm i, e => match e with
    | .Name x _ => decide (nth c.N i = some x) && locC c x
    | _ => false
  | .tp ts, e => match e with
    | .Tuple es _ _ => chkTs c ts es
    | _ => false
def chkTs (c : CC) : List Tn → List Expr → Bool
  | [], es => match es with
    | [] => true
    | _ => false
  | t :: ts, es => match es with
    | e :: es => notStar e && chkT c t e && chkTs c ts es
    | _ => false
end
def tOk : Ex → Bool
  | .not a => tOk a
  | .and a b => tOk a && tOk b
  | .or a b => tOk a && tOk b
  | .ite _ _ _ => false
  | .memo _ _ => false
  | .emp => false
  | .dlen .. => false
  | _ => true
def isAnd : Ex → Bool
  | .and _ _ => true
  | _ => false
def isOr : Ex → Bool
  | .or _ _ => true
  | _ => false
def biN : Bi → Str
  | .repr => "repr"
  | .len => "len" | .int => "int" | .abs => "abs" | .max2 => "max" | .min2 => "min" | .maxL => "max" | .minL => "min"
  | .sum => "sum" | .all => "all" | .any => "any" | .list => "list" | .tuple => "tuple" | .divmod => "divmod" | .sortedI => "sorted" | _ => ""
def gd {α : Type} (b : Bool) (a : α) : Option α := match b with
  | true => some a
  | false => none
theorem gd_some {α : Type} {b : Bool} {a x : α} (h : gd b a = some x) : b = true ∧ a = x := by
  cases b with
  | true => exact ⟨rfl, Option.some.inj h⟩
  | false => cases h
def plB : Bi → Bool
  | .listRg => false
  | .tupRg => false
  | .isinst _ => false
  | .gcd => false
  | .bool => false
  | _ => true
def rgA (c : CC) (x nm : Str) : List Expr → Option (List Expr)
  | [.Call (.Name r _) as [] _] => gd (decide (x = nm) && decide (r = "range") && glC c nm && blC c nm && glC c "range" && blC c "range" && Nat.ble as.length 2 && Nat.ble 1 as.length) as
  | _ => none
def isiA (c : CC) (x : Str) (t : Ty) : List Expr → Option (List Expr)
  | [a, .Name y _] => gd (decide (x = "isinstance") && glC c "isinstance" && blC c "isinstance" && decide (y = Str.ofString (tyName t)) && glC c y && blC c y && !decide (t = .tNone)) [a]
  | _ => none
def gcdA (c : CC) (x : Str) (es : List Expr) : Option (List Expr) := gd (decide (x = "gcd") && c.gcd && glC c "gcd" && Nat.ble 1 es.length) es
def plA (c : CC) (x : Str) (k : Bi) (es : List Expr) : Option (List Expr) := gd (plB k && decide (x = biN k) && glC c (biN k) && blC c (biN k) && Nat.ble 1 es.length) es
/-- the arguments, where the call has the form that k asks -/
def biA (c : CC) (k : Bi) (e : Expr) : Option (List Expr) := match e with
  | .Call (.Name x _) es [] _ => match k with
    | .listRg => rgA c x "list" es
    | .tupRg => rgA c x "tuple" es
    | .isinst t => isiA c x t es
    | .gcd => gcdA c x es
    | k => plA c x k es
  | _ => none
def mtN : Mt → Str
  | .append => "append" | .extend => "extend" | .pop => "pop" | .bits => "bit_length"
def mtL : Mt → Nat
  | .append => 1 | .extend => 1 | .pop => 0 | .bits => 0
def srG (c : CC) (x nm : Str) (n : Nat) (tp : Bool) (tg : Expr) (es : List Expr) : Option (List Expr) := gd (decide (x = nm) && glC c nm && blC c nm && Nat.beq es.length n && (!tp || isTupE tg)) es
/-- a source's parts -/
def srcA (c : CC) (k : SK) (tg iter : Expr) : Option (List Expr) := match k with
  | .vl => gd (notStar iter) [iter]
  | k => match iter with
    | .Call (.Name x _) es [] _ => match k with
      | .rg1 => srG c x "range" 1 false tg es
      | .rg2 => srG c x "range" 2 false tg es
      | .en => srG c x "enumerate" 1 true tg es
      | .zp => srG c x "zip" 2 true tg es
      | .zp3 => srG c x "zip" 3 true tg es
      | _ => none
    | _ => none
def ownP (N : List Str) (own : List Nat) : List (Str × Nat) := own.map fun i => ((nth N i).getD "", i)
def sub2 (l own : List Nat) : Bool := l.all fun i => own.any fun j => Nat.beq i j
def noPar : Arguments → Bool
  | ⟨[], [], none, [], [], none, []⟩ => true
  | _ => false
def ifsOk : List Ex → Bool
  | [] => true
  | [q] => tOk q
  | _ => false
mutual
def chkE (c : CC) : Ex → Expr → Bool
  | .int i, e => match e with
    | .Constant (.int j) _ _ => decide (i = j)
    | _ => false
  | .bl b, e => match e with
    | .Constant (.bool j) _ _ => b == j
    | _ => false
  | .non, e => match e with
    | .Constant .none _ _ => true
    | _ => false
  | .str s, e => match e with
    | .Constant (.str t) _ _ => decide (s = t)
    | _ => false
  | .var i, e => match e with
    | .Name x _ => decide (nth c.N i = some x) && visC c x && okN x
    | _ => false
  | .gl g, e => match e with
    | .Name x _ => decide (nth c.gs g = some (x, false)) && glC c x && okN x
    | _ => false
  | .bin o _ a b, e => match e with
    | .BinOp a' p b' _ => decide (p = opO o) && chkE c a a' && chkE c b b'
    | _ => false
  | .neg a, e => match e with
    | .UnaryOp .USub a' _ => chkE c a a'
    | _ => false
  | .not a, e => match e with
    | .UnaryOp .Not a' _ => chkE c a a'
    | _ => false
  | .and a r, e => match e with
    | .BoolOp .And (a' :: b' :: []) _ => chkE c a a' && chkE c r b'
    | .BoolOp .And (a' :: b' :: d' :: rest) pos => isAnd r && chkE c a a' && chkE c r (.BoolOp .And (b' :: d' :: rest) pos)
    | _ => false
  | .or a r, e => match e with
    | .BoolOp .Or (a' :: b' :: []) _ => chkE c a a' && chkE c r b'
    | .BoolOp .Or (a' :: b' :: d' :: rest) pos => isOr r && chkE c a a' && chkE c r (.BoolOp .Or (b' :: d' :: rest) pos)
    | _ => false
  | .cmp o a b, e => match e with
    | .Compare a' [q] [b'] _ => decide (q = cmO o) && chkE c a a' && chkE c b b' && !behindInMarks (cmO o) b'
    | _ => false
  | .chain o o' a b d, e => match e with
    | .Compare a' [q, q'] [b', d'] _ => decide (q = cmO o) && decide (q' = cmO o') && chkE c a a' && chkE c b b' && chkE c d d' && !behindInMarks (cmO o') d'
    | _ => false
  | .ite q a b, e => match e with
    | .IfExp q' a' b' _ => tOk q && chkE c q q' && chkE c a a' && chkE c b b'
    | _ => false
  | .tup xs, e => match e with
    | .Tuple es _ _ => Nat.ble es.length 1000 && chkEs c xs es
    | _ => false
  | .lst _ xs, e => match e with
    | .List es _ => Nat.ble es.length 1000 && chkEs c xs es
    | _ => false
  | .tupS fs xs, e => match e with
    | .Tuple es _ _ => chkFs c fs xs es
    | _ => false
  | .lstS _ fs xs, e => match e with
    | .List es _ => chkFs c fs xs es
    | _ => false
  | .ix a b, e => match e with
    | .Subscript a' b' _ => notSlice b' && chkE c a a' && chkE c b b'
    | _ => false
  | .slA _ a, e => match e with
    | .Subscript a' (.Slice none none none _) _ => chkE c a a'
    | _ => false
  | .slL _ a b, e => match e with
    | .Subscript a' (.Slice (some b') none none _) _ => chkE c a a' && chkE c b b'
    | _ => false
  | .slH _ a b, e => match e with
    | .Subscript a' (.Slice none (some b') none _) _ => chkE c a a' && chkE c b b'
    | _ => false
  | .slLH _ a b d, e => match e with
    | .Subscript a' (.Slice (some b') (some d') none _) _ => chkE c a a' && chkE c b b' && chkE c d d'
    | _ => false
  | .rev _ a, e => match e with
    | .Subscript a' (.Slice none none (some (.UnaryOp .USub (.Constant (.int j) _ _) _)) _) _ => decide (j = 1) && chkE c a a'
    | _ => false
  | .call g args, e => match e with
    | .Call (.Name x _) es [] _ => decide (nth c.gs g = some (x, true)) && glC c x && okN x && chkEs c args es
    | _ => false
  | .pcall g args, e => match e with
    | .Call (.Name x _) es [] _ => decide (nth c.gs g = some (x, true)) && glC c x && okN x && chkEs c args es
    | _ => false
  | .bi k _ args, e => match biA c k e with
    | some es => chkEs c args es
    | none => false
  | .mt k o args, e => match e with
    | .Call (.Attribute a' nm ap) es [] p => decide (nm = mtN k) && Nat.beq es.length (mtL k) && notCall a' && (ap.endLine == p.line) && chkE c o a' && chkEs c args es
    | _ => false
  | .met hs fin m g args, e => match e with
    | .Call (.Name x _) [.Lambda ps (.Call (.Name y _) es [] _) scope _] [] _ => decide (nth c.ms m = some (x, hs, fin)) && glC c x && okN x && c.lam.isSome && LamX.lamSB c.sc scope && noPar ps && decide (nth c.gs g = some (y, true)) && glC (c.lmd scope) y && okN y && chkEs (c.lmd scope) args es
    | _ => false
  | .fnv g, e => match e with
    | .Name x _ => decide (nth c.gs g = some (x, true)) && glC c x && okN x
    | _ => false
  | .emp, e => match e with
    | .Dict [] [] _ => true
    | _ => false
  | .metV hs fin m i args, e => match e with
    | .Call (.Name x _) [.Lambda ps (.Call (.Name y _) es [] _) scope _] [] _ => decide (nth c.ms m = some (x, hs, fin)) && glC c x && okN x && c.lam.isSome && LamX.lamSB c.sc scope && noPar ps && decide (nth c.N i = some y) && visC (c.lmd scope) y && okN y && !es.isEmpty && chkEs (c.lmd scope) args es
    | _ => false
  | .dlen own t k src x, e => match e with
    | .Call (.Name nm _) [.DictComp kx (.Constant (.bool true) _ _) [⟨tg, iter, [], 0⟩] scope _] [] _ => decide (nm = "len") && glC c "len" && blC c "len" && notSet iter && blkC c.N c.sc scope (ownP c.N own) && chkT (c.blk scope) t tg && sub2 t.names own &&
      (match srcA c k tg iter with
       | some es => chkEs c src es
       | none => false) && chkE (c.blk scope) x kx
    | _ => false
  | .memo _ x, e => chkE c x e
  | .comp _ own t k src ifs x, e => match e with
    | .ListComp elt [⟨tg, iter, ifs', 0⟩] scope _ => notSet iter && blkC c.N c.sc scope (ownP c.N own) && chkT (c.blk scope) t tg && sub2 t.names own && (match ifs with | [] => true | [q] => tOk q | _ => false) &&
      (match srcA c k tg iter with
       | some es => chkEs c src es
       | none => false) && chkEs (c.blk scope) ifs ifs' && chkE (c.blk scope) x elt
    | _ => false
  | .comp2 _ own t k src ifs own1 t1 k1 src1 ifs1 x, e => match e with
    | .ListComp elt [⟨tg, iter, ifs', 0⟩, ⟨tg1, iter1, ifs1', 0⟩] scope _ => notSet iter && blkC c.N c.sc scope (ownP c.N own) && chkT (c.blk scope) t tg && sub2 t.names own && ifsOk ifs &&
      (match srcA c k tg iter with
       | some es => chkEs c src es
       | none => false) && chkEs (c.blk scope) ifs ifs' && notSet iter1 && sub2 own1 own && chkT (c.blk scope) t1 tg1 && sub2 t1.names own1 && ifsOk ifs1 &&
      (match srcA (c.blk scope) k1 tg1 iter1 with
       | some es => chkEs (c.blk scope) src1 es
       | none => false) && chkEs (c.blk scope) ifs1 ifs1' && chkE (c.blk scope) x elt
    | _ => false
def chkFs (c : CC) : List Bool → List Ex → List Expr → Bool
  | _, [], es => match es with
    | [] => true
    | _ => false
  | fs, x :: xs, es => match es with
    | e :: es => (match fs with
      | true :: r => (match e with
        | .Starred e' _ => chkE c x e' && chkFs c r xs es
        | _ => false)
      | _ => notStar e && chkE c x e && chkFs c fs.tail xs es)
    | _ => false
def chkEs (c : CC) : List Ex → List Expr → Bool
  | [], es => match es with
    | [] => true
    | _ => false
  | x :: xs, es => match es with
    | e :: es => notStar e && chkE c x e && chkEs c xs es
    | _ => false
end
theorem takesN {X : Cx} : Takes X (fun _ _ _ _ => False) := fun _ _ ⟨_, _, _, _, _, _, _, _, _, _, _, _, _, _, _, _, w⟩ => w.elim
structure Fit (C : Ctx) (k : Nat) (c : CC) (X : Cx) (Y : XI) : Prop where
  tk : Takes X fun cls d _ H => Y.W cls d H
  N : X.N = c.N
  nd : X.N.Nodup
  sc : X.env.scope = c.sc
  kd : c.sc.kind = .function
  fn : match c.fnB with | none => ∀ x, X.fn x = true | some s => ∀ x, s.names.lookup x = some .cell → X.fn x = true
  calm : X.calm = true
  room : Room (k + 2) X.A
  gd : X.A.guards = some []
  ymg : Y.mg = X.mg
  lam : ∀ x, c.lam = some x → X.env.qual = x ++ ".<locals>." ∧ x ∈ LamN.names ∧ ∃ cd P, PySem.W.tabIn X.K x = some (cd, P) ∧ X.env.code = .ref cd ∧ LamX.TabB X.base X.mg cd P
  low : ∀ cl, C.cm = some cl → ∃ j, k = j + 2 ∧ ∀ (g : Nat) x, c.gs[g]? = some (x, true) → ∃ f fd ps, X.mg x = some (.ref f) ∧ PySem.W.keepIn X.K (.ref f) = true ∧ Binds X.K fd ps [] ∧ FnOkG X.prog X.w X.K X.mg X.base (L2.CX X.prog X.w) (j + 2) f fd ps (spF X.K Y.m (cl g))
  ms : ∀ (m : Nat) x hs fin, c.ms[m]? = some (x, hs, fin) → ∃ gm fdm st a n, X.mg x = some (.ref gm) ∧ PySem.W.keepIn X.K (.ref gm) = true ∧ Fun X.K x x st gm fdm ∧ Binds X.K fdm [a] [] ∧ metB Y.xt a n st hs fin = true ∧ hsB Y.xt hs = true
  xg : XGd X.prog X.K X.mg Y.xt
  xt : Y.xt = c.xt
  fvs : ∀ g a, fvK X.K g a → ∃ x, c.gs[g]? = some (x, true) ∧ X.mg x = some (.ref a)
  fvi : ∀ (g : Nat) x a, c.gs[g]? = some (x, true) → X.mg x = some (.ref a) → fvK X.K g a
  rp0 : X.mg "repr" = none
  uq : ∀ p ∈ tbOf X.K, ∀ p' ∈ tbOf X.K, p.1 = p'.1 → p.2 = p'.2
  bl : ∀ x, x ∈ c.bl → X.mg x = none
  gc : c.gcd = true → X.mg "gcd" = some (.builtin "math.gcd")
  fns : ∀ (g : Nat) x, c.gs[g]? = some (x, true) → ∃ f fd ps, X.mg x = some (.ref f) ∧ PySem.W.keepIn X.K (.ref f) = true ∧ Binds X.K fd ps [] ∧ FnOkG X.prog X.w X.K X.mg X.base (L2.CX X.prog X.w) (k + 2) f fd ps (spF X.K Y.m (C.cl g))
  cns : ∀ g x, c.gs[g]? = some (x, false) → ∃ v u, X.mg x = some u ∧ RelV v u ∧ ∀ d, C.gv g = some d → ∀ mu F H, Rp X.K mu F H v d
section
variable {C : Ctx} {k : Nat} {c : CC} {X : Cx} {Y : XI}
theorem Fit.blk {scope : Scope} (f : Fit C k c X Y) (hs : scope.kind = .function) (s : Shared) (H : Hp) (Ca : Addr) (cl : List (Str × Addr)) (fp : List Addr) : Fit C k (c.blk scope) (X.blk s H scope (compEnvC scope cl Ca X.env) fp) Y.nox where
  tk := takesN
  N := f.N
  nd := f.nd
  sc := by
    show relS scope X.env.scope = relS scope c.sc
    rw [f.sc]
  kd := hs
  fn := fun x h => by
    show (scope.names.lookup x == some .cell) = true
    rw [h]; rfl
  calm := f.calm
  room := f.room
  gd := f.gd
  ymg := f.ymg
  lam := fun x h => by cases h
  low := f.low
  ms := f.ms
  xg := f.xg
  xt := f.xt
  fvs := f.fvs
  fvi := f.fvi
  rp0 := f.rp0
  uq := f.uq
  bl := f.bl
  gc := f.gc
  fns := f.fns
  cns := f.cns
theorem Fit.gl {x : Str} (f : Fit C k c X Y) (h : glC c x = true) : Gl X x := by
  unfold glC at h
  rw [decide_eq_true_eq] at h
  unfold Gl Env.kindOf
  rw [f.sc]; exact h
theorem Fit.mg {x : Str} (f : Fit C k c X Y) (h : blC c x = true) : X.mg x = none := by
  unfold blC at h
  rw [List.any_eq_true] at h
  obtain ⟨y, hy, e⟩ := h
  rw [decide_eq_true_eq] at e
  subst e
  exact f.bl _ hy
theorem Fit.vis {x : Str} (f : Fit C k c X Y) (h : visC c x = true) : Vis X.env.scope x := by
  unfold visC at h
  unfold Vis
  rw [f.sc]
  split at h
  · exact .inl (by assumption)
  · exact .inr (.inl (by assumption))
  · exact .inr (.inr (by assumption))
  · cases h
theorem Fit.loc {x : Str} (f : Fit C k c X Y) (h : locC c x = true) : Loc X.env.scope x ∧ (X.fn x = true ∨ X.env.scope.names.lookup x = some .local) := by
  unfold locC at h
  unfold L2.Loc
  rw [f.sc]
  have hf := f.fn
  split at h
  · rename_i e; exact ⟨.inl e, .inr e⟩
  · rename_i e
    refine ⟨.inr e, .inl ?_⟩
    split at h
    · rename_i e2; rw [e2] at hf; exact hf x
    · rename_i s e2; rw [e2] at hf; exact hf x (by simpa using h)
  · cases h
theorem okN_1 {x : Str} (h : okN x = true) : (x == ("__debug__" : Str)) = false ∧ (x == ("__classdict__" : Str)) = false ∧ x ≠ "__name__" := by
  unfold okN at h
  simp only [Bool.and_eq_true, Bool.not_eq_true'] at h
  exact ⟨h.1.1, h.1.2, fun e => by subst e; have := h.2; simp at this⟩
theorem star_cons {e : Expr} {es : List Expr} {env : PySem.Env} (h : notStar e = true) : starEach (e :: es) env = (false, eval e env) :: starEach es env := by
  cases e <;> first | rfl | cases h
theorem asgEach_cons {e : Expr} {es : List Expr} {env : PySem.Env} (h : notStar e = true) : assignEach (e :: es) env = (false, assign e env) :: assignEach es env := by
  cases e <;> first | rfl | cases h
theorem base_notCall {e : Expr} {s : Str} {env : PySem.Env} {w : Sem Value} (h : notCall e = true) : attributeBase e s env w = w := by
  cases e <;> first | rfl | cases h
theorem folded_notSet {e : Expr} {env : PySem.Env} {x : Value} (h : notSet e = true) : foldedSetIterable e env x = pure x := by
  cases e <;> first | rfl | cases h
theorem plain_notSlice {e : Expr} (h : notSlice e = true) : PlainIx e := by
  intro o i
  cases e <;> first | rfl | cases h

/-! ### targets -/
mutual
theorem chkT_ok : ∀ {t : Tn} {e : Expr} {c : CC} {X : Cx} {Y : XI}, Fit C k c X Y → chkT c t e = true → PG X e (tG X.K t)
  | .nm i, e, c, X, Y, f, h => by
    unfold chkT at h
    split at h
    · simp only [Bool.and_eq_true, decide_eq_true_eq, nth_eq] at h
      have := f.loc h.2
      exact pG_nm f.nd (by rw [f.N]; exact h.1) this.1 this.2
    · cases h
  | .tp ts, e, c, X, Y, f, h => by
    unfold chkT at h
    split at h
    · have q := chkTs_ok f h
      exact pG_tp f.calm q.1 q.2.1 q.2.2
    · cases h
theorem chkTs_ok : ∀ {ts : List Tn} {es : List Expr} {c : CC} {X : Cx} {Y : XI}, Fit C k c X Y → chkTs c ts es = true → PGs X es (tGs X.K ts) ∧ (assignEach es X.env).length = ts.length ∧ (assignEach es X.env).findIdx? (·.1) = none
  | [], es, c, X, Y, f, h => by
    unfold chkTs at h
    split at h
    · exact ⟨pGs_nil, rfl, rfl⟩
    · cases h
  | t :: ts, es, c, X, Y, f, h => by
    unfold chkTs at h
    split at h
    · simp only [Bool.and_eq_true] at h
      have q := chkTs_ok f h.2
      have e1 := asgEach_cons (env := X.env) (es := by assumption) h.1.1
      refine ⟨pGs_cons (chkT_ok f h.1.2) q.1 (by rw [e1]; rfl), by rw [e1]; simp [q.2.1], ?_⟩
      rw [e1]
      have q2 := q.2.2
      simp only [List.findIdx?_eq_none_iff] at q2 ⊢
      intro x hx
      rcases List.mem_cons.mp hx with rfl | hx
      · rfl
      · exact q2 x hx
    · cases h
end
end
end Ev
/-! Ev: the check is sound: expressions -/
namespace Ev
open PySem PySem.Spec
open PyProof.Rows L2
variable [LamN]

section
variable {C : Ctx} {k : Nat}
def isBO : Expr → Bool
  | .BoolOp .. => true
  | _ => false
/-- what a checked expression gives -/
structure EOk (C : Ctx) (X : Cx) (Y : XI) (x : Ex) (e : Expr) : Prop where
  pe : PE X e (tE X.K Y (evE C x))
  pt : tOk x = true → PT X e (tT X.K Y (evE C x))
  pw : tOk x = true → isBO e = true → PW X e (tT X.K Y (evE C x))
def Each (C : Ctx) (X : Cx) (Y : XI) : List Ex → List Expr → Prop
  | [], [] => True
  | x :: xs, e :: es => (notStar e = true ∧ EOk C X Y x e) ∧ Each C X Y xs es
  | _, _ => False
theorem Each.len {X : Cx} {Y : XI} : ∀ {xs : List Ex} {es : List Expr}, Each C X Y xs es → xs.length = es.length
  | [], [], _ => rfl
  | [], _ :: _, h => h.elim
  | _ :: _, [], h => h.elim
  | x :: xs, e :: es, h => by simp [Each.len h.2]
theorem Each.pa {X : Cx} {Y : XI} : ∀ {xs : List Ex} {es : List Expr}, Each C X Y xs es → PA X es (tA X.K Y (evEs C xs))
  | [], [], _ => pA_nil
  | [], _ :: _, h => h.elim
  | _ :: _, [], h => h.elim
  | x :: xs, e :: es, h => pA_cons h.1.2.pe (Each.pa h.2) (star_cons h.1.1)
theorem Each.nostar {X : Cx} {Y : XI} : ∀ {xs : List Ex} {es : List Expr}, Each C X Y xs es → (starEach es X.env).any (·.1) = false
  | [], [], _ => rfl
  | [], _ :: _, h => h.elim
  | _ :: _, [], h => h.elim
  | x :: xs, e :: es, h => by rw [star_cons h.1.1]; simpa using Each.nostar h.2
theorem backTo_none {pos : Pos} {ts : List (Bool × Sem Value)} (h : ts.any (·.1) = false) : (backTo pos ts).any (·.1) = false := by
  unfold backTo
  rw [List.any_map]
  exact h
theorem Each.bt {X : Cx} {Y : XI} {xs : List Ex} {es : List Expr} {pos : Pos} (h : Each C X Y xs es) : (backTo pos (starEach es X.env)).any (·.1) = false := backTo_none h.nostar
theorem len_evEs : ∀ (xs : List Ex), Len (evEs C xs) xs.length
  | [] => fun env S ds S1 h => by
    have h : Rs.ok ([] : List D) S = .ok ds S1 := h
    cases h; rfl
  | x :: xs => fun env S ds S1 h => by
    have h : bnd (evE C x env) (fun d => bnd (evEs C xs env) fun ds => ret (d :: ds)) S = .ok ds S1 := h
    unfold bnd at h
    cases e1 : evE C x env S with
    | no => simp only [e1] at h; cases h
    | exc _ _ _ => simp only [e1] at h; cases h
    | ok d S2 =>
      simp only [e1] at h
      cases e2 : evEs C xs env S2 with
      | no => simp only [e2] at h; cases h
      | exc _ _ _ => simp only [e2] at h; cases h
      | ok ds' S3 =>
        simp only [e2] at h
        have h : Rs.ok (d :: ds') S3 = .ok ds S1 := h
        cases h
        simp [len_evEs xs env S2 ds' _ e2]
/-- a value's test -/
theorem EOk.of {X : Cx} {Y : XI} {x : Ex} {e : Expr} (h : PE X e (tE X.K Y (evE C x))) (he : ∀ whole, isTrue e X.env whole = (do let v ← whole; standAt e.pos; holding [v] (truthy v))) (hb : isBO e = false) : EOk C X Y x e :=
  ⟨h, fun _ => pT_of h he, fun _ z => by rw [hb] at z; cases z⟩
theorem Fit.un {c : CC} {X : Cx} {Y : XI} (f : Fit C k c X Y) : X.A.units + 64 < cLine := by have := f.room.un; omega
theorem boot_bi : ∀ k : Bi, plB k = true → bootBuiltins (biN k) = some (biF k) ∧ okN (biN k) = true ∧ biF k ≠ .none
  | .len, _ => by refine ⟨by decide +kernel, by decide +kernel, fun z => nomatch z⟩
  | .int, _ => by refine ⟨by decide +kernel, by decide +kernel, fun z => nomatch z⟩
  | .abs, _ => by refine ⟨by decide +kernel, by decide +kernel, fun z => nomatch z⟩
  | .max2, _ => by refine ⟨by decide +kernel, by decide +kernel, fun z => nomatch z⟩
  | .min2, _ => by refine ⟨by decide +kernel, by decide +kernel, fun z => nomatch z⟩
  | .maxL, _ => by refine ⟨by decide +kernel, by decide +kernel, fun z => nomatch z⟩
  | .minL, _ => by refine ⟨by decide +kernel, by decide +kernel, fun z => nomatch z⟩
  | .sum, _ => by refine ⟨by decide +kernel, by decide +kernel, fun z => nomatch z⟩
  | .all, _ => by refine ⟨by decide +kernel, by decide +kernel, fun z => nomatch z⟩
  | .any, _ => by refine ⟨by decide +kernel, by decide +kernel, fun z => nomatch z⟩
  | .list, _ => by refine ⟨by decide +kernel, by decide +kernel, fun z => nomatch z⟩
  | .tuple, _ => by refine ⟨by decide +kernel, by decide +kernel, fun z => nomatch z⟩
  | .divmod, _ => by refine ⟨by decide +kernel, by decide +kernel, fun z => nomatch z⟩
  | .repr, _ => by refine ⟨by decide +kernel, by decide +kernel, fun z => nomatch z⟩
  | .sortedI, _ => by refine ⟨by decide +kernel, by decide +kernel, fun z => nomatch z⟩
theorem boot_ty : ∀ t : Ty, t ≠ .tNone → bootBuiltins (Str.ofString (tyName t)) = some (.type (tyName t)) ∧ okN (Str.ofString (tyName t)) = true
  | .tNone, h => absurd rfl h
  | .tBool, _ => by refine ⟨by decide +kernel, by decide +kernel⟩
  | .tInt, _ => by refine ⟨by decide +kernel, by decide +kernel⟩
  | .tStr, _ => by refine ⟨by decide +kernel, by decide +kernel⟩
  | .tTuple, _ => by refine ⟨by decide +kernel, by decide +kernel⟩
  | .tList, _ => by refine ⟨by decide +kernel, by decide +kernel⟩
  | .tDict, _ => by refine ⟨by decide +kernel, by decide +kernel⟩
theorem biF_kind : ∀ k : Bi, biF k ≠ .none → (∃ id, biF k = .builtin id) ∨ ∃ T, biF k = .type T := by
  intro k h
  cases k <;> first | exact absurd rfl h | exact .inl ⟨_, rfl⟩ | exact .inr ⟨_, rfl⟩
/-- a call of a builtin -/
theorem bi_plain {c : CC} {X : Cx} {Y : XI} (f : Fit C k c X Y) (b : Bi) (m : Bool) (hb : plB b = true)
    {es : List Expr} {args : List Ex} {p pos : Pos} (hg : glC c (biN b) = true) (hm : blC c (biN b) = true) (hl : 1 ≤ es.length) (h : Each C X Y args es) : PE X (.Call (.Name (biN b) p) es [] pos) (tE X.K Y (kBi b m (evEs C args))) := by
  obtain ⟨hv, hn, hne⟩ := boot_bi b hb
  obtain ⟨h1, h2, h3⟩ := okN_1 hn
  cases es with
  | nil => simp at hl
  | cons a es =>
    cases args with
    | nil => exact h.elim
    | cons x args =>
    have hs := star_cons (es := es) (env := X.env) h.1.1
    have bt : (backTo pos (starEach es X.env)).any (·.1) = false := Each.bt h.2
    rcases biF_kind b hne with ⟨id, e⟩ | ⟨T, e⟩
    · exact pE_bi b m f.calm f.gd f.un e (f.gl hg) (f.mg hm) (by rw [hv, e]) h.pa h3 h1 hs bt
    · exact pE_biTy b m f.calm f.gd f.un e (f.gl hg) (f.mg hm) (by rw [hv, e]) h.pa h3 h1 hs bt
theorem Each.one {X : Cx} {Y : XI} {xs : List Ex} {e : Expr} (h : Each C X Y xs [e]) : ∃ x, xs = [x] ∧ notStar e = true ∧ EOk C X Y x e := by
  cases xs with
  | nil => exact h.elim
  | cons x xs => cases xs with
    | nil => exact ⟨x, rfl, h.1.1, h.1.2⟩
    | cons _ _ => exact h.2.elim
theorem Each.two {X : Cx} {Y : XI} {xs : List Ex} {e e2 : Expr} (h : Each C X Y xs [e, e2]) : ∃ x y, xs = [x, y] ∧ (notStar e = true ∧ EOk C X Y x e) ∧ (notStar e2 = true ∧ EOk C X Y y e2) := by
  cases xs with
  | nil => exact h.elim
  | cons x xs =>
    obtain ⟨y, rfl, h1, h2⟩ := Each.one h.2
    exact ⟨x, y, rfl, h.1, h1, h2⟩
theorem list1 {α : Type} {l : List α} (h : Nat.beq l.length 1 = true) : ∃ a, l = [a] := by
  have := Nat.eq_of_beq_eq_true h
  match l, this with
  | [a], _ => exact ⟨a, rfl⟩
theorem list2 {α : Type} {l : List α} (h : Nat.beq l.length 2 = true) : ∃ a b, l = [a, b] := by
  have := Nat.eq_of_beq_eq_true h
  match l, this with
  | [a, b], _ => exact ⟨a, b, rfl⟩
theorem list3 {α : Type} {l : List α} (h : Nat.beq l.length 3 = true) : ∃ a b d, l = [a, b, d] := by
  have := Nat.eq_of_beq_eq_true h
  match l, this with
  | [a, b, d], _ => exact ⟨a, b, d, rfl⟩
theorem list12 {α : Type} {l : List α} (h : Nat.ble l.length 2 = true) (h1 : Nat.ble 1 l.length = true) : (∃ a, l = [a]) ∨ ∃ a b, l = [a, b] := by
  rw [Nat.ble_eq] at h h1
  match l, h, h1 with
  | [a], _, _ => exact .inl ⟨a, rfl⟩
  | [a, b], _, _ => exact .inr ⟨a, b, rfl⟩
theorem biA_ok {c : CC} {X : Cx} {Y : XI} (f : Fit C k c X Y) {b : Bi} {m : Bool} {e : Expr} {es : List Expr} {args : List Ex} (h : biA c b e = some es) (he : Each C X Y args es) : PE X e (tE X.K Y (kBi b m (evEs C args))) ∧ ∀ env whole, isTrue e env whole = (do let v ← whole; standAt e.pos; holding [v] (truthy v)) := by
  unfold biA at h
  split at h
  · rename_i x p es0 pos
    refine ⟨?_, fun _ _ => rfl⟩
    have rg : ∀ {es0 es : List Expr} {nm : Str} {p pos : Pos}, rgA c x nm es0 = some es → Each C X Y args es → ∃ r q as, x = nm ∧ es0 = [.Call (.Name "range" r) es [] q] ∧ Fit C k c X Y ∧ glC c nm = true ∧ blC c nm = true ∧ glC c "range" = true ∧ blC c "range" = true ∧ as = es ∧ ((∃ a, es = [a]) ∨ ∃ a b, es = [a, b]) := fun {es0 es nm p pos} h he => by
      unfold rgA at h
      split at h
      · obtain ⟨hh, rfl⟩ := gd_some h
        simp only [Bool.and_eq_true, decide_eq_true_eq] at hh
        obtain ⟨⟨⟨⟨⟨⟨⟨rfl, rfl⟩, h3⟩, h4⟩, h5⟩, h6⟩, h7⟩, h8⟩ := hh
        exact ⟨_, _, _, rfl, rfl, f, h3, h4, h5, h6, rfl, list12 h7 h8⟩
      · cases h
    cases b with
    | listRg =>
      obtain ⟨r, q, as, rfl, rfl, _, h3, h4, h5, h6, rfl, h7⟩ := rg (p := p) (pos := pos) h he
      rcases h7 with ⟨a, rfl⟩ | ⟨a, a2, rfl⟩
      · obtain ⟨x, rfl, n1, o1⟩ := he.one
        exact pE_listRg1 m f.calm (f.gl h3) (f.mg h4) (f.gl h5) (f.mg h6) o1.pe (star_cons n1)
      · obtain ⟨x, y, rfl, ⟨n1, o1⟩, n2, o2⟩ := he.two
        exact pE_listRg2 m f.calm (f.gl h3) (f.mg h4) (f.gl h5) (f.mg h6) o1.pe o2.pe (star_cons n1) (star_cons n2)
    | tupRg =>
      obtain ⟨r, q, as, rfl, rfl, _, h3, h4, h5, h6, rfl, h7⟩ := rg (p := p) (pos := pos) h he
      rcases h7 with ⟨a, rfl⟩ | ⟨a, a2, rfl⟩
      · obtain ⟨x, rfl, n1, o1⟩ := he.one
        exact pE_tupRg1 m f.calm (f.gl h3) (f.mg h4) (f.gl h5) (f.mg h6) o1.pe (star_cons n1)
      · obtain ⟨x, y, rfl, ⟨n1, o1⟩, n2, o2⟩ := he.two
        exact pE_tupRg2 m f.calm (f.gl h3) (f.mg h4) (f.gl h5) (f.mg h6) o1.pe o2.pe (star_cons n1) (star_cons n2)
    | isinst t =>
      have h : isiA c x t es0 = some es := h
      unfold isiA at h
      split at h
      · obtain ⟨hh, rfl⟩ := gd_some h
        simp only [Bool.and_eq_true, decide_eq_true_eq, Bool.not_eq_true', decide_eq_false_iff_not] at hh
        obtain ⟨⟨⟨⟨⟨⟨rfl, h3⟩, h4⟩, rfl⟩, h5⟩, h6⟩, h7⟩ := hh
        obtain ⟨x, rfl, n1, o1⟩ := he.one
        obtain ⟨hv, hn⟩ := boot_ty t h7
        obtain ⟨q1, q2, q3⟩ := okN_1 hn
        exact pE_isi t m (f.gl h3) (f.mg h4) (f.gl h5) (f.mg h6) hv q3 q1 o1.pe (star_cons n1)
      · cases h
    | gcd =>
      have h : gcdA c x es0 = some es := h
      obtain ⟨hh, rfl⟩ := gd_some h
      simp only [Bool.and_eq_true, decide_eq_true_eq, Nat.ble_eq] at hh
      obtain ⟨⟨⟨rfl, h2⟩, h3⟩, h4⟩ := hh
      cases es0 with
      | nil => simp at h4
      | cons a es =>
        cases args with
        | nil => exact he.elim
        | cons x args => exact pE_biFun .gcd m f.calm f.gd f.un rfl (f.gl h3) (f.gc h2) he.pa (by decide +kernel) (star_cons he.1.1) (Each.bt he.2)
    | _ =>
      obtain ⟨hh, rfl⟩ := gd_some h
      simp only [Bool.and_eq_true, decide_eq_true_eq, Nat.ble_eq] at hh
      obtain ⟨⟨⟨⟨h0, rfl⟩, h2⟩, h3⟩, h4⟩ := hh
      exact bi_plain f _ m h0 h2 h3 h4 he
  · cases h
/-- a source -/
theorem srcA_ok {c : CC} {X : Cx} {Y : XI} (f : Fit C k c X Y) {sk : SK} {tg iter : Expr} {es : List Expr} {src : List Ex} (h : srcA c sk tg iter = some es) (he : Each C X Y src es) : PI X tg iter (tSrc X.K Y sk (evEs C src)) := by
  unfold srcA at h
  have sr : ∀ {x nm : Str} {n : Nat} {tp : Bool} {es0 : List Expr}, srG c x nm n tp tg es0 = some es → x = nm ∧ es0 = es ∧ glC c nm = true ∧ blC c nm = true ∧ Nat.beq es.length n = true ∧ (tp = true → isTupE tg = true) := fun {x nm n tp es0} h => by
    obtain ⟨hh, rfl⟩ := gd_some h
    simp only [Bool.and_eq_true, decide_eq_true_eq, Bool.or_eq_true, Bool.not_eq_true'] at hh
    obtain ⟨⟨⟨⟨h1, h2⟩, h3⟩, h4⟩, h5⟩ := hh
    exact ⟨h1, rfl, h2, h3, h4, fun z => h5.resolve_left (by rw [z]; exact Bool.noConfusion)⟩
  cases sk with
  | vl =>
    obtain ⟨h1, rfl⟩ := gd_some h
    obtain ⟨x, rfl, n1, o1⟩ := he.one
    exact pI_vl o1.pe
  | rg1 =>
    dsimp only at h
    split at h
    · obtain ⟨rfl, rfl, h3, h4, h5, _⟩ := sr h
      obtain ⟨a, rfl⟩ := list1 h5
      obtain ⟨x, rfl, n1, o1⟩ := he.one
      exact pI_rg1 (f.gl h3) (f.mg h4) he.pa (star_cons n1)
    · cases h
  | rg2 =>
    dsimp only at h
    split at h
    · obtain ⟨rfl, rfl, h3, h4, h5, _⟩ := sr h
      obtain ⟨a, b, rfl⟩ := list2 h5
      obtain ⟨x, y, rfl, ⟨n1, o1⟩, n2, o2⟩ := he.two
      exact pI_rg2 (f.gl h3) (f.mg h4) he.pa (star_cons n1) (star_cons n2)
    · cases h
  | en =>
    dsimp only at h
    split at h
    · obtain ⟨rfl, rfl, h3, h4, h5, h6⟩ := sr h
      have h6 := h6 rfl
      obtain ⟨a, rfl⟩ := list1 h5
      obtain ⟨x, rfl, n1, o1⟩ := he.one
      cases tg with
      | Tuple elts kk tpos => exact pI_en (f.gl h3) (f.mg h4) he.pa (star_cons n1)
      | _ => cases h6
    · cases h
  | zp =>
    dsimp only at h
    split at h
    · obtain ⟨rfl, rfl, h3, h4, h5, h6⟩ := sr h
      have h6 := h6 rfl
      obtain ⟨a, b, rfl⟩ := list2 h5
      obtain ⟨x, y, rfl, ⟨n1, o1⟩, n2, o2⟩ := he.two
      cases tg with
      | Tuple elts kk tpos => exact pI_zp (f.gl h3) (f.mg h4) he.pa (star_cons n1) (star_cons n2)
      | _ => cases h6
    · cases h
  | zp3 =>
    dsimp only at h
    split at h
    · obtain ⟨rfl, rfl, h3, h4, h5, h6⟩ := sr h
      have h6 := h6 rfl
      obtain ⟨a, b, d, rfl⟩ := list3 h5
      cases src with
      | nil => exact he.elim
      | cons x src =>
      obtain ⟨y, z, rfl, ⟨n2, o2⟩, n3, o3⟩ := Each.two he.2
      cases tg with
      | Tuple elts kk tpos => exact pI_zp3 (f.gl h3) (f.mg h4) he.pa (star_cons he.1.1) (star_cons n2) (star_cons n3)
      | _ => cases h6
    · cases h
  | enzp =>
    dsimp only at h
    split at h <;> cases h
/-- a comprehension's parts -/
structure LcOk (C : Ctx) (X : Cx) (Y : XI) (own : List Nat) (t : Tn) (sk : SK) (src ifs : List Ex) (x : Ex) (elt tg iter : Expr) (ifs' : List Expr) (scope : Scope) : Prop where
  blk : BlkOk X.N X.env.scope scope (ownP X.N own)
  owne : (ownP X.N own).map (·.2) = own
  sub : ∀ i, i ∈ t.names → i ∈ own
  src : PI X tg iter (tSrc X.K Y sk (evEs C src))
  tg : ∀ (s : Shared) (H : Hp) (Ca : Addr) (cl : List (Str × Addr)) (fp : List Addr), PG (X.blk s H scope (compEnvC scope cl Ca X.env) fp) tg (tG X.K t)
  ifs : ∀ (s : Shared) (H : Hp) (Ca : Addr) (cl : List (Str × Addr)) (fp : List Addr), PTs (X.blk s H scope (compEnvC scope cl Ca X.env) fp) ifs' (tT X.K Y.nox (evT C ifs))
  elt : ∀ (s : Shared) (H : Hp) (Ca : Addr) (cl : List (Str × Addr)) (fp : List Addr), PE (X.blk s H scope (compEnvC scope cl Ca X.env) fp) elt (tE X.K Y.nox (evE C x))
  ns : notSet iter = true
theorem LcOk.pe {X : Cx} {Y : XI} {own : List Nat} {t : Tn} {sk : SK} {src ifs : List Ex} {x : Ex} {elt tg iter : Expr} {ifs' : List Expr} {scope : Scope} {pos : Pos} {m : Bool} (h : LcOk C X Y own t sk src ifs x elt tg iter ifs' scope) (hc : X.calm = true) (hN : X.N.Nodup) :
    PE X (.ListComp elt [⟨tg, iter, ifs', 0⟩] scope pos) (tE X.K Y (kComp m own t sk (evEs C src) (evT C ifs) (evE C x))) :=
  Ev.PE.imp (pe_lc hc hN h.src h.blk h.tg h.ifs h.elt fun _ => folded_notSet h.ns) fun σ H Q q => by
    rw [h.owne]; exact comp_wp h.sub q
structure LcOk2 (C : Ctx) (X : Cx) (Y : XI) (own : List Nat) (t : Tn) (sk : SK) (src ifs : List Ex) (own1 : List Nat) (t1 : Tn) (sk1 : SK) (src1 ifs1 : List Ex) (x : Ex) (elt tg iter tg1 iter1 : Expr) (ifs' ifs1' : List Expr) (scope : Scope) : Prop where
  blk : BlkOk X.N X.env.scope scope (ownP X.N own)
  owne : (ownP X.N own).map (·.2) = own
  sub : ∀ i, i ∈ t.names → i ∈ own
  sub0 : ∀ i, i ∈ own1 → i ∈ (ownP X.N own).map (·.2)
  sub1 : ∀ i, i ∈ t1.names → i ∈ own1
  src : PI X tg iter (tSrc X.K Y sk (evEs C src))
  tg : ∀ (s : Shared) (H : Hp) (Ca : Addr) (cl : List (Str × Addr)) (fp : List Addr), PG (X.blk s H scope (compEnvC scope cl Ca X.env) fp) tg (tG X.K t)
  ifs : ∀ (s : Shared) (H : Hp) (Ca : Addr) (cl : List (Str × Addr)) (fp : List Addr), PTs (X.blk s H scope (compEnvC scope cl Ca X.env) fp) ifs' (tT X.K Y.nox (evT C ifs))
  src1 : ∀ (s : Shared) (H : Hp) (Ca : Addr) (cl : List (Str × Addr)) (fp : List Addr), PI (X.blk s H scope (compEnvC scope cl Ca X.env) fp) tg1 iter1 (tSrc X.K Y.nox sk1 (evEs C src1))
  tg1 : ∀ (s : Shared) (H : Hp) (Ca : Addr) (cl : List (Str × Addr)) (fp : List Addr), PG (X.blk s H scope (compEnvC scope cl Ca X.env) fp) tg1 (tG X.K t1)
  ifs1 : ∀ (s : Shared) (H : Hp) (Ca : Addr) (cl : List (Str × Addr)) (fp : List Addr), PTs (X.blk s H scope (compEnvC scope cl Ca X.env) fp) ifs1' (tT X.K Y.nox (evT C ifs1))
  elt : ∀ (s : Shared) (H : Hp) (Ca : Addr) (cl : List (Str × Addr)) (fp : List Addr), PE (X.blk s H scope (compEnvC scope cl Ca X.env) fp) elt (tE X.K Y.nox (evE C x))
  ns : notSet iter = true
  ns1 : notSet iter1 = true
theorem LcOk2.pe {X : Cx} {Y : XI} {own : List Nat} {t : Tn} {sk : SK} {src ifs : List Ex} {own1 : List Nat} {t1 : Tn} {sk1 : SK} {src1 ifs1 : List Ex} {x : Ex} {elt tg iter tg1 iter1 : Expr} {ifs' ifs1' : List Expr} {scope : Scope} {pos : Pos} {m : Bool} (h : LcOk2 C X Y own t sk src ifs own1 t1 sk1 src1 ifs1 x elt tg iter tg1 iter1 ifs' ifs1' scope) (hc : X.calm = true) (hN : X.N.Nodup) :
    PE X (.ListComp elt [⟨tg, iter, ifs', 0⟩, ⟨tg1, iter1, ifs1', 0⟩] scope pos) (tE X.K Y (kComp2 m own t sk (evEs C src) (evT C ifs) own1 t1 sk1 (evEs C src1) (evT C ifs1) (evE C x))) :=
  Ev.PE.imp (pe_lc2 hc hN h.src h.blk h.sub0 h.tg h.ifs h.src1 h.tg1 h.ifs1 h.elt (fun _ => folded_notSet h.ns) fun _ _ => folded_notSet h.ns1) fun σ H Q q => by
    rw [h.owne]; exact comp2_wp h.sub h.sub1 q
theorem sub2_ok {l own : List Nat} (h : sub2 l own = true) : ∀ i, i ∈ l → i ∈ own := fun i hi => by
  unfold sub2 at h
  rw [List.all_eq_true] at h
  obtain ⟨j, hj, e⟩ := List.any_eq_true.mp (h i hi)
  rw [Nat.eq_of_beq_eq_true e]; exact hj
theorem ownP_snd (N : List Str) (own : List Nat) : (ownP N own).map (·.2) = own := by
  unfold ownP
  rw [List.map_map]
  exact List.map_id _

theorem noPar_ok {ps : Arguments} (h : noPar ps = true) : ps = ⟨[], [], none, [], [], none, []⟩ := by
  unfold noPar at h
  split at h
  · rfl
  · cases h
theorem kCall_stk {K : PySem.W.Frag} {Y : XI} {σ : L2.St} {H : Hp} {Q : VK} : ¬ tE K Y (fun _ => stk) σ H Q := fun ⟨_, _, _, _, _, _, hw⟩ => hw.elim
/-- the lambda's own context -/
theorem Fit.lmd {c : CC} {X : Cx} {Y : XI} {j : Nat} {cl : Nat → List D → M D} {scope : Scope} (f : Fit C k c X Y) (L : LamX.LamS X.env.scope scope) (hf : ∀ g x, c.gs[g]? = some (x, true) → ∃ f fd ps, X.mg x = some (.ref f) ∧ PySem.W.keepIn X.K (.ref f) = true ∧ Binds X.K fd ps [] ∧ FnOkG X.prog X.w X.K X.mg X.base (L2.CX X.prog X.w) (j + 2) f fd ps (spF X.K Y.m (cl g)))
    {A : Around} {outer : List PySem.Env} {s : Shared} {H : Hp} {E : XK} {fa c' : Addr} (hr : Room (j + 2) (A.deeper (LamX.lamEnv X scope s.heap.objs.size fa c'))) (hg : (A.deeper (LamX.lamEnv X scope s.heap.objs.size fa c')).guards = some []) :
    Fit { C with cl := cl, cm := none } j (c.lmd scope) (LamX.lamCx X A outer s H E scope fa c') ⟨X.mg, Y.xt, E⟩ where
  tk := takes_of rfl rfl rfl rfl
  N := f.N
  nd := f.nd
  sc := rfl
  kd := L.kind
  fn := fun x h => absurd rfl (L.own _ (PySem.mem_of_lookup h)).2
  calm := rfl
  room := hr
  gd := hg
  ymg := rfl
  lam := fun x h => by cases h
  bl := f.bl
  gc := f.gc
  fns := by
    have e : (⟨X.mg, Y.xt, E⟩ : XI).m = Y.m := by unfold XI.m; rw [f.ymg]
    rw [e]
    exact hf
  cns := f.cns
  low := fun cl h => by cases h
  ms := f.ms
  xg := f.xg
  xt := f.xt
  fvs := f.fvs
  fvi := f.fvi
  rp0 := f.rp0
  uq := f.uq
mutual
theorem sound : ∀ (x : Ex) (c : CC) (e : Expr), chkE c x e = true → ∀ X Y {C : Ctx} {k : Nat}, Fit C k c X Y → EOk C X Y x e
  | .int i, c, e, h, X, Y, C, k, f => by
    unfold chkE at h
    split at h
    · rw [decide_eq_true_eq] at h; subst h
      exact .of pE_int (fun _ => rfl) rfl
    · cases h
  | .bl b, c, e, h, X, Y, C, k, f => by
    unfold chkE at h
    split at h
    · have := eq_of_beq h; subst this
      exact .of pE_bl (fun _ => rfl) rfl
    · cases h
  | .non, c, e, h, X, Y, C, k, f => by
    unfold chkE at h
    split at h
    · exact .of pE_non (fun _ => rfl) rfl
    · cases h
  | .str s, c, e, h, X, Y, C, k, f => by
    unfold chkE at h
    split at h
    · rw [decide_eq_true_eq] at h; subst h
      exact .of pE_str (fun _ => rfl) rfl
    · cases h
  | .var i, c, e, h, X, Y, C, k, f => by
    unfold chkE at h
    split at h
    · simp only [Bool.and_eq_true, decide_eq_true_eq, nth_eq] at h
      have q := okN_1 h.2
      exact .of (pE_var (by rw [f.N]; exact h.1.1) (f.vis h.1.2) q.1 q.2.1) (fun _ => rfl) rfl
    · cases h
  | .gl g, c, e, h, X, Y, C, k, f => by
    unfold chkE at h
    split at h
    · simp only [Bool.and_eq_true, decide_eq_true_eq, nth_eq] at h
      have q := okN_1 h.2
      obtain ⟨v, u, h1, h2, h3⟩ := f.cns g _ h.1.1
      exact .of (pE_glob (f.gl h.1.2) h1 h2 h3 q.1) (fun _ => rfl) rfl
    · cases h
  | .bin o m a b, c, e, h, X, Y, C, k, f => by
    unfold chkE at h
    split at h
    · simp only [Bool.and_eq_true, decide_eq_true_eq] at h
      obtain ⟨⟨rfl, ha⟩, hb⟩ := h
      exact .of (pE_bin o m (sound a c _ ha X Y f).pe (sound b c _ hb X Y f).pe) (fun _ => rfl) rfl
    · cases h
  | .neg a, c, e, h, X, Y, C, k, f => by
    unfold chkE at h
    split at h
    · exact .of (pE_neg (sound a c _ h X Y f).pe) (fun _ => rfl) rfl
    · cases h
  | .not a, c, e, h, X, Y, C, k, f => by
    unfold chkE at h
    split at h
    · have q := sound a c _ h X Y f
      exact ⟨pE_not q.pe, fun z => pT_not (q.pt z), fun _ z => by cases z⟩
    · cases h
  | .and a r, c, e, h, X, Y, C, k, f => by
    unfold chkE at h
    split at h
    · simp only [Bool.and_eq_true] at h
      rename_i a' b' pos
      have q := sound a c _ h.1 X Y f
      have q2 := sound r c _ h.2 X Y f
      have pw : tOk (.and a r) = true → PW X (.BoolOp .And [a', b'] pos) (tT X.K Y (evE C (.and a r))) := fun z => by
        have z : (tOk a && tOk r) = true := z
        rw [Bool.and_eq_true] at z
        exact pW_and (q.pt z.1) (pW_and1 (q2.pt z.2))
      exact ⟨pE_and q.pe (pe_one q2.pe), fun z => (pw z).pt, fun z _ => pw z⟩
    · simp only [Bool.and_eq_true] at h
      rename_i a' b' d' rest pos
      have q := sound a c _ h.1.2 X Y f
      have q2 := sound r c _ h.2 X Y f
      have pw : tOk (.and a r) = true → PW X (.BoolOp .And (a' :: b' :: d' :: rest) pos) (tT X.K Y (evE C (.and a r))) := fun z => by
        have z : (tOk a && tOk r) = true := z
        rw [Bool.and_eq_true] at z
        exact pW_and (q.pt z.1) (q2.pw z.2 rfl)
      exact ⟨pE_and q.pe q2.pe, fun z => (pw z).pt, fun z _ => pw z⟩
    · cases h
  | .or a r, c, e, h, X, Y, C, k, f => by
    unfold chkE at h
    split at h
    · simp only [Bool.and_eq_true] at h
      rename_i a' b' pos
      have q := sound a c _ h.1 X Y f
      have q2 := sound r c _ h.2 X Y f
      have pw : tOk (.or a r) = true → PW X (.BoolOp .Or [a', b'] pos) (tT X.K Y (evE C (.or a r))) := fun z => by
        have z : (tOk a && tOk r) = true := z
        rw [Bool.and_eq_true] at z
        exact pW_or (q.pt z.1) (pW_or1 (q2.pt z.2))
      exact ⟨pE_or q.pe (pe_one q2.pe), fun z => (pw z).pt, fun z _ => pw z⟩
    · simp only [Bool.and_eq_true] at h
      rename_i a' b' d' rest pos
      have q := sound a c _ h.1.2 X Y f
      have q2 := sound r c _ h.2 X Y f
      have pw : tOk (.or a r) = true → PW X (.BoolOp .Or (a' :: b' :: d' :: rest) pos) (tT X.K Y (evE C (.or a r))) := fun z => by
        have z : (tOk a && tOk r) = true := z
        rw [Bool.and_eq_true] at z
        exact pW_or (q.pt z.1) (q2.pw z.2 rfl)
      exact ⟨pE_or q.pe q2.pe, fun z => (pw z).pt, fun z _ => pw z⟩
    · cases h
  | .cmp o a b, c, e, h, X, Y, C, k, f => by
    unfold chkE at h
    split at h
    · simp only [Bool.and_eq_true, decide_eq_true_eq, Bool.not_eq_true'] at h
      obtain ⟨⟨⟨rfl, ha⟩, hb⟩, hm⟩ := h
      have qa := (sound a c _ ha X Y f).pe
      have qb := (sound b c _ hb X Y f).pe
      exact ⟨pE_cmp o f.un qa qb hm, fun _ => pT_cmp o f.un qa qb hm, fun _ z => by cases z⟩
    · cases h
  | .chain o o' a b d, c, e, h, X, Y, C, k, f => by
    unfold chkE at h
    split at h
    · simp only [Bool.and_eq_true, decide_eq_true_eq, Bool.not_eq_true'] at h
      obtain ⟨⟨⟨⟨⟨rfl, rfl⟩, ha⟩, hb⟩, hd⟩, hm⟩ := h
      have qa := (sound a c _ ha X Y f).pe
      have qb := (sound b c _ hb X Y f).pe
      have qd := (sound d c _ hd X Y f).pe
      exact ⟨pE_chain o o' f.un qa qb qd hm, fun _ => pT_chain o o' f.un qa qb qd hm, fun _ z => by cases z⟩
    · cases h
  | .ite q a b, c, e, h, X, Y, C, k, f => by
    unfold chkE at h
    split at h
    · simp only [Bool.and_eq_true] at h
      obtain ⟨⟨⟨h1, hq⟩, ha⟩, hb⟩ := h
      exact ⟨pE_ite (tT0 := kRet .non) ((sound q c _ hq X Y f).pt h1) (sound a c _ ha X Y f).pe (sound b c _ hb X Y f).pe, fun z => Bool.noConfusion (show false = true from z), fun z => Bool.noConfusion (show false = true from z)⟩
    · cases h
  | .tup xs, c, e, h, X, Y, C, k, f => by
    unfold chkE at h
    split at h
    · simp only [Bool.and_eq_true, Nat.ble_eq] at h
      have q := sounds xs c _ h.2 X Y f
      exact .of (pE_tup q.pa (len_evEs xs) (by rw [q.len]; have := h.1; have e : sizeLine = 2 ^ 24 := rfl; rw [e]; omega)) (fun _ => rfl) rfl
    · cases h
  | .lst m xs, c, e, h, X, Y, C, k, f => by
    unfold chkE at h
    split at h
    · simp only [Bool.and_eq_true, Nat.ble_eq] at h
      have q := sounds xs c _ h.2 X Y f
      exact .of (pE_lst m q.pa (len_evEs xs) (by rw [q.len]; have := h.1; have e : sizeLine = 2 ^ 24 := rfl; rw [e]; omega)) (fun _ => rfl) rfl
    · cases h
  | .tupS fs xs, c, e, h, X, Y, C, k, f => by
    unfold chkE at h
    split at h
    · exact .of (pE_tupS (soundFs xs fs c _ h X Y f)) (fun _ => rfl) rfl
    · cases h
  | .lstS m fs xs, c, e, h, X, Y, C, k, f => by
    unfold chkE at h
    split at h
    · exact .of (pE_lstS m (soundFs xs fs c _ h X Y f)) (fun _ => rfl) rfl
    · cases h
  | .ix a b, c, e, h, X, Y, C, k, f => by
    unfold chkE at h
    split at h
    · simp only [Bool.and_eq_true] at h
      exact .of (pE_ix (sound a c _ h.1.2 X Y f).pe (sound b c _ h.2 X Y f).pe (plain_notSlice h.1.1)) (fun _ => rfl) rfl
    · cases h
  | .slA m a, c, e, h, X, Y, C, k, f => by
    unfold chkE at h
    split at h
    · exact .of (pE_slA m (sound a c _ h X Y f).pe) (fun _ => rfl) rfl
    · cases h
  | .slL m a b, c, e, h, X, Y, C, k, f => by
    unfold chkE at h
    split at h
    · simp only [Bool.and_eq_true] at h
      exact .of (pE_slL m (sound a c _ h.1 X Y f).pe (sound b c _ h.2 X Y f).pe) (fun _ => rfl) rfl
    · cases h
  | .slH m a b, c, e, h, X, Y, C, k, f => by
    unfold chkE at h
    split at h
    · simp only [Bool.and_eq_true] at h
      exact .of (pE_slH m (sound a c _ h.1 X Y f).pe (sound b c _ h.2 X Y f).pe) (fun _ => rfl) rfl
    · cases h
  | .slLH m a b d, c, e, h, X, Y, C, k, f => by
    unfold chkE at h
    split at h
    · simp only [Bool.and_eq_true] at h
      exact .of (pE_slLH m (sound a c _ h.1.1 X Y f).pe (sound b c _ h.1.2 X Y f).pe (sound d c _ h.2 X Y f).pe) (fun _ => rfl) rfl
    · cases h
  | .rev m a, c, e, h, X, Y, C, k, f => by
    unfold chkE at h
    split at h
    · simp only [Bool.and_eq_true, decide_eq_true_eq] at h
      obtain ⟨rfl, h⟩ := h
      exact .of (pE_rev m (sound a c _ h X Y f).pe) (fun _ => rfl) rfl
    · cases h
  | .call g args, c, e, h, X, Y, C, k, f => by
    unfold chkE at h
    split at h
    · simp only [Bool.and_eq_true, decide_eq_true_eq, nth_eq] at h
      obtain ⟨⟨⟨h1, h2⟩, h3⟩, h4⟩ := h
      have q := sounds args c _ h4 X Y f
      obtain ⟨fa, fd, ps, m1, m2, m3, m4⟩ := f.fns g _ h1
      have n := okN_1 h3
      refine .of ?_ (fun _ => rfl) rfl
      revert q
      rename_i es pos
      intro q
      cases args with
      | nil => cases es with
        | nil => exact pE_call0 f.tk m4 f.room f.gd (f.gl h2) m1 m2 m3 n.1
        | cons _ _ => exact q.elim
      | cons x args => cases es with
        | nil => exact q.elim
        | cons e es => exact pE_call f.tk m4 f.room f.gd (f.gl h2) m1 m2 m3 q.pa n.1 (star_cons q.1.1) (Each.bt q.2)
    · cases h
  | .pcall g args, c, e, h, X, Y, C, k, f => by
    unfold chkE at h
    split at h
    · simp only [Bool.and_eq_true, decide_eq_true_eq, nth_eq] at h
      obtain ⟨⟨⟨h1, h2⟩, h3⟩, h4⟩ := h
      have q := sounds args c _ h4 X Y f
      obtain ⟨fa, fd, ps, m1, m2, m3, m4⟩ := f.fns g _ h1
      have n := okN_1 h3
      refine .of ?_ (fun _ => rfl) rfl
      revert q
      rename_i es pos
      intro q
      cases args with
      | nil => cases es with
        | nil => exact pE_call0 f.tk (m4.imp fun _ _ _ _ q => spF_pure q) f.room f.gd (f.gl h2) m1 m2 m3 n.1
        | cons _ _ => exact q.elim
      | cons x args => cases es with
        | nil => exact q.elim
        | cons e es => exact pE_call f.tk (m4.imp fun _ _ _ _ q => spF_pure q) f.room f.gd (f.gl h2) m1 m2 m3 q.pa n.1 (star_cons q.1.1) (Each.bt q.2)
    · cases h
  | .bi b m args, c, e, h, X, Y, C, k, f => by
    unfold chkE at h
    split at h
    · rename_i es he
      have q := biA_ok (m := m) f he (sounds args c _ h X Y f)
      refine ⟨q.1, fun _ => pT_of q.1 (q.2 X.env), fun _ z => ?_⟩
      unfold biA at he
      split at he
      · cases z
      · cases he
    · cases h
  | .mt mk o args, c, e, h, X, Y, C, k, f => by
    unfold chkE at h
    split at h
    · simp only [Bool.and_eq_true, decide_eq_true_eq] at h
      obtain ⟨⟨⟨⟨⟨rfl, h2⟩, h3⟩, h4⟩, h5⟩, h6⟩ := h
      have q := (sound o c _ h5 X Y f).pe
      have qs := sounds args c _ h6 X Y f
      refine .of ?_ (fun _ => rfl) rfl
      cases mk with
      | append =>
        obtain ⟨a, rfl⟩ := list1 h2
        obtain ⟨x, rfl, n1, o1⟩ := qs.one
        exact pE_append q o1.pe (base_notCall h3) h4 (star_cons n1)
      | extend =>
        obtain ⟨a, rfl⟩ := list1 h2
        obtain ⟨x, rfl, n1, o1⟩ := qs.one
        exact pE_extend q o1.pe (base_notCall h3) h4 (star_cons n1)
      | pop =>
        rename_i es _
        have : es = [] := List.eq_nil_of_length_eq_zero (Nat.eq_of_beq_eq_true h2)
        subst this
        cases args with
        | nil => exact pE_pop q (base_notCall h3) h4
        | cons _ _ => exact qs.elim
      | bits =>
        rename_i es _
        have : es = [] := List.eq_nil_of_length_eq_zero (Nat.eq_of_beq_eq_true h2)
        subst this
        cases args with
        | nil => exact pE_bits q (base_notCall h3) h4
        | cons _ _ => exact qs.elim
    · cases h
  | .met hs fin mi g args, c, e, h, X, Y, C, k, f => by
    unfold chkE at h
    split at h
    · rename_i x p1 ps y p2 es p3 scope lpos pos
      simp only [Bool.and_eq_true, decide_eq_true_eq, nth_eq] at h
      obtain ⟨⟨⟨⟨⟨⟨⟨⟨⟨h1, h2⟩, h3⟩, h4⟩, h5⟩, h6⟩, h7⟩, h8⟩, h9⟩, h10⟩ := h
      have n := okN_1 h3
      have n2 := okN_1 h9
      have L := LamX.lamS_by h5
      rw [← f.sc] at L
      cases noPar_ok h6
      refine .of ?_ (fun _ => rfl) rfl
      cases ecm : C.cm with
      | none =>
        refine ⟨fun pins s σ H Q I q => ?_⟩
        have q : tE X.K Y (evE C (.met hs fin mi g args)) σ H Q := q
        unfold evE at q
        rw [ecm] at q
        exact (kCall_stk q).elim
      | some cl =>
        obtain ⟨j, rfl, hlow⟩ := f.low cl ecm
        obtain ⟨xl, exl⟩ := Option.isSome_iff_exists.mp h4
        obtain ⟨lq, lx, cd, P, lt, lc, lb⟩ := f.lam xl exl
        obtain ⟨gm, fdm, st, a, nn, m1, m2, m3, m4, m5, m6⟩ := f.ms mi x hs fin h1
        have hmT : (P, X.env.qual ++ "<lambda>") ∈ tbOf X.K := by
          unfold tbOf
          refine List.mem_filterMap.mpr ⟨xl, lx, ?_⟩
          rw [lt, lq]; rfl
        have ee : evE C (.met hs fin mi g args) = kMetP hs fin (cl g) (evEs { C with cl := cl, cm := none } args) := by
          conv => lhs; unfold evE
          rw [ecm]
        rw [ee]
        refine Ev.PE.imp (pE_met (ev := kCall (pureC (cl g)) (evEs { C with cl := cl, cm := none } args)) f.xg f.rp0 f.gd f.room (f.gl h2) m1 m2 n.1 m3 m4 m5 m6 lb lc hmT (fun q hq e => f.uq q hq _ hmT e) L rfl (fun _ _ _ _ _ => rfl) fun A outer s H E fa c' hr hg => ?_) fun σ H Q h => metP_met h
        have f' := f.lmd (E := E) (outer := outer) (s := s) (H := H) L hlow hr hg
        have q := sounds args _ _ h10 _ _ f'
        obtain ⟨fb, fd, ps, w1, w2, w3, w4⟩ := f'.fns g y h7
        cases args with
        | nil => cases es with
          | nil => exact pE_call0 f'.tk (w4.imp fun _ _ _ _ q => spF_pure q) f'.room f'.gd (f'.gl h8) w1 w2 w3 n2.1
          | cons _ _ => exact q.elim
        | cons x args => cases es with
          | nil => exact q.elim
          | cons e es => exact pE_call f'.tk (w4.imp fun _ _ _ _ q => spF_pure q) f'.room f'.gd (f'.gl h8) w1 w2 w3 q.pa n2.1 (star_cons q.1.1) (Each.bt q.2)
    · cases h
  | .fnv g, c, e, h, X, Y, C, k, f => by
    unfold chkE at h
    split at h
    · simp only [Bool.and_eq_true, decide_eq_true_eq, nth_eq] at h
      have q := okN_1 h.2
      obtain ⟨fa, fd, ps, h1, h2, h3, h4⟩ := f.fns g _ h.1.1
      refine .of ?_ (fun _ => rfl) rfl
      exact pE_glob (o := some (.gl g)) (v := .ref fa) (f.gl h.1.2) h1 rfl (fun d e mu F H => by cases e; exact .gl (f.fvi g _ fa h.1.1 h1)) q.1
    · cases h
  | .emp, c, e, h, X, Y, C, k, f => by
    unfold chkE at h
    split at h
    · refine ⟨Ev.PE.imp pe_dnewK fun σ H Q q => ?_, fun z => Bool.noConfusion (show false = true from z), fun z => Bool.noConfusion (show false = true from z)⟩
      obtain ⟨env, mu, F, S, he, hg, hw⟩ := q
      have hw : Po X.K mu F H Q .opq S := hw
      exact fun p hp => hw _ _ mu (Xt.new hp) (hg.new hp) (.opq ⟨upd_same, hg.live.notin hp, fun hf => hg.live.fne hf hp⟩)
    · cases h
  | .dlen own t sk src x, c, e, h, X, Y, C, k, f => by
    unfold chkE at h
    split at h
    · simp only [Bool.and_eq_true, decide_eq_true_eq] at h
      obtain ⟨⟨⟨⟨⟨⟨⟨⟨rfl, h1⟩, h2⟩, h3⟩, h4⟩, h5⟩, h6⟩, h7⟩, h8⟩ := h
      rename_i kx _ _ tg iter scope _ _
      split at h7
      · rename_i es hes
        have bo := blkOk_by h4
        refine ⟨dlen_pe f.calm f.nd (f.gl h1) (f.mg h2) (by rw [f.N, f.sc]; exact bo) (ownP_snd _ _) (sub2_ok h6) (srcA_ok f hes (sounds src c _ h7 X Y f)) (fun s H Ca cl fp => chkT_ok (f.blk bo.kind s H Ca cl fp) h5) (fun s H Ca cl fp => (sound x _ _ h8 _ _ (f.blk bo.kind s H Ca cl fp)).pe) (fun _ => folded_notSet h3), fun z => Bool.noConfusion (show false = true from z), fun z => Bool.noConfusion (show false = true from z)⟩
      · cases h7
    · cases h
  | .metV hs fin mi vi args, c, e, h, X, Y, C, k, f => by
    unfold chkE at h
    split at h
    · rename_i x p1 ps y p2 es p3 scope lpos pos
      simp only [Bool.and_eq_true, decide_eq_true_eq, nth_eq] at h
      obtain ⟨⟨⟨⟨⟨⟨⟨⟨⟨⟨h1, h2⟩, h3⟩, h4⟩, h5⟩, h6⟩, h7⟩, h8⟩, h9⟩, h11⟩, h10⟩ := h
      have n := okN_1 h3
      have n2 := okN_1 h9
      have L := LamX.lamS_by h5
      rw [← f.sc] at L
      cases noPar_ok h6
      refine .of ?_ (fun _ => rfl) rfl
      cases ecm : C.cm with
      | none =>
        refine ⟨fun pins s σ H Q I q => ?_⟩
        have q : tE X.K Y (evE C (.metV hs fin mi vi args)) σ H Q := q
        unfold evE at q
        rw [ecm] at q
        exact (kCall_stk q).elim
      | some cl =>
        obtain ⟨j, rfl, hlow⟩ := f.low cl ecm
        obtain ⟨xl, exl⟩ := Option.isSome_iff_exists.mp h4
        obtain ⟨lq, lx, cd, P, lt, lc, lb⟩ := f.lam xl exl
        obtain ⟨gm, fdm, st, a, nn, m1, m2, m3, m4, m5, m6⟩ := f.ms mi x hs fin h1
        have hmT : (P, X.env.qual ++ "<lambda>") ∈ tbOf X.K := by
          unfold tbOf
          refine List.mem_filterMap.mpr ⟨xl, lx, ?_⟩
          rw [lt, lq]; rfl
        have ee : evE C (.metV hs fin mi vi args) = kMetV hs fin cl vi (evEs { C with cl := cl, cm := none } args) := by
          conv => lhs; unfold evE
          rw [ecm]
        rw [ee]
        refine Ev.PE.imp (pE_met (ev := kCallV (fun g => pureC (cl g)) vi (evEs { C with cl := cl, cm := none } args)) f.xg f.rp0 f.gd f.room (f.gl h2) m1 m2 n.1 m3 m4 m5 m6 lb lc hmT (fun q hq e => f.uq q hq _ hmT e) L rfl (fun _ _ _ _ _ => rfl) fun A outer s H E fa c' hr hg => ?_) fun σ H Q h => metV_met h
        have f' := f.lmd (E := E) (outer := outer) (s := s) (H := H) L hlow hr hg
        have q := sounds args _ _ h10 _ _ f'
        cases args with
        | nil => cases es with
          | nil => cases h11
          | cons _ _ => exact q.elim
        | cons x args => cases es with
          | nil => exact q.elim
          | cons e es =>
            refine pE_callV f'.tk f'.room f'.gd (by rw [f'.N]; exact h7) (f'.vis h8) (fun g fa hfv => ?_) q.pa n2.1 n2.2.1 (star_cons q.1.1) (Each.bt q.2)
            obtain ⟨x', hx1, hx2⟩ := f'.fvs g fa hfv
            obtain ⟨fb, fd, ps, w1, w2, w3, w4⟩ := f'.fns g x' hx1
            rw [hx2] at w1
            cases w1
            exact ⟨w2, fd, ps, w3, w4.imp fun _ _ _ _ q => spF_pure q⟩
    · cases h
  | .memo n x, c, e, h, X, Y, C, k, f => by
    unfold chkE at h
    have q := (sound x c _ h X Y f).pe
    exact ⟨Ev.PE.imp q fun σ H Q h => memo_rd h, fun z => Bool.noConfusion (show false = true from z), fun z => Bool.noConfusion (show false = true from z)⟩
  | .comp m own t sk src ifs x, c, e, h, X, Y, C, k, f => by
    unfold chkE at h
    split at h
    · simp only [Bool.and_eq_true] at h
      obtain ⟨⟨⟨⟨⟨⟨⟨h1, h2⟩, h3⟩, h4⟩, h5⟩, h6⟩, h7⟩, h8⟩ := h
      rename_i elt tg iter ifs' scope pos
      split at h6
      · rename_i es hes
        have bo := blkOk_by h2
        have lc : LcOk C X Y own t sk src ifs x elt tg iter ifs' scope := by
          refine ⟨by rw [f.N, f.sc]; exact bo, ownP_snd _ _, sub2_ok h4, srcA_ok f hes (sounds src c _ h6 X Y f), fun s H Ca cl fp => chkT_ok (f.blk bo.kind s H Ca cl fp) h3, fun s H Ca cl fp => ?_, fun s H Ca cl fp => (sound x _ _ h8 _ _ (f.blk bo.kind s H Ca cl fp)).pe, h1⟩
          have q := sounds ifs _ _ h7 _ _ (f.blk bo.kind s H Ca cl fp)
          cases ifs with
          | nil => cases ifs' with
            | nil => exact pTs_nil
            | cons _ _ => exact q.elim
          | cons a r => cases r with
            | nil => cases ifs' with
              | nil => exact q.elim
              | cons b r' => cases r' with
                | nil => exact pTs_one (q.1.2.pt h5)
                | cons _ _ => exact q.2.elim
            | cons _ _ => cases h5
        exact .of (lc.pe f.calm f.nd) (fun _ => rfl) rfl
      · cases h6
    · cases h
  | .comp2 m own t sk src ifs own1 t1 sk1 src1 ifs1 x, c, e, h, X, Y, C, k, f => by
    unfold chkE at h
    split at h
    · simp only [Bool.and_eq_true] at h
      obtain ⟨⟨⟨⟨⟨⟨⟨⟨⟨⟨⟨⟨⟨⟨h1, h2⟩, h3⟩, h4⟩, h5⟩, h6⟩, h7⟩, h8⟩, h9⟩, h10⟩, h11⟩, h12⟩, h13⟩, h14⟩, h15⟩ := h
      rename_i elt tg iter ifs' tg1 iter1 ifs1' scope pos
      have bo := blkOk_by h2
      have ifq : ∀ {is : List Ex} {is' : List Expr} {X' : Cx}, ifsOk is = true → Each C X' Y.nox is is' → PTs X' is' (tT X'.K Y.nox (evT C is)) := fun {is is' X'} h5 q => by
        cases is with
        | nil => cases is' with
          | nil => exact pTs_nil
          | cons _ _ => exact q.elim
        | cons a r => cases r with
          | nil => cases is' with
            | nil => exact q.elim
            | cons b r' => cases r' with
              | nil => exact pTs_one (q.1.2.pt h5)
              | cons _ _ => exact q.2.elim
          | cons _ _ => cases h5
      split at h6
      · rename_i es hes
        split at h13
        · rename_i es1 hes1
          have lc : LcOk2 C X Y own t sk src ifs own1 t1 sk1 src1 ifs1 x elt tg iter tg1 iter1 ifs' ifs1' scope :=
            { blk := by rw [f.N, f.sc]; exact bo
              owne := ownP_snd _ _
              sub := sub2_ok h4
              sub0 := by rw [ownP_snd]; exact sub2_ok h9
              sub1 := sub2_ok h11
              src := srcA_ok f hes (sounds src c _ h6 X Y f)
              tg := fun s H Ca cl fp => chkT_ok (f.blk bo.kind s H Ca cl fp) h3
              ifs := fun s H Ca cl fp => ifq h5 (sounds ifs _ _ h7 _ _ (f.blk bo.kind s H Ca cl fp))
              src1 := fun s H Ca cl fp => srcA_ok (f.blk bo.kind s H Ca cl fp) hes1 (sounds src1 _ _ h13 _ _ (f.blk bo.kind s H Ca cl fp))
              tg1 := fun s H Ca cl fp => chkT_ok (f.blk bo.kind s H Ca cl fp) h10
              ifs1 := fun s H Ca cl fp => ifq h12 (sounds ifs1 _ _ h14 _ _ (f.blk bo.kind s H Ca cl fp))
              elt := fun s H Ca cl fp => (sound x _ _ h15 _ _ (f.blk bo.kind s H Ca cl fp)).pe
              ns := h1
              ns1 := h8 }
          exact .of (lc.pe f.calm f.nd) (fun _ => rfl) rfl
        · cases h13
      · cases h6
    · cases h
theorem soundFs : ∀ (xs : List Ex) (fs : List Bool) (c : CC) (es : List Expr), chkFs c fs xs es = true → ∀ X Y {C : Ctx} {k : Nat}, Fit C k c X Y → PA X es (tA X.K Y (evFs C fs xs))
  | [], fs, c, es, h, X, Y, C, k, f => by
    unfold chkFs at h
    split at h
    · exact pA_nil
    · cases h
  | x :: xs, fs, c, es, h, X, Y, C, k, f => by
    unfold chkFs at h
    split at h
    · unfold evFs
      split at h
      · split at h
        · rw [Bool.and_eq_true] at h
          exact pA_star (sound x c _ h.1 X Y f).pe (soundFs xs _ c _ h.2 X Y f)
        · cases h
      · rename_i hne
        simp only [Bool.and_eq_true] at h
        have := pA_cons (sound x c _ h.1.2 X Y f).pe (soundFs xs _ c _ h.2 X Y f) (star_cons h.1.1)
        first
        | exact this
        | (split
           · rename_i r; exact absurd rfl (hne r)
           · exact this)
    · cases h
theorem sounds : ∀ (xs : List Ex) (c : CC) (es : List Expr), chkEs c xs es = true → ∀ X Y {C : Ctx} {k : Nat}, Fit C k c X Y → Each C X Y xs es
  | [], c, es, h, X, Y, C, k, f => by
    unfold chkEs at h
    split at h
    · trivial
    · cases h
  | x :: xs, c, es, h, X, Y, C, k, f => by
    unfold chkEs at h
    split at h
    · simp only [Bool.and_eq_true] at h
      exact ⟨⟨h.1.1, sound x c _ h.1.2 X Y f⟩, sounds xs c _ h.2 X Y f⟩
    · cases h
end
end
end Ev
/-! Ev: the check is sound: statements -/
namespace Ev
open PySem PySem.Spec
open PyProof.Rows L2
variable [LamN]

/-! ### exchanged stores -/
/-- none: a form that the model leaves out -/
def swP (sc : Scope) (ts vs : List Expr) : Option (Option (List Str)) :=
  if !(ts.length == 2 || ts.length == 3) || vs.length != ts.length then some none else
  if vs.any (fun | .Starred .. => true | _ => false) then some none else
  let line := (ts.head?.map (·.pos.line)).getD 0
  let names := ts.filterMap fun
    | .Name id pos => if sc.names.lookup id == some .local && pos.line == line then some id else none
    | _ => none
  if names.length != ts.length || names.eraseDups.length != names.length then some none else
  if vs.all (foldedForSure 8) then some none else
  if vs.all (constantsAlone 8) then none else some (some names)
theorem swP_ok {env : PySem.Env} {ts vs : List Expr} {k k' : Nat} {p p' : Pos} {o : Option (List Str)} (hk : env.scope.kind = .function) (h : swP env.scope ts vs = some o) : swappedStores [.Tuple ts k p] (.Tuple vs k' p') env = pure o := by
  have hb : (env.blockKind != .function) = false := by
    unfold Env.blockKind
    rw [hk]; rfl
  unfold swappedStores
  dsimp only
  rw [hb, Bool.or_false]
  unfold swP at h
  split at h
  · rename_i c
    cases h
    exact if_pos c
  · rename_i c
    refine (if_neg c).trans ?_
    split at h
    · rename_i c1
      cases h
      exact if_pos c1
    · rename_i c1
      refine (if_neg c1).trans ?_
      dsimp only at h
      split at h
      · rename_i c2
        cases h
        exact if_pos c2
      · rename_i c2
        refine (if_neg c2).trans ?_
        split at h
        · rename_i c3
          cases h
          exact if_pos c3
        · rename_i c3
          refine (if_neg c3).trans ?_
          split at h
          · cases h
          · rename_i c4
            cases h
            exact (if_neg c4).trans rfl
def nsw (sc : Scope) (tg v : Expr) : Bool := match tg with
  | .Name .. => true
  | .Subscript .. => true
  | .Tuple ts _ _ => (match v with
    | .Tuple vs _ _ => (match swP sc ts vs with | some none => true | _ => false)
    | _ => true)
  | _ => false
theorem nsw_ok {env : PySem.Env} {tg v : Expr} (hk : env.scope.kind = .function) (h : nsw env.scope tg v = true) : swappedStores [tg] v env = pure none := by
  cases tg with
  | Name _ _ => rfl
  | Subscript _ _ _ => rfl
  | Tuple ts k p =>
    cases v with
    | Tuple vs k' p' =>
      have h : (match swP env.scope ts vs with | some none => true | _ => false) = true := h
      split at h
      · rename_i e; exact swP_ok hk e
      · cases h
    | _ => rfl
  | _ => cases h
/-- does name = value exchange the stores -/
def swB (sc : Scope) (tg v : Expr) : Bool := match v with
  | .ListComp _ _ s pos => (match tg with
    | .Name t tp => (sc.names.lookup t == some .local) && tp.line == pos.line && !(s.names.any fun (n, k) => n == t && (k == .local || k == .cell))
    | _ => false)
  | _ => false
def notSD : Expr → Bool
  | .SetComp .. => false
  | .DictComp .. => false
  | _ => true
theorem swB_ok {env : PySem.Env} {tg v : Expr} {line : Nat} (hk : env.scope.kind = .function) (h : notSD v = true) : swapsWith v (some tg) line env = pure (swB env.scope tg v) := by
  have hb : (env.blockKind == .function) = true := by
    unfold Env.blockKind
    rw [hk]; rfl
  cases v <;> first | rfl | (cases h; done) | skip
  cases tg <;> first | rfl | skip
  unfold swapsWith
  dsimp only
  rw [hb]
  rfl
def notCo : Expr → Bool
  | .SetComp .. => false
  | .DictComp .. => false
  | .ListComp .. => false
  | _ => true
theorem drop_ok {env : PySem.Env} {v : Expr} {line : Nat} (h : notCo v = true) : swapsWith v none line env = pure false := by
  cases v <;> first | rfl | (cases h; done)

/-! ### the check -/
mutual
def chkG (c : CC) : Tg → Expr → Bool
  | .nm i, e => match e with
    | .Name x _ => decide (nth c.N i = some x) && locC c x
    | _ => false
  | .tp ts, e => match e with
    | .Tuple es _ _ => chkGs c ts es
    | _ => false
  | .ix o i, e => match e with
    | .Subscript o' i' _ => notSlice i' && chkE c o o' && chkE c i i'
    | _ => false
def chkGs (c : CC) : List Tg → List Expr → Bool
  | [], es => match es with
    | [] => true
    | _ => false
  | t :: ts, es => match es with
    | e :: es => notStar e && chkG c t e && chkGs c ts es
    | _ => false
end
def isNmT : Tg → Bool
  | .nm _ => true
  | _ => false
def isComp : Ex → Bool
  | .comp .. => true
  | .comp2 .. => true
  | _ => false
def ipB : Op2 → Operator → Bool
  | .add, .Add => true
  | .sub, .Sub => true
  | _, _ => false
theorem ipB_ok {o : Op2} {op : Operator} (h : ipB o op = true) : ipO o op := by
  cases o <;> cases op <;> first | trivial | (cases h; done)
def namesE : List Expr → List Str
  | [] => []
  | .Name x _ :: r => x :: namesE r
  | _ :: _ => []
def parC (c : CC) (is : List Nat) (ts vs : List Expr) : Bool :=
  decide (is.map (nth c.N) = (namesE ts).map some) && Nat.beq ts.length is.length && Nat.beq vs.length is.length && (Nat.beq is.length 2 || Nat.beq is.length 3) && decide is.Nodup && (namesE ts).all (fun x => decide (c.sc.names.lookup x = some .local)) &&
    decide (swP c.sc ts vs = some (some (namesE ts)))
mutual
def chkS (c : CC) : Sm → Stmt → Bool
  | .asg t e, s => match s with
    | .Assign [tg] v _ => notSD v && nsw c.sc tg v && chkG c t tg && chkE c e v && (!swB c.sc tg v || (isNmT t && isComp e))
    | _ => false
  | .par is es, s => match s with
    | .Assign [.Tuple ts _ _] (.Tuple vs _ _) _ => parC c is ts vs && chkEs c es vs
    | _ => false
  | .aug i o e, s => match s with
    | .AugAssign (.Name x _) op v _ => decide (nth c.N i = some x) && locC c x && ipB o op && chkE c e v
    | _ => false
  | .augIx o i k e, s => match s with
    | .AugAssign (.Subscript o' i' _) op v _ => notSlice i' && ipB k op && chkE c o o' && chkE c i i' && chkE c e v
    | _ => false
  | .expr e, s => match s with
    | .Expr v _ => notCo v && chkE c e v
    | _ => false
  | .ret e, s => match s with
    | .Return (some v) _ => chkE c e v
    | _ => false
  | .retN, s => match s with
    | .Return none _ => true
    | _ => false
  | .ite q a b, s => match s with
    | .If q' a' b' _ => tOk q && chkE c q q' && chkSs c a a' && chkSs c b b'
    | _ => false
  | .for_ t k src body, s => match s with
    | .For tg iter body' [] _ => notSet iter && chkT c t tg && (match srcA c k tg iter with
       | some es => chkEs c src es
       | none => false) && chkSs c body body'
    | _ => false
  | .while_ q body, s => match s with
    | .While q' body' [] _ => tOk q && chkE c q q' && chkSs c body body'
    | _ => false
  | .pass, s => match s with
    | .Pass _ => true
    | .Expr (.Constant (.str _) _ _) _ => true
    | _ => false
  | .brk, s => match s with
    | .Break _ => true
    | _ => false
  | .cont, s => match s with
    | .Continue _ => true
    | _ => false
  | .raise0 i, s => match s with
    | .Raise (some (.Call (.Name x _) [.Constant (.str _) _ _] [] _)) none _ => glC c x && (match c.xt i with | some r => decide (r.name = x) && r.fld.isNone | none => false)
    | _ => false
  | .raise1 i e, s => match s with
    | .Raise (some (.Call (.Name x _) [a] [] _)) none _ => glC c x && (match c.xt i with | some r => decide (r.name = x) && r.fld.isSome | none => false) && notStar a && chkE c e a
    | _ => false
  | .never, _ => true
  | .tail _ _, _ => false
def chkSs (c : CC) : List Sm → List Stmt → Bool
  | [], ss => match ss with
    | [] => true
    | _ => false
  | .tail _ tl :: r, ss => r.isEmpty && chkSs c tl ss
  | s :: r, ss => match ss with
    | s' :: r' => chkS c s s' && chkSs c r r'
    | _ => false
end

section
variable {C : Ctx} {k : Nat} {c : CC} {X : Cx} {Y : XI}
mutual
theorem chkG_ok (f : Fit C k c X Y) : ∀ {t : Tg} {e : Expr}, chkG c t e = true → PG X e (tGg X.K Y (asgG C t))
  | .nm i, e, h => by
    unfold chkG at h
    split at h
    · simp only [Bool.and_eq_true, decide_eq_true_eq, nth_eq] at h
      have := f.loc h.2
      exact pGg_nm f.nd (by rw [f.N]; exact h.1) this.1 this.2
    · cases h
  | .tp ts, e, h => by
    unfold chkG at h
    split at h
    · have q := chkGs_ok f h
      exact pGg_tp f.calm q.1 q.2.1 q.2.2
    · cases h
  | .ix o i, e, h => by
    unfold chkG at h
    split at h
    · simp only [Bool.and_eq_true] at h
      refine pGg_ix (sound o c _ h.1.2 X Y f).pe (sound i c _ h.2 X Y f).pe fun v => ?_
      rename_i o' i' p
      have hi := h.1.1
      cases i' <;> first | rfl | (cases hi; done)
    · cases h
theorem chkGs_ok (f : Fit C k c X Y) : ∀ {ts : List Tg} {es : List Expr}, chkGs c ts es = true → PGs X es (tGgs X.K Y (asgGs C ts)) ∧ (assignEach es X.env).length = ts.length ∧ (assignEach es X.env).findIdx? (·.1) = none
  | [], es, h => by
    unfold chkGs at h
    split at h
    · exact ⟨pGgs_nil, rfl, rfl⟩
    · cases h
  | t :: ts, es, h => by
    unfold chkGs at h
    split at h
    · simp only [Bool.and_eq_true] at h
      have q := chkGs_ok f h.2
      have e1 := asgEach_cons (env := X.env) (es := by assumption) h.1.1
      refine ⟨pGgs_cons (chkG_ok f h.1.2) q.1 (by rw [e1]; rfl), by rw [e1]; simp [q.2.1], ?_⟩
      rw [e1]
      have q2 := q.2.2
      simp only [List.findIdx?_eq_none_iff] at q2 ⊢
      intro x hx
      rcases List.mem_cons.mp hx with rfl | hx
      · rfl
      · exact q2 x hx
    · cases h
end
theorem namesE_2 : ∀ {ts : List Expr}, (namesE ts).length = 2 → ts.length = 2 → ∃ x y px py, ts = [.Name x px, .Name y py] := by
  intro ts h1 h2
  match ts, h2 with
  | [a, b], _ =>
    cases a <;> first | (simp [namesE] at h1; done) | skip
    cases b <;> first | (simp [namesE] at h1; done) | skip
    exact ⟨_, _, _, _, rfl⟩
theorem namesE_3 : ∀ {ts : List Expr}, (namesE ts).length = 3 → ts.length = 3 → ∃ x y z px py pz, ts = [.Name x px, .Name y py, .Name z pz] := by
  intro ts h1 h2
  match ts, h2 with
  | [a, b, d], _ =>
    cases a <;> first | (simp [namesE] at h1; done) | skip
    cases b <;> first | (simp [namesE] at h1; done) | skip
    cases d <;> first | (simp [namesE] at h1; done) | skip
    exact ⟨_, _, _, _, _, _, rfl⟩
theorem par_ok (f : Fit C k c X Y) {is : List Nat} {ts vs : List Expr} {es : List Ex} {kt k2 : Nat} {pt pt2 pos : Pos} (h : parC c is ts vs = true) (he : Each C X Y es vs) : PS X (.Assign [.Tuple ts kt pt] (.Tuple vs k2 pt2) pos) (tS X.K Y (sPar is (evEs C es))) := by
  unfold parC at h
  simp only [Bool.and_eq_true, decide_eq_true_eq, Bool.or_eq_true] at h
  obtain ⟨⟨⟨⟨⟨⟨h1, h2⟩, h3⟩, h4⟩, h5⟩, h6⟩, h7⟩ := h
  have h2 := Nat.eq_of_beq_eq_true h2
  have h3 := Nat.eq_of_beq_eq_true h3
  have hl : (namesE ts).length = is.length := by have := congrArg List.length h1; simpa using this.symm
  have hsw : swappedStores [.Tuple ts kt pt] (.Tuple vs k2 pt2) X.env = pure (some (namesE ts)) := swP_ok (by rw [f.sc]; exact f.kd) (by rw [f.sc]; exact h7)
  rcases h4 with h4 | h4
  · have h4 := Nat.eq_of_beq_eq_true h4
    obtain ⟨x, y, px, py, rfl⟩ := namesE_2 (ts := ts) (by omega) (by omega)
    match is, h4, vs, h3 with
    | [i, j], _, [a, b], _ =>
      simp only [namesE, List.map_cons, List.map_nil, List.cons.injEq, and_true, nth_eq] at h1
      simp only [namesE, List.all_cons, List.all_nil, Bool.and_true, Bool.and_eq_true, decide_eq_true_eq] at h6
      simp at h5
      exact Ev.PS.imp (ps_par f.calm f.nd (by rw [f.N]; exact h1.1) (by rw [f.N]; exact h1.2) h5 (by rw [f.sc]; exact h6.1) (by rw [f.sc]; exact h6.2) he.pa hsw) fun D σ H q => par2_rd q
  · have h4 := Nat.eq_of_beq_eq_true h4
    obtain ⟨x, y, z, px, py, pz, rfl⟩ := namesE_3 (ts := ts) (by omega) (by omega)
    match is, h4, vs, h3 with
    | [i, j, l], _, [a, b, d], _ =>
      simp only [namesE, List.map_cons, List.map_nil, List.cons.injEq, and_true, nth_eq] at h1
      simp only [namesE, List.all_cons, List.all_nil, Bool.and_true, Bool.and_eq_true, decide_eq_true_eq] at h6
      simp at h5
      exact Ev.PS.imp (ps_par3 f.calm f.nd (by rw [f.N]; exact h1.1) (by rw [f.N]; exact h1.2.1) (by rw [f.N]; exact h1.2.2) h5.1.1 h5.1.2 h5.2 (by rw [f.sc]; exact h6.1) (by rw [f.sc]; exact h6.2.1) (by rw [f.sc]; exact h6.2.2) he.pa hsw) fun D σ H q => par3_rd q
theorem setLc_ok (f : Fit C k c X Y) {t : Tg} {x : Ex} {tg v : Expr} {pos : Pos} (h1 : swB c.sc tg v = true) (h2 : isNmT t = true) (h3 : isComp x = true) (h4 : chkG c t tg = true) (h5 : chkE c x v = true) : PS X (.Assign [tg] v pos) (tS X.K Y (sAsg (evE C x) (asgG C t))) := by
  cases t with
  | nm i =>
    cases x with
    | comp m own tn sk src ifs x =>
      unfold chkE at h5
      split at h5
      · rename_i elt tgc iter ifs' scope p
        cases tg with
        | Name y py =>
          simp only [Bool.and_eq_true] at h5
          obtain ⟨⟨⟨⟨⟨⟨⟨g1, g2⟩, g3⟩, g4⟩, g5⟩, g6⟩, g7⟩, g8⟩ := h5
          have h4 : (decide (nth c.N i = some y) && locC c y) = true := h4
          simp only [Bool.and_eq_true, decide_eq_true_eq, nth_eq] at h4
          have hl : c.sc.names.lookup y = some .local := by
            have h1 : ((c.sc.names.lookup y == some .local) && py.line == p.line && !(scope.names.any fun (n, k) => n == y && (k == .local || k == .cell))) = true := h1
            simp only [Bool.and_eq_true] at h1
            simpa using h1.1.1
          split at g6
          · rename_i es hes
            have bo := blkOk_by g2
            have hif : ∀ (s : Shared) (H : Hp) (Ca : Addr) (cl : List (Str × Addr)) (fp : List Addr), PTs (X.blk s H scope (compEnvC scope cl Ca X.env) fp) ifs' (tT X.K Y.nox (evT C ifs)) := fun s H Ca cl fp => by
              have q := sounds ifs _ _ g7 _ _ (f.blk bo.kind s H Ca cl fp)
              cases ifs with
              | nil => cases ifs' with
                | nil => exact pTs_nil
                | cons _ _ => exact q.elim
              | cons a r => cases r with
                | nil => cases ifs' with
                  | nil => exact q.elim
                  | cons b r' => cases r' with
                    | nil => exact pTs_one (q.1.2.pt g5)
                    | cons _ _ => exact q.2.elim
                | cons _ _ => cases g5
            have hsw : swapsWith (.ListComp elt [⟨tgc, iter, ifs', 0⟩] scope p) (some (.Name y py)) pos.line X.env = pure true := by
              rw [swB_ok (by rw [f.sc]; exact f.kd) rfl, f.sc, h1]
            refine Ev.PS.imp (ps_setLc f.calm f.nd (by rw [f.N]; exact h4.1) (by rw [f.sc]; exact hl) hsw (srcA_ok f hes (sounds src c _ g6 X Y f)) (own := ownP X.N own) (g := tG X.K tn) (tt := tT X.K Y.nox (evT C ifs)) (te := tE X.K Y.nox (evE C x)) (by rw [f.N, f.sc]; exact bo)
              (fun s H Ca cl fp => chkT_ok (f.blk bo.kind s H Ca cl fp) g3) hif (fun s H Ca cl fp => (sound x _ _ g8 _ _ (f.blk bo.kind s H Ca cl fp)).pe) fun _ => folded_notSet g1) fun D σ H q => ?_
            obtain ⟨env, mu, F, S, he, hg, hw⟩ := q
            rw [ownP_snd]
            refine comp_wp (m := m) (sub2_ok g4) ?_
            refine run1 cl_endS he hg hw fun v H1 mu1 S1 y he1 hg1 r1 e1 hw1 => ?_
            have hw2 := WY.bnd.mp hw1
            unfold asgG Ev.gNm at hw2
            rw [lsK_eq] at hw2
            have hw2 : endS X.K mu1 F H1 D (.nx (env.set i (some y))) S1 := hw2
            exact hw2 _ _ _ (Xt.refl _ _) hg1 (he1.set r1)
          · cases g6
        | _ => cases h1
      · cases h5
    | comp2 m own tn sk src ifs own1 tn1 sk1 src1 ifs1 x =>
      unfold chkE at h5
      split at h5
      · rename_i elt tgc iter ifs' tgc1 iter1 ifs1' scope p
        cases tg with
        | Name y py =>
          simp only [Bool.and_eq_true] at h5
          obtain ⟨⟨⟨⟨⟨⟨⟨⟨⟨⟨⟨⟨⟨⟨g1, g2⟩, g3⟩, g4⟩, g5⟩, g6⟩, g7⟩, g8⟩, g9⟩, g10⟩, g11⟩, g12⟩, g13⟩, g14⟩, g15⟩ := h5
          have h4 : (decide (nth c.N i = some y) && locC c y) = true := h4
          simp only [Bool.and_eq_true, decide_eq_true_eq, nth_eq] at h4
          have hl : c.sc.names.lookup y = some .local := by
            have h1 : ((c.sc.names.lookup y == some .local) && py.line == p.line && !(scope.names.any fun (n, k) => n == y && (k == .local || k == .cell))) = true := h1
            simp only [Bool.and_eq_true] at h1
            simpa using h1.1.1
          split at g6
          · rename_i es hes
            split at g13
            · rename_i es1 hes1
              have bo := blkOk_by g2
              have ifq : ∀ {is : List Ex} {is' : List Expr} {X' : Cx}, ifsOk is = true → Each C X' Y.nox is is' → PTs X' is' (tT X'.K Y.nox (evT C is)) := fun {is is' X'} h5 q => by
                cases is with
                | nil => cases is' with
                  | nil => exact pTs_nil
                  | cons _ _ => exact q.elim
                | cons a r => cases r with
                  | nil => cases is' with
                    | nil => exact q.elim
                    | cons b r' => cases r' with
                      | nil => exact pTs_one (q.1.2.pt h5)
                      | cons _ _ => exact q.2.elim
                  | cons _ _ => cases h5
              have hsw : swapsWith (.ListComp elt [⟨tgc, iter, ifs', 0⟩, ⟨tgc1, iter1, ifs1', 0⟩] scope p) (some (.Name y py)) pos.line X.env = pure true := by
                rw [swB_ok (by rw [f.sc]; exact f.kd) rfl, f.sc, h1]
              refine Ev.PS.imp (ps_setLc2 f.calm f.nd (by rw [f.N]; exact h4.1) (by rw [f.sc]; exact hl) hsw (srcA_ok f hes (sounds src c _ g6 X Y f)) (own := ownP X.N own) (vs1 := own1) (wi1 := tSrc X.K Y.nox sk1 (evEs C src1)) (g := tG X.K tn) (g1 := tG X.K tn1) (tt := tT X.K Y.nox (evT C ifs)) (tt1 := tT X.K Y.nox (evT C ifs1)) (te := tE X.K Y.nox (evE C x)) (by rw [f.N, f.sc]; exact bo) (by rw [ownP_snd]; exact sub2_ok g9)
                (fun s H Ca cl fp => chkT_ok (f.blk bo.kind s H Ca cl fp) g3) (fun s H Ca cl fp => ifq g5 (sounds ifs _ _ g7 _ _ (f.blk bo.kind s H Ca cl fp)))
                (fun s H Ca cl fp => srcA_ok (f.blk bo.kind s H Ca cl fp) hes1 (sounds src1 _ _ g13 _ _ (f.blk bo.kind s H Ca cl fp)))
                (fun s H Ca cl fp => chkT_ok (f.blk bo.kind s H Ca cl fp) g10) (fun s H Ca cl fp => ifq g12 (sounds ifs1 _ _ g14 _ _ (f.blk bo.kind s H Ca cl fp)))
                (fun s H Ca cl fp => (sound x _ _ g15 _ _ (f.blk bo.kind s H Ca cl fp)).pe) (fun _ => folded_notSet g1) fun _ _ => folded_notSet g8) fun D σ H q => ?_
              obtain ⟨env, mu, F, S, he, hg, hw⟩ := q
              rw [ownP_snd]
              refine comp2_wp (m := m) (sub2_ok g4) (sub2_ok g11) ?_
              refine run1 cl_endS he hg hw fun v H1 mu1 S1 y he1 hg1 r1 e1 hw1 => ?_
              have hw2 := WY.bnd.mp hw1
              unfold asgG Ev.gNm at hw2
              rw [lsK_eq] at hw2
              have hw2 : endS X.K mu1 F H1 D (.nx (env.set i (some y))) S1 := hw2
              exact hw2 _ _ _ (Xt.refl _ _) hg1 (he1.set r1)
            · cases g13
          · cases g6
        | _ => cases h1
      · cases h5
    | _ => cases h3
  | _ => cases h2
end
end Ev
/-! Ev: defs -/
namespace Ev
open PySem PySem.Spec
open PyProof.Rows L2
variable [LamN]

section
variable {C : Ctx} {k : Nat} {c : CC} {X : Cx} {Y : XI}
mutual
theorem soundS (f : Fit C k c X Y) (hp : PassesOwn (model X.prog X.w) X.A X.env X.xe) : ∀ (x : Sm) (s : Stmt), chkS c x s = true → PS X s (tS X.K Y (evS C x))
  | .asg t e, s, h => by
    unfold chkS at h
    split at h
    · rename_i tg v pos
      simp only [Bool.and_eq_true] at h
      obtain ⟨⟨⟨⟨h1, h2⟩, h3⟩, h4⟩, h5⟩ := h
      cases q : swB c.sc tg v with
      | false =>
        refine pS_asg (sound e c _ h4 X Y f).pe (chkG_ok f h3) ?_ (nsw_ok (by rw [f.sc]; exact f.kd) (by rw [f.sc]; exact h2)) ?_
        · show swapsWith v (some tg) pos.line X.env = pure false
          rw [swB_ok (by rw [f.sc]; exact f.kd) h1, f.sc, q]
        · have : notStar tg = true := by cases tg <;> first | rfl | (cases h2; done)
          rw [asgEach_cons this]; rfl
      | true =>
        rw [q] at h5
        have h5 : (isNmT t && isComp e) = true := h5
        rw [Bool.and_eq_true] at h5
        exact setLc_ok f q h5.1 h5.2 h3 h4
    · cases h
  | .par is es, s, h => by
    unfold chkS at h
    split at h
    · rw [Bool.and_eq_true] at h
      exact par_ok f h.1 (sounds es c _ h.2 X Y f)
    · cases h
  | .aug i o e, s, h => by
    unfold chkS at h
    split at h
    · simp only [Bool.and_eq_true, decide_eq_true_eq, nth_eq] at h
      have l := f.loc h.1.1.2
      exact pS_aug f.nd (by rw [f.N]; exact h.1.1.1) l.1 (sound e c _ h.2 X Y f).pe (ipB_ok h.1.2) l.2
    · cases h
  | .augIx o i q e, s, h => by
    unfold chkS at h
    split at h
    · rename_i o' i' tp op v pos
      simp only [Bool.and_eq_true] at h
      obtain ⟨⟨⟨⟨h1, h2⟩, h3⟩, h4⟩, h5⟩ := h
      refine pS_augIx (sound o c _ h3 X Y f).pe (sound i c _ h4 X Y f).pe (sound e c _ h5 X Y f).pe (ipB_ok h2) fun ov iv new => ?_
      cases i' <;> first | rfl | (cases h1; done)
    · cases h
  | .expr e, s, h => by
    unfold chkS at h
    split at h
    · rw [Bool.and_eq_true] at h
      exact pS_expr (sound e c _ h.2 X Y f).pe (drop_ok h.1)
    · cases h
  | .ret e, s, h => by
    unfold chkS at h
    split at h
    · exact pS_ret (sound e c _ h X Y f).pe
    · cases h
  | .retN, s, h => by
    unfold chkS at h
    split at h
    · exact pS_retN
    · cases h
  | .ite q a b, s, h => by
    unfold chkS at h
    split at h
    · simp only [Bool.and_eq_true] at h
      obtain ⟨⟨⟨h1, h2⟩, h3⟩, h4⟩ := h
      exact pS_if ((sound q c _ h2 X Y f).pt h1) (soundSs f hp a _ h3) (soundSs f hp b _ h4)
    · cases h
  | .for_ t sk src body, s, h => by
    unfold chkS at h
    split at h
    · simp only [Bool.and_eq_true] at h
      obtain ⟨⟨⟨h1, h2⟩, h3⟩, h4⟩ := h
      split at h3
      · rename_i es hes
        exact pS_for hp f.calm (srcA_ok f hes (sounds src c _ h3 X Y f)) (chkT_ok f h2) (soundSs f hp body _ h4) fun _ => folded_notSet h1
      · cases h3
    · cases h
  | .while_ q body, s, h => by
    unfold chkS at h
    split at h
    · simp only [Bool.and_eq_true] at h
      obtain ⟨⟨h1, h2⟩, h3⟩ := h
      exact pS_while hp ((sound q c _ h2 X Y f).pt h1) (soundSs f hp body _ h3)
    · cases h
  | .pass, s, h => by
    unfold chkS at h
    split at h
    · exact pS_pass
    · exact pS_doc
    · cases h
  | .brk, s, h => by
    unfold chkS at h
    split at h
    · exact pS_brk
    · cases h
  | .cont, s, h => by
    unfold chkS at h
    split at h
    · exact pS_cont
    · cases h
  | .raise0 i, s, h => by
    unfold chkS at h
    split at h
    · rename_i x p m j p2 pos pos'
      rw [Bool.and_eq_true] at h
      obtain ⟨h1, h2⟩ := h
      split at h2
      · rename_i r er
        simp only [Bool.and_eq_true, decide_eq_true_eq, Option.isNone_iff_eq_none] at h2
        obtain ⟨rfl, h3⟩ := h2
        rw [← f.xt] at er
        obtain ⟨D, hD, T, hdb⟩ := f.xg.each i r er
        exact pS_raise0 f.calm f.tk er f.ymg hD h3 T (f.gl h1) hdb
      · cases h2
    · cases h
  | .raise1 i e, s, h => by
    unfold chkS at h
    split at h
    · rename_i x p a pos pos'
      simp only [Bool.and_eq_true] at h
      obtain ⟨⟨⟨h1, h2⟩, h4⟩, h5⟩ := h
      split at h2
      · rename_i r er
        simp only [Bool.and_eq_true, decide_eq_true_eq] at h2
        obtain ⟨rfl, h3⟩ := h2
        rw [← f.xt] at er
        obtain ⟨D, hD, T, hdb⟩ := f.xg.each i r er
        have hf : r.fld ≠ none := fun z => by rw [z] at h3; cases h3
        exact pS_raise1 f.calm (f.room.mono (by omega)) f.tk er f.ymg hD hf T (f.gl h1) hdb (sound e c _ h5 X Y f).pe (star_cons h4)
      · cases h2
    · cases h
  | .never, s, h => pS_never
  | .tail _ _, s, h => by cases h
theorem soundSs (f : Fit C k c X Y) (hp : PassesOwn (model X.prog X.w) X.A X.env X.xe) : ∀ (xs : List Sm) (ss : List Stmt), chkSs c xs ss = true → PSs X ss (tS X.K Y (evSs C xs))
  | [], ss, h => by
    unfold chkSs at h
    split at h
    · exact pSs_nil
    · cases h
  | x :: xs, ss, h => by
    cases x with
    | tail n tl =>
      unfold chkSs at h
      rw [Bool.and_eq_true] at h
      cases xs with
      | nil => exact Ev.PSs.imp (soundSs f hp tl ss h.2) fun D σ H q => tail_rd q
      | cons _ _ => cases h.1
    | _ =>
      unfold chkSs at h
      split at h
      · rw [Bool.and_eq_true] at h
        exact pSs_cons (soundS f hp _ _ h.1) (soundSs f hp xs _ h.2)
      · cases h
end
end

/-! ### defs: from one level to the next -/
/-- a def's slots and parameters -/
structure FI where
  N : List Str
  st : Stmt
def FI.sc (i : FI) : Scope := defScope i.st
def fnScB (N : List Str) (np : Nat) (sc : Scope) : Bool :=
  (match sc.kind with | .function => true | _ => false) && !sc.isCoroutine && !sc.isGenerator && decide N.Nodup && (N.take np).all (fun x => match sc.names.lookup x with | some .local => true | some .cell => true | _ => false) && sc.names.all (fun y => match y.2 with | .free => false | _ => true) && Nat.ble np N.length
theorem fnSc_ok {N : List Str} {np : Nat} {sc : Scope} (h : fnScB N np sc = true) : FnScope N (N.take np) sc := by
  unfold fnScB at h
  simp only [Bool.and_eq_true, Bool.not_eq_true', decide_eq_true_eq, List.all_eq_true, Nat.ble_eq] at h
  obtain ⟨⟨⟨⟨⟨⟨h1, h2⟩, h3⟩, h4⟩, h5⟩, h6⟩, h7⟩ := h
  refine ⟨?_, h2, h3, h4, by rw [List.length_take, Nat.min_eq_left h7], fun x hx => ?_, fun y hy e => ?_⟩
  · split at h1
    · assumption
    · cases h1
  · have := h5 x hx
    split at this
    · exact .inl (by assumption)
    · exact .inr (by assumption)
    · cases this
  · have := h6 y hy
    rw [e] at this
    cases this
section
variable {P : Program} {w : World} {K : PySem.W.Frag} {mg : Str → Option Value} {base : Heap}
/-- what the checks are told of the module: the names (a def's, or a value's), the builtins used, gcd, the classes of exceptions, the defs that tell what is met -/
structure TT where
  gs : List (Str × Bool)
  bl : List Str
  gcd : Bool
  xt : XTab
  ms : List (Str × List (Nat × HK) × D)
def lamOf (x : Str) : Option Str := match LamN.names.any fun y => decide (y = x) with
  | true => some x
  | false => none
def ccOf (T : TT) (x : Str) (N : List Str) (sc : Scope) : CC := ⟨N, sc, none, T.gs, T.bl, T.gcd, lamOf x, T.ms, T.xt⟩
/-- a def that tells what is met -/
def MetE (K : PySem.W.Frag) (mg : Str → Option Value) (xt : XTab) (x : Str) (hs : List (Nat × HK)) (fin : D) : Prop :=
  ∃ gm fdm st a n, mg x = some (.ref gm) ∧ PySem.W.keepIn K (.ref gm) = true ∧ Fun K x x st gm fdm ∧ Binds K fdm [a] [] ∧ metB xt a n st hs fin = true ∧ hsB xt hs = true
/-- what is known of the module, for the checks -/
structure Glob (P : Program) (K : PySem.W.Frag) (mg : Str → Option Value) (base : Heap) (T : TT) (gv : Nat → Option D) : Prop where
  bl : ∀ x, x ∈ T.bl → mg x = none
  gc : T.gcd = true → mg "gcd" = some (.builtin "math.gcd")
  cns : ∀ g x, T.gs[g]? = some (x, false) → ∃ v u, mg x = some u ∧ RelV v u ∧ ∀ d, gv g = some d → ∀ mu F H, Rp K mu F H v d
  ms : ∀ (m : Nat) x hs fin, T.ms[m]? = some (x, hs, fin) → MetE K mg T.xt x hs fin
  xg : XGd P K mg T.xt
  rp0 : mg "repr" = none
  uq : ∀ p ∈ tbOf K, ∀ p' ∈ tbOf K, p.1 = p'.1 → p.2 = p'.2
  lam : ∀ x ∈ LamN.names, ∃ cd P, PySem.W.tabIn K x = some (cd, P) ∧ LamX.TabB base mg cd P
  fvs : ∀ g a, fvK K g a → ∃ x, T.gs[g]? = some (x, true) ∧ mg x = some (.ref a)
  fvi : ∀ (g : Nat) x a, T.gs[g]? = some (x, true) → mg x = some (.ref a) → fvK K g a
/-- all defs of the table, at one level -/
def AllOk (P : Program) (w : World) (K : PySem.W.Frag) (mg : Str → Option Value) (base : Heap) (m : XM) (gs : List (Str × Bool)) (cl : Nat → List D → M D) (k : Nat) : Prop :=
  ∀ (g : Nat) x, gs[g]? = some (x, true) → ∃ f fd ps, mg x = some (.ref f) ∧ PySem.W.keepIn K (.ref f) = true ∧ Binds K fd ps [] ∧ FnOkG P w K mg base (L2.CX P w) k f fd ps (spF K m (cl g))
theorem tabIn_code {K : PySem.W.Frag} {x : Str} {f cd P : Addr} {oc : Value} {od : Option Addr} {fd : FuncData} {osl : Array (Option Value)} (h : PySem.W.tabIn K x = some (cd, P)) (hn : PySem.W.nsIn K mainGlobals x = some (some (.ref f))) (hl : K.lookup f = some ⟨oc, od, .func fd, osl⟩) : fd.code = .ref cd := by
  unfold PySem.W.tabIn at h
  rw [hn] at h
  dsimp only at h
  rw [hl] at h
  dsimp only at h
  split at h
  · rename_i c e
    split at h
    · split at h
      · cases h; exact e
      · cases h
    · cases h
  · cases h
theorem runF_len {C : Ctx} {f : FDef} {as : List D} {S : Store} {P : D → Store → Prop} {PX : PXT} (h : WY (runF C f as S) P PX) : as.length = f.np := by
  unfold runF at h
  split at h
  · rename_i e; exact Nat.eq_of_beq_eq_true e
  · exact h.elim
theorem start_env {K : PySem.W.Frag} {mu F : List Addr} {H : Hp} : ∀ {vs : List V} {ds : List D}, Rps K mu F H vs ds → ∀ (n : Nat), EnvR K mu F H (vs.map some ++ List.replicate n none) (ds.map some ++ List.replicate n none)
  | vs, ds, r, n => by
    refine ⟨by simp [r.length], fun i d h => ?_⟩
    by_cases hi : i < ds.length
    · rw [List.getElem?_append_left (by simpa using hi), List.getElem?_map] at h
      cases e : ds[i]? with
      | none => rw [e] at h; cases h
      | some d' =>
        rw [e] at h
        have h : some (some d') = some (some d) := h
        cases h
        obtain ⟨v, hv, rv⟩ := r.get e
        exact ⟨v, by rw [List.getElem?_append_left (by rw [List.length_map, r.length]; exact hi), List.getElem?_map, hv]; rfl, rv⟩
    · rw [List.getElem?_append_right (by simpa using Nat.le_of_not_lt hi)] at h
      have := List.mem_of_getElem? h
      rw [List.mem_replicate] at this
      cases this.2
/-- the level's tables -/
theorem callT_low (pr : Prog) : ∀ (k : Nat) cl, (callT pr k).2.2 = some cl → ∃ j, k = j + 2 ∧ cl = callF pr j
  | 0, cl, h => by cases h
  | 1, cl, h => by cases h
  | k + 2, cl, h => ⟨k, rfl, (Option.some.inj h).symm⟩
/-- one def -/
theorem fn_step {m : XM} {T : TT} {pr : Prog} {k : Nat} (G : Glob P K mg base T pr.gv) (hm : m = ⟨mg, T.xt⟩) (A : ∀ j, j ≤ k → AllOk P w K mg base m T.gs (callF pr j) (j + 2))
    {x : Str} {st : Stmt} {f : Addr} {fd : FuncData} {N : List Str} {d : FDef} {g : Nat} (F : Fun K x x st f fd) (hat : PySem.W.nsIn K mainGlobals x = some (some (.ref f))) (hd : pr.fn[g]? = some (some d)) (hs : fnScB N d.np (defScope st) = true) (hn : Nat.beq N.length d.ns = true)
    (hc : chkSs (ccOf T x N (defScope st)) d.body (defBody st) = true) : FnOkG P w K mg base (L2.CX P w) (k + 3) f fd (N.take d.np) (spF K m (callF pr (k + 1) g)) := by
  have sc := fnSc_ok hs
  have hn := Nat.eq_of_beq_eq_true hn
  have hnp : d.np ≤ N.length := by
    unfold fnScB at hs
    simp only [Bool.and_eq_true, Nat.ble_eq] at hs
    exact hs.2
  have call : ∀ as S P PX, WY (callF pr (k + 1) g as S) P PX → WY (runF ⟨pr.gv, callF pr k, (callT pr k).2.2, pr.fuel⟩ d as S) P PX := fun as S P PX h => by
    have e : callF pr (k + 1) g as = (match nth pr.fn g with
      | some (some f) => runF ⟨pr.gv, callF pr k, (callT pr k).2.2, pr.fuel⟩ f as
      | _ => stk) := rfl
    rw [e, nth_eq, hd] at h
    exact h
  refine fn_ofG F sc (fun vs H Q E h => ?_) (fun cdv A0 outer s H vs Q E hcd hfc hr hgd h => ?_)
  · obtain ⟨mu, F', S, ds, hg, r, hw⟩ := h
    rw [r.length, runF_len (call _ _ _ _ hw), List.length_take, Nat.min_eq_left hnp]
  · obtain ⟨mu, F', S, ds, hg, r, hw⟩ := h
    have hw := call _ _ _ _ hw
    have hl := runF_len hw
    have hx : (cxOf (L2.CX P w) P w K mg base N x (defScope st) f cdv A0 outer s H E).xe = fun e s' => wpAny (model P w) (A0.deeper (envOfC x (defScope st) s.heap.objs.size f cdv)) (leaving (envOfC x (defScope st) s.heap.objs.size f cdv) e) (fun _ s'' => L2.CX P w outer H s E e s'') (fun e' s'' => L2.CX P w outer H s E e' s'') s' := rfl
    have fit : Fit ⟨pr.gv, callF pr k, (callT pr k).2.2, pr.fuel⟩ k (ccOf T x N (defScope st)) (cxOf (L2.CX P w) P w K mg base N x (defScope st) f cdv A0 outer s H E) (m.at E) := by
      subst hm
      exact { tk := takes_of rfl rfl rfl hx, N := rfl, nd := sc.nd, sc := rfl, kd := sc.kind, fn := fun _ => rfl, calm := rfl, room := hr, gd := hgd, ymg := rfl,
              lam := fun y hy => by
                have hy : lamOf x = some y := hy
                unfold lamOf at hy
                split at hy
                · rename_i ha
                  cases hy
                  obtain ⟨z, hz, e⟩ := List.any_eq_true.mp ha
                  rw [decide_eq_true_eq] at e
                  subst e
                  obtain ⟨cd, Q0, h1, h2⟩ := G.lam _ hz
                  obtain ⟨oc, od, kV, doc, pm, an, cdv', ct, osl, e1, lk, _⟩ := F.ex
                  refine ⟨rfl, hz, cd, Q0, h1, ?_, h2⟩
                  have := tabIn_code h1 hat lk
                  show cdv = .ref cd
                  rw [← hfc]; exact this
                · cases hy
              low := fun cl hcl => by
                obtain ⟨j, rfl, rfl⟩ := callT_low pr k cl hcl
                exact ⟨j, rfl, A j (by omega)⟩
              ms := G.ms, xg := G.xg, xt := rfl, rp0 := G.rp0, uq := G.uq, fvs := G.fvs, fvi := G.fvi, bl := G.bl, gc := G.gc, fns := A k (Nat.le_refl _), cns := G.cns }
    refine ⟨_, soundSs fit (passes_of hx) d.body _ hc, ?_⟩
    unfold runF at hw
    rw [if_pos (by rw [hl]; exact Nat.beq_refl _)] at hw
    refine ⟨ds.map some ++ List.replicate (d.ns - d.np) none, mu, F', S, ?_, hg, (WY.bnd.mp hw).mono fun fl S1 h1 => ?_⟩
    · unfold L2.start
      rw [r.length, hl, hn]
      exact start_env r _
    · cases fl with
      | rt v =>
        have h1 : Po K mu F' H Q v S1 := h1
        exact h1
      | nx env =>
        have h1 : Po K mu F' H Q .non S1 := h1
        exact fun σ' H' mu' e g' _ => h1 .non H' mu' e g' .non
      | bk _ => exact h1.elim
      | ct _ => exact h1.elim
/-- no level: nothing is called -/
theorem fn_zero {m : XM} {pr : Prog} {g k : Nat} {f : Addr} {fd : FuncData} {ps : List Str} : FnOkG P w K mg base (L2.CX P w) k f fd ps (spF K m (callF pr 0 g)) :=
  ⟨fun vs H Q E ⟨_, _, _, _, _, _, hw⟩ => hw.elim, fun A outer s H args us vs Q E _ _ _ _ _ ⟨_, _, _, _, _, _, hw⟩ => hw.elim⟩
end
end Ev
/-! Ev: the module's table; the law's end -/
namespace Ev
open PySem PySem.Spec
open PyProof.Rows L2
variable [LamN]

section
variable {K : PySem.W.Frag}
def chkF (T : TT) (x : Str) (N : List Str) (d : FDef) (st : Stmt) : Bool :=
  fnScB N d.np (defScope st) && Nat.beq N.length d.ns && chkSs (ccOf T x N (defScope st)) d.body (defBody st)
/-- a def of the table -/
structure Ent (K : PySem.W.Frag) (T : TT) (x : Str) (d : FDef) (N : List Str) (st : Stmt) (f : Addr) (fd : FuncData) : Prop where
  F : Fun K x x st f fd
  at_ : PySem.W.nsIn K mainGlobals x = some (some (.ref f))
  binds : Binds K fd (N.take d.np) []
  chk : chkF T x N d st = true
def EntE (K : PySem.W.Frag) (T : TT) (x : Str) (o : Option FDef) : Prop := ∃ d N st f fd, o = some d ∧ Ent K T x d N st f fd
theorem ent_mk {T : TT} {x : Str} {d : FDef} {N ps : List Str} {st : Stmt} {f : Addr} {oc : Value} {od an : Option Addr} {osl : Array (Option Value)} {kV doc pm cdv ct : Value}
    (a : PySem.W.nsIn K mainGlobals x = some (some (.ref f)))
    (l : K.lookup f = some ⟨oc, od, .func (PySem.W.fnOf x x (defArgs st) (defBody st) (defScope st) .none kV doc pm an cdv ct), osl⟩)
    (c : PySem.W.codeIn K cdv x = true) (k : PySem.W.keepIn K (.ref f) = true) (hps : N.take d.np = ps)
    (hb : ∀ (kV doc pm : Value) (an : Option Addr) (cdv ct : Value) (us : List Value), us.length = ps.length → bindArgs (PySem.W.fnOf x x (defArgs st) (defBody st) (defScope st) .none kV doc pm an cdv ct) ⟨us, []⟩ = pure (ps.zip us))
    (chk : chkF T x N d st = true) : Ent K T x d N st f (PySem.W.fnOf x x (defArgs st) (defBody st) (defScope st) .none kV doc pm an cdv ct) :=
  ⟨fun_mk l c k, a, by rw [hps]; exact (fun_mk l c k).binds hb, chk⟩
theorem Ent.e {T : TT} {x : Str} {d : FDef} {N : List Str} {st : Stmt} {f : Addr} {fd : FuncData} (h : Ent K T x d N st f fd) : EntE K T x (some d) := ⟨d, N, st, f, fd, rfl, h⟩
/-- a def that tells what is met -/
def MEnt (K : PySem.W.Frag) (xt : XTab) (x : Str) (hs : List (Nat × HK)) (fin : D) : Prop :=
  ∃ gm fdm st a n, PySem.W.nsIn K mainGlobals x = some (some (.ref gm)) ∧ Fun K x x st gm fdm ∧ Binds K fdm [a] [] ∧ metB xt a n st hs fin = true ∧ hsB xt hs = true
theorem ment_mk {xt : XTab} {x a n : Str} {hs : List (Nat × HK)} {fin : D} {st : Stmt} {f : Addr} {oc : Value} {od an : Option Addr} {osl : Array (Option Value)} {kV doc pm cdv ct : Value}
    (e : PySem.W.nsIn K mainGlobals x = some (some (.ref f)))
    (l : K.lookup f = some ⟨oc, od, .func (PySem.W.fnOf x x (defArgs st) (defBody st) (defScope st) .none kV doc pm an cdv ct), osl⟩)
    (c : PySem.W.codeIn K cdv x = true) (k : PySem.W.keepIn K (.ref f) = true)
    (hb : ∀ (kV doc pm : Value) (an : Option Addr) (cdv ct : Value) (us : List Value), us.length = [a].length → bindArgs (PySem.W.fnOf x x (defArgs st) (defBody st) (defScope st) .none kV doc pm an cdv ct) ⟨us, []⟩ = pure ([a].zip us))
    (m : (metB xt a n st hs fin && hsB xt hs) = true) : MEnt K xt x hs fin :=
  ⟨f, _, st, a, n, e, fun_mk l c k, (fun_mk l c k).binds hb, (Bool.and_eq_true _ _ ▸ m).1, (Bool.and_eq_true _ _ ▸ m).2⟩
/-- a class of exceptions -/
structure XE (P : Program) (K : PySem.W.Frag) (r : XRow) (C : Addr) : Prop where
  at_ : PySem.W.nsIn K mainGlobals r.name = some (some (.ref C))
  e : ∀ mg : Str → Option Value, mg "super" = none → ExcE P K mg r C
  db : (r.name == ("__debug__" : Str)) = false
  hd : PySem.W.hasDictIn K C = true
  sb : PySem.W.subIn K (.ref C) (.type "BaseException") = some true
  ty : PySem.W.typeIn K (.ref C) = some (.type "type")
theorem xe_plain {P : Program} {r : XRow} {C : Addr} (at_ : PySem.W.nsIn K mainGlobals r.name = some (some (.ref C))) (hd : PySem.W.hasDictIn K C = true) (sb : PySem.W.subIn K (.ref C) (.type "BaseException") = some true) (ty : PySem.W.typeIn K (.ref C) = some (.type "type"))
    (ex : PySem.W.excIn K C [.type "ValueError", .type "Exception", .type "BaseException", .type "object"] "ValueError.__new__" = true) (kp : PySem.W.keepIn K (.ref C) = true) (hf : r.fld = none) (db : (r.name == ("__debug__" : Str)) = false) : XE P K r C :=
  ⟨at_, fun mg _ => .plain hf ex kp sb ty, db, hd, sb, ty⟩
def oscB (sc : Scope) (x1 x2 : Str) : Bool :=
  (match sc.kind with | .function => true | _ => false) && !sc.isCoroutine && !sc.isGenerator && sc.names.all (fun y => match y.2 with | .cell => false | .free => y.1 == ("__class__" : Str) | _ => true) && decide (sc.names.lookup x1 = some .local) && decide (sc.names.lookup x2 = some .local) &&
    decide (sc.names.lookup ("super" : Str) = some .globalImplicit) && decide (sc.names.lookup ("__class__" : Str) = some .free) && !decide (x1 = x2) && !(x1 == ("__debug__" : Str)) && !(x1 == ("__classdict__" : Str)) && !(x2 == ("__debug__" : Str)) && !(x2 == ("__classdict__" : Str))
theorem xe_own {P : Program} {r : XRow} {C fI cda cc : Addr} {f x1 x2 qual : Str} {params : Arguments} {scope : Scope} {b : List Stmt} {oc : Value} {od an : Option Addr} {osl : Array (Option Value)} {dV kV doc pm ct : Value}
    {nm q : Str} {N : Addr} {bs bm : List Value} {sn : List Str} {sub : List Value} {ab : Bool} {col : Option Bool} {dd : Option Addr} {k0 k1 k2 k3 k5 : Option Value}
    {ccl : Value} {cdd : Option Addr} {vs : Array Value} {ccs : Array (Option Value)} {file : Str} {tf : Tok} {cl : Value} {cld : Option Addr} {csl : Array (Option Value)}
    (at_ : PySem.W.nsIn K mainGlobals r.name = some (some (.ref C))) (hd : PySem.W.hasDictIn K C = true) (sb : PySem.W.subIn K (.ref C) (.type "BaseException") = some true) (ty : PySem.W.typeIn K (.ref C) = some (.type "type"))
    (iC : PySem.W.findIn K (.ref C) "__init__" = some (some (.ref fI))) (lI : K.lookup fI = some ⟨oc, od, .func (PySem.W.ksFn "__init__" qual params b scope dV kV doc pm an (.ref cda) ct cc), osl⟩)
    (hcd : PySem.W.codeIn K (.ref cda) qual = true) (lc : K.lookup cda = some ⟨ccl, cdd, .fields vs, ccs⟩) (lcc : K.lookup cc = some ⟨cl, cld, .cell (some (.ref C)), csl⟩)
    (lC : K.lookup C = some (excClassObj nm q C N bs bm true sn sub ab col dd k0 k1 k2 k3 k5 "ValueError.__new__")) (sa : PySem.W.findIn K (.ref C) "__setattr__" = some (some (.builtin "object.__setattr__"))) (kC : PySem.W.keepIn K (.ref C) = true)
    (opq : PySem.W.nsIn K PySem.cStatics "thirdparty.any" = some none) (nf : PySem.W.findIn K (.ref C) f = some none) (ve : PySem.W.subIn K (.ref C) (.type "ValueError") = some true) (me : PySem.W.mroIn K C (.ref C) = some true)
    (tI : PySem.W.typeIn K (.ref fI) = some (.type "function")) (ga : PySem.W.findIn K (.ref C) "__getattribute__" = some (some (.builtin "BaseException.__getattribute__"))) (gg : PySem.W.findIn K (.ref C) "__getattr__" = some none)
    (hbm : PySem.HandSPX.refsVE bm = true) (hv : vs[2]? = some (.str file tf)) (hfile : ((P.main.file : Str) == file) = true) (sup : PySem.W.ks_superIn K C C "__init__" = some (some (.builtin "ValueError.__init__")))
    (top : (P.main.scope.names.lookup ("super" : Str)).isSome = false)
    (txt : ∃ (p0 p1 p2 p3 p4 p5 p6 p7 p8 p9 : Pos), b = [.Expr (.Call (.Attribute (.Call (.Name "super" p0) [] [] p1) "__init__" p2) [.Name x2 p3] [] p4) p5, .Assign [.Attribute (.Name x1 p6) f p7] (.Name x2 p8) p9] ∧
      ∃ pl : Sem Bool, ∀ env : PySem.Env, eval (.Call (.Attribute (.Call (.Name "super" p0) [] [] p1) "__init__" p2) [.Name x2 p3] [] p4) env = (do
        let ov ← attributeBase (.Call (.Name "super" p0) [] [] p1) "__init__" env (eval (.Call (.Name "super" p0) [] [] p1) env)
        standAt p2.atName
        let (f, first) ← holding [ov] (getMethod ov "__init__" pl)
        callWith p4 f first (backTo p4 (starEach [.Name x2 p3] env)) []))
    (hp : ∃ ar, (params.posonlyargs ++ params.args).head? = some ar ∧ ar.arg = x1) (sc : oscB scope x1 x2 = true)
    (hb : ∀ us : List Value, us.length = [x1, x2].length → bindArgs (PySem.W.ksFn "__init__" qual params b scope dV kV doc pm an (.ref cda) ct cc) ⟨us, []⟩ = pure ([x1, x2].zip us))
    (hf : r.fld = some f) (db : (r.name == ("__debug__" : Str)) = false) : XE P K r C := by
  unfold oscB at sc
  simp only [Bool.and_eq_true, Bool.not_eq_true', decide_eq_true_eq, List.all_eq_true, decide_eq_false_iff_not] at sc
  obtain ⟨⟨⟨⟨⟨⟨⟨⟨⟨⟨⟨⟨s1, s2⟩, s3⟩, s4⟩, s5⟩, s6⟩, s7⟩, s8⟩, s9⟩, s10⟩, s11⟩, s12⟩, s13⟩ := sc
  refine ⟨at_, fun mg hsu => .own hf { T := ⟨⟨nm, q, N, bs, bm, sn, sub, ab, col, dd, k0, k1, k2, k3, k5, lC, hbm⟩, sa, sb, ty, kC⟩, lk := ⟨oc, od, osl, dV, kV, doc, pm, an, ct, lI, rfl⟩, hcd := hcd, code := ⟨ccl, cdd, vs, ccs, file, tf, lc, hv, hfile⟩, cell := ⟨cl, cld, csl, lcc⟩, sup := sup, ns := hsu, opq := opq, nf := nf, ve := ve, me := me, top := top, txt := txt, hp := hp, kind := ?_, co := s2, gen := s3, own := fun y hy => ?_, n1 := s5, n2 := s6, ks := s7, kc := s8, ne := s9, d1 := ⟨s10, s11⟩, d2 := ⟨s12, s13⟩ } iC tI (.all hb) ga gg, db, hd, sb, ty⟩
  · split at s1
    · assumption
    · cases s1
  · have := s4 y hy
    refine ⟨fun e => ?_, fun e => ?_⟩
    · rw [e] at this; cases this
    · rw [e] at this
      simpa using this
def XAll (P : Program) (K : PySem.W.Frag) : List XRow → List Addr → Prop
  | [], [] => True
  | r :: rs, C :: Cs => XE P K r C ∧ XAll P K rs Cs
  | _, _ => False
theorem XAll.get {P : Program} : ∀ {rs : List XRow} {Cs : List Addr}, XAll P K rs Cs → ∀ (i : Nat) (r : XRow), rs[i]? = some r → ∃ C, Cs[i]? = some C ∧ XE P K r C
  | [], _, _, i, r, h => by simp at h
  | _ :: _, [], h, _, _, _ => h.elim
  | r0 :: rs, C :: Cs, h, 0, r, e => by
    simp at e; subst e; exact ⟨C, rfl, h.1⟩
  | r0 :: rs, C :: Cs, h, i + 1, r, e => by
    obtain ⟨C', h1, h2⟩ := XAll.get h.2 i r (by simpa using e)
    exact ⟨C', by simpa using h1, h2⟩
def subs (K : PySem.W.Frag) (i : Nat) (C : Addr) : Nat → List Addr → Bool
  | _, [] => true
  | j, C' :: r => (PySem.W.subIn K (.ref C) (.ref C') == some (Nat.beq j i)) && subs K i C (j + 1) r
def subAll (K : PySem.W.Frag) (all : List Addr) : Nat → List Addr → Bool
  | _, [] => true
  | i, C :: r => subs K i C 0 all && subAll K all (i + 1) r
theorem subs_ok {i : Nat} {C : Addr} : ∀ {l : List Addr} {j : Nat}, subs K i C j l = true → ∀ (n : Nat) C', l[n]? = some C' → PySem.W.subIn K (.ref C) (.ref C') = some (Nat.beq (j + n) i)
  | [], _, _, n, C', e => by simp at e
  | D0 :: r, j, h, 0, C', e => by
    unfold subs at h
    rw [Bool.and_eq_true] at h
    simp at e; subst e
    exact beq_iff_eq.mp h.1
  | D0 :: r, j, h, n + 1, C', e => by
    unfold subs at h
    rw [Bool.and_eq_true] at h
    have := subs_ok h.2 n C' (by simpa using e)
    rw [this, show j + 1 + n = j + (n + 1) by omega]
theorem subAll_ok {all : List Addr} : ∀ {l : List Addr} {j : Nat}, subAll K all j l = true → ∀ (n : Nat) C, l[n]? = some C → subs K (j + n) C 0 all = true
  | [], _, _, n, C', e => by simp at e
  | D0 :: r, j, h, 0, C', e => by
    unfold subAll at h
    rw [Bool.and_eq_true] at h
    simp at e; subst e
    exact h.1
  | D0 :: r, j, h, n + 1, C', e => by
    unfold subAll at h
    rw [Bool.and_eq_true] at h
    have := subAll_ok h.2 n C' (by simpa using e)
    rw [show j + 1 + n = j + (n + 1) by omega] at this
    exact this
/-- the tables of code objects -/
def TbIs (K : PySem.W.Frag) : List Str → List (Addr × Addr) → Prop
  | [], [] => True
  | x :: xs, p :: ps => PySem.W.tabIn K x = some p ∧ TbIs K xs ps
  | _, _ => False
theorem TbIs.fm : ∀ {xs : List Str} {ps : List (Addr × Addr)}, TbIs K xs ps → xs.filterMap (PySem.W.tabIn K) = ps
  | [], [], _ => rfl
  | [], _ :: _, h => h.elim
  | _ :: _, [], h => h.elim
  | x :: xs, p :: ps, h => by rw [List.filterMap_cons, h.1, TbIs.fm h.2]
theorem TbIs.mem : ∀ {xs : List Str} {ps : List (Addr × Addr)}, TbIs K xs ps → ∀ y, y ∈ xs → ∃ p, p ∈ ps ∧ PySem.W.tabIn K y = some p
  | [], [], _, y, h => by simp at h
  | [], _ :: _, h, _, _ => h.elim
  | _ :: _, [], h, _, _ => h.elim
  | x :: xs, p :: ps, h, y, hy => by
    rcases List.mem_cons.mp hy with rfl | hy
    · exact ⟨p, List.mem_cons_self, h.1⟩
    · obtain ⟨q, h1, h2⟩ := TbIs.mem h.2 y hy
      exact ⟨q, List.mem_cons_of_mem _ h1, h2⟩
theorem TbIs.inj : ∀ {xs : List Str} {ps : List (Addr × Addr)}, TbIs K xs ps → (ps.map (·.2)).Nodup → ∀ y y' p p', y ∈ xs → y' ∈ xs → PySem.W.tabIn K y = some p → PySem.W.tabIn K y' = some p' → p.2 = p'.2 → y = y'
  | [], [], _, _, y, _, _, _, h, _, _, _, _ => by simp at h
  | [], _ :: _, h, _, _, _, _, _, _, _, _, _, _ => h.elim
  | _ :: _, [], h, _, _, _, _, _, _, _, _, _, _ => h.elim
  | x :: xs, p0 :: ps, h, nd, y, y', p, p', hy, hy', e1, e2, e => by
    rw [List.map_cons, List.nodup_cons] at nd
    rcases List.mem_cons.mp hy with rfl | ha
    · rcases List.mem_cons.mp hy' with rfl | hb
      · rfl
      · rw [h.1] at e1; cases e1
        obtain ⟨q, h1, h2⟩ := TbIs.mem h.2 y' hb
        rw [e2] at h2; cases h2
        exact absurd (List.mem_map.mpr ⟨p', h1, e.symm⟩) nd.1
    · rcases List.mem_cons.mp hy' with rfl | hb
      · rw [h.1] at e2; cases e2
        obtain ⟨q, h1, h2⟩ := TbIs.mem h.2 y ha
        rw [e1] at h2; cases h2
        exact absurd (List.mem_map.mpr ⟨p, h1, e⟩) nd.1
      · exact TbIs.inj h.2 nd.2 y y' p p' ha hb e1 e2 e
/-- a module's value -/
def CnE (K : PySem.W.Frag) (x : Str) (gv : Option D) : Prop := ∃ v u, PySem.W.nsIn K mainGlobals x = some (some u) ∧ RelV v u ∧ ∀ d, gv = some d → ∀ mu F H, Rp K mu F H v d
theorem cn_int {x : Str} {i : Int} {t : Tok} (h : PySem.W.nsIn K mainGlobals x = some (some (.int i t))) : CnE K x (some (.int i)) := ⟨.int i, _, h, ⟨t, rfl⟩, fun d e mu F H => by cases e; exact .int i⟩
theorem cn_str {x : Str} {i : Str} {t : Tok} (h : PySem.W.nsIn K mainGlobals x = some (some (.str i t))) : CnE K x (some (.str i)) := ⟨.str i, _, h, ⟨t, rfl⟩, fun d e mu F H => by cases e; exact .str i⟩
theorem cn_tupI {x : Str} {a : Addr} {ns : List Int} {od : Option Addr} {its : Array Value} {n : Nat} {sl : Array (Option Value)} (h : PySem.W.nsIn K mainGlobals x = some (some (.ref a))) (l : K.lookup a = some ⟨.type "tuple", od, .seq its n, sl⟩) (hs : its.size ≤ sizeLine) (v : Vals (ns.map V.int) its.toList) : CnE K x (some (.tup (ns.map D.int))) :=
  ⟨.ref a, .ref a, h, rfl, fun d e mu F H => by cases e; exact .tup (.inr ⟨_, its, n, l, rfl, rfl, hs, v⟩) (Rps.ints ns)⟩
def TabAll (K : PySem.W.Frag) (T : TT) : List (Str × Bool) → List (Option FDef) → List (Option D) → Prop
  | [], [], [] => True
  | (x, true) :: r, o :: r', _ :: r'' => EntE K T x o ∧ TabAll K T r r' r''
  | (x, false) :: r, _ :: r', o :: r'' => CnE K x o ∧ TabAll K T r r' r''
  | _, _, _ => False
theorem TabAll.fn {T : TT} : ∀ {a : List (Str × Bool)} {b : List (Option FDef)} {c : List (Option D)}, TabAll K T a b c → ∀ (g : Nat) (x : Str), a[g]? = some (x, true) → ∃ o, b[g]? = some o ∧ EntE K T x o
  | [], _, _, _, g, x, h => by simp at h
  | (y, true) :: r, [], _, t, _, _, _ => t.elim
  | (y, false) :: r, [], _, t, _, _, _ => t.elim
  | (y, true) :: r, _ :: _, [], t, _, _, _ => t.elim
  | (y, false) :: r, _ :: _, [], t, _, _, _ => t.elim
  | (y, true) :: r, o :: r', _ :: r'', t, 0, x, h => by
    simp at h; subst h; exact ⟨o, rfl, t.1⟩
  | (y, false) :: r, o :: r', _ :: r'', t, 0, x, h => by simp at h
  | (y, true) :: r, o :: r', _ :: r'', t, g + 1, x, h => by
    obtain ⟨o', h1, h2⟩ := TabAll.fn t.2 g x (by simpa using h)
    exact ⟨o', by simpa using h1, h2⟩
  | (y, false) :: r, o :: r', _ :: r'', t, g + 1, x, h => by
    obtain ⟨o', h1, h2⟩ := TabAll.fn t.2 g x (by simpa using h)
    exact ⟨o', by simpa using h1, h2⟩
theorem TabAll.cn {T : TT} : ∀ {a : List (Str × Bool)} {b : List (Option FDef)} {c : List (Option D)}, TabAll K T a b c → ∀ (g : Nat) (x : Str), a[g]? = some (x, false) → ∃ o, c[g]? = some o ∧ CnE K x o
  | [], _, _, _, g, x, h => by simp at h
  | (y, true) :: r, [], _, t, _, _, _ => t.elim
  | (y, false) :: r, [], _, t, _, _, _ => t.elim
  | (y, true) :: r, _ :: _, [], t, _, _, _ => t.elim
  | (y, false) :: r, _ :: _, [], t, _, _, _ => t.elim
  | (y, true) :: r, o :: r', _ :: r'', t, 0, x, h => by simp at h
  | (y, false) :: r, _ :: r', o :: r'', t, 0, x, h => by
    simp at h; subst h; exact ⟨o, rfl, t.1⟩
  | (y, true) :: r, o :: r', _ :: r'', t, g + 1, x, h => by
    obtain ⟨o', h1, h2⟩ := TabAll.cn t.2 g x (by simpa using h)
    exact ⟨o', by simpa using h1, h2⟩
  | (y, false) :: r, o :: r', _ :: r'', t, g + 1, x, h => by
    obtain ⟨o', h1, h2⟩ := TabAll.cn t.2 g x (by simpa using h)
    exact ⟨o', by simpa using h1, h2⟩
def MAll (K : PySem.W.Frag) (xt : XTab) : List (Str × List (Nat × HK) × D) → Prop
  | [] => True
  | q :: r => MEnt K xt q.1 q.2.1 q.2.2 ∧ MAll K xt r
theorem MAll.all {xt : XTab} : ∀ {l : List (Str × List (Nat × HK) × D)}, MAll K xt l → ∀ q ∈ l, MEnt K xt q.1 q.2.1 q.2.2
  | [], _, q, h => by simp at h
  | a :: r, m, q, h => by
    rcases List.mem_cons.mp h with rfl | h
    · exact m.1
    · exact MAll.all m.2 q h
def NAll (K : PySem.W.Frag) : List (Addr × Addr) → Prop
  | [] => True
  | q :: r => K.lookup q.2 = none ∧ NAll K r
theorem NAll.all : ∀ {l : List (Addr × Addr)}, NAll K l → ∀ q ∈ l, K.lookup q.2 = none
  | [], _, q, h => by simp at h
  | a :: r, m, q, h => by
    rcases List.mem_cons.mp h with rfl | h
    · exact m.1
    · exact NAll.all m.2 q h
def BAll (K : PySem.W.Frag) : List Str → Prop
  | [] => True
  | q :: r => PySem.W.nsIn K mainGlobals q = some none ∧ BAll K r
theorem BAll.all : ∀ {l : List Str}, BAll K l → ∀ q ∈ l, PySem.W.nsIn K mainGlobals q = some none
  | [], _, q, h => by simp at h
  | a :: r, m, q, h => by
    rcases List.mem_cons.mp h with rfl | h
    · exact m.1
    · exact BAll.all m.2 q h
/-- all that the module's top has written -/
structure Tab (P : Program) (K : PySem.W.Frag) (T : TT) (fns : List (Option FDef)) (gvs : List (Option D)) (rows : List XRow) (Cs : List Addr) (ps : List (Addr × Addr)) : Prop where
  all : TabAll K T T.gs fns gvs
  bl : ∀ x, x ∈ T.bl → PySem.W.nsIn K mainGlobals x = some none
  gc : T.gcd = true → PySem.W.nsIn K mainGlobals "gcd" = some (some (.builtin "math.gcd"))
  xt : T.xt = nth rows
  xs : XAll P K rows Cs
  sub : subAll K Cs 0 Cs = true
  ms : ∀ q ∈ T.ms, MEnt K T.xt q.1 q.2.1 q.2.2
  rp : PySem.W.nsIn K mainGlobals "repr" = some none
  su : PySem.W.nsIn K mainGlobals "super" = some none
  tb : TbIs K LamN.names ps
  nd : (ps.map (·.2)).Nodup
  nT : ∀ p ∈ ps, K.lookup p.2 = none
  gse : T.gs = LamN.gs
def gvOf (gvs : List (Option D)) (g : Nat) : Option D := match nth gvs g with
  | some o => o
  | none => none
def prOf (fns : List (Option FDef)) (gvs : List (Option D)) (fuel : Nat) : Prog := ⟨gvOf gvs, fns, fuel⟩
section
variable {P : Program} {w : World} {h : Heap} {mg : Str → Option Value} {base : Heap} {T : TT} {fns : List (Option FDef)} {gvs : List (Option D)} {fuel : Nat} {rows : List XRow} {Cs : List Addr} {ps : List (Addr × Addr)}
theorem Tab.xgd (Z : Tab P K T fns gvs rows Cs ps) (X : K.In h) (G : h.Ns mainGlobals mg) : XGd P K mg T.xt := by
  have at_ : ∀ c r, T.xt c = some r → ∃ C, Cs[c]? = some C ∧ XE P K r C ∧ mg r.name = some (.ref C) := fun c r e => by
    rw [Z.xt, nth_eq] at e
    obtain ⟨C, h1, h2⟩ := Z.xs.get c r e
    exact ⟨C, h1, h2, PySem.W.mg_of X G h2.at_⟩
  refine ⟨fun c r e => ?_, fun c c' r r' C C' e e' m m' => ?_, fun c r C e m hf => ?_⟩
  · obtain ⟨C, _, h2, h3⟩ := at_ c r e
    exact ⟨C, h3, h2.e mg (PySem.W.mg_none_of X G Z.su), h2.db⟩
  · obtain ⟨D, h1, h2, h3⟩ := at_ c r e
    obtain ⟨D', h1', h2', h3'⟩ := at_ c' r' e'
    rw [h3] at m; cases m
    rw [h3'] at m'; cases m'
    have := subs_ok (subAll_ok Z.sub c C h1) c' C' h1'
    rw [Nat.zero_add, Nat.zero_add] at this
    exact PySem.W.exm_ref h2'.sb h2'.hd h2'.ty this
  · obtain ⟨D, h1, h2, h3⟩ := at_ c r e
    rw [h3] at m; cases m
    exact h2.hd
theorem Tab.glob (Z : Tab P K T fns gvs rows Cs ps) (X : K.In h) (G : h.Ns mainGlobals mg) (hT : ∀ p ∈ ps, LamX.TabB base mg p.1 p.2) : Glob P K mg base T (prOf fns gvs fuel).gv where
  bl := fun x hx => PySem.W.mg_none_of X G (Z.bl x hx)
  gc := fun e => PySem.W.mg_of X G (Z.gc e)
  cns := fun g x e => by
    obtain ⟨o, h1, v, u, h2, h3, h4⟩ := Z.all.cn g x e
    refine ⟨v, u, PySem.W.mg_of X G h2, h3, fun d hd => h4 d ?_⟩
    have : (match nth gvs g with | some o => o | none => none) = some d := hd
    rw [nth_eq, h1] at this
    exact this
  ms := fun m x hs fin e => by
    obtain ⟨gm, fdm, st, a, n, h1, h2, h3, h4, h5⟩ := Z.ms _ (List.mem_of_getElem? e)
    exact ⟨gm, fdm, st, a, n, PySem.W.mg_of X G h1, h2.kp, h2, h3, h4, h5⟩
  xg := Z.xgd X G
  rp0 := PySem.W.mg_none_of X G Z.rp
  uq := fun p hp p' hp' e => by
    unfold tbOf at hp hp'
    obtain ⟨y, hy, e1⟩ := List.mem_filterMap.mp hp
    obtain ⟨y', hy', e2⟩ := List.mem_filterMap.mp hp'
    obtain ⟨q, h1, rfl⟩ := Option.map_eq_some_iff.mp e1
    obtain ⟨q', h1', rfl⟩ := Option.map_eq_some_iff.mp e2
    rw [Z.tb.inj Z.nd y y' q q' hy hy' h1 h1' e]
  lam := fun x hx => by
    obtain ⟨⟨cd, Q⟩, h1, h2⟩ := Z.tb.mem x hx
    exact ⟨cd, Q, h2, hT _ h1⟩
  fvs := fun g a ⟨x, h1, h2⟩ => ⟨x, by rw [Z.gse]; exact h1, PySem.W.mg_of X G h2⟩
  fvi := fun g x a h1 h2 => by
    obtain ⟨o, _, d, N, st, f, fd, rfl, E⟩ := Z.all.fn g x h1
    have h3 := PySem.W.mg_of X G E.at_
    rw [h2] at h3
    cases h3
    exact ⟨x, by rw [← Z.gse]; exact h1, E.at_⟩
theorem Tab.levels (Z : Tab P K T fns gvs rows Cs ps) (X : K.In h) (G : h.Ns mainGlobals mg) (hT : ∀ p ∈ ps, LamX.TabB base mg p.1 p.2) : ∀ k j, j ≤ k → AllOk P w K mg base ⟨mg, T.xt⟩ T.gs (callF (prOf fns gvs fuel) j) (j + 2)
  | _, 0, _ => fun g x e => by
    obtain ⟨o, h1, d, N, st, f, fd, rfl, E⟩ := Z.all.fn g x e
    exact ⟨f, fd, N.take d.np, PySem.W.mg_of X G E.at_, E.F.kp, E.binds, fn_zero⟩
  | 0, j + 1, hj => by omega
  | k + 1, j + 1, hj => fun g x e => by
    obtain ⟨o, h1, d, N, st, f, fd, rfl, E⟩ := Z.all.fn g x e
    have hc := E.chk
    unfold chkF at hc
    simp only [Bool.and_eq_true] at hc
    exact ⟨f, fd, N.take d.np, PySem.W.mg_of X G E.at_, E.F.kp, E.binds, fn_step (Z.glob X G hT) rfl (fun i hi => Tab.levels Z X G hT k i (by omega)) E.F E.at_ h1 hc.1.1 hc.1.2 hc.2⟩
theorem rps_ints (K : PySem.W.Frag) (H : Hp) (ns : List Int) : Rps K [] [] H (ns.map V.int) (ns.map D.int) := Rps.ints ns
/-- the law's call -/
theorem law_sp {cl : List D → M D} {a : Addr} {H : Hp} {ns : List Int} (hO : LamX.Tabs (tbOf K) H) (hS : SqL K H a (ns.map V.int)) {m : XM} (hw : WP (cl [.scr (ns.map .int)] []) fun d _ => d = .bl true) : spF K m cl [.ref a] H (fun v _ => v = .bl true) E0 := by
  have hs : SqS K [] [] H a (ns.map V.int) := by
    rcases hS with (h | ⟨o, h⟩) | h
    · exact .inl ⟨h, by simp, by simp⟩
    · exact .inr (.inl ⟨o, h⟩)
    · exact .inr (.inr h)
  refine ⟨[], [], [], [.scr (ns.map .int)], ⟨⟨by simp, by simp, by simp, by simp⟩, rfl, (fun n c a h _ => by simp at h), hO⟩, .cons (.scr hs (rps_ints K H ns)) .nil, hw.mono2 (fun d S e v H' mu' _ _ r => ?_) fun _ _ _ z => z.elim⟩
  subst e
  cases r
  rfl
/-- the law's def at level k + 1 -/
theorem law_G {l : PySem.W.OpenLaw} {n k g : Nat} {d : FDef} {N : List Str} {st : Stmt} {fa f : Addr} {fd : FuncData} {x : Str} (Z : Tab l.prog K T fns gvs rows Cs ps) (X : K.In h) (G : h.Ns mainGlobals mg) (hfa : mg "law" = some (.ref fa)) (E : Ent K T "law" d N st f fd) (hg : fns[g]? = some (some d)) (hN : N.take d.np = [x])
    (hb : ∀ (kV doc pm : Value) (an : Option Addr) (cdv ct : Value) (u : Value), bindArgs (PySem.W.fnOf "law" "law" (defArgs st) (defBody st) (defScope st) .none kV doc pm an cdv ct) ⟨[u], []⟩ = pure [(x, u)])
    (hw : ∀ ns : List Int, ns.length ≤ n → WP (callF (prOf fns gvs fuel) (k + 1) g [.scr (ns.map .int)] []) fun d _ => d = .bl true) :
    LawG l w K (k + 3) n x mg fa h (LamN.names.filterMap (PySem.W.tabIn K)) := by
  have e := hfa.symm.trans (PySem.W.mg_of X G E.at_)
  cases e
  rw [Z.tb.fm]
  refine ⟨fd, spF K ⟨mg, T.xt⟩ (callF (prOf fns gvs fuel) (k + 1) g), Z.nT, fun s u => ?_, fun H a ns hl _ hH hS => law_sp (fun p hp => ?_) hS (hw ns hl), fun base hB hns hT => ?_⟩
  · obtain ⟨oc, od, kV, doc, pm, an, cdv, ct, osl, rfl, lk, hcd⟩ := E.F.ex
    exact .of_eq (hb kV doc pm an cdv ct u)
  · unfold tbOf at hp
    obtain ⟨y, hy, e1⟩ := List.mem_filterMap.mp hp
    obtain ⟨q, h1, rfl⟩ := Option.map_eq_some_iff.mp e1
    obtain ⟨q', h2, h3⟩ := Z.tb.mem y hy
    rw [h1] at h3; cases h3
    exact LamX.TabS.nil (hH _ h2)
  · have hc := E.chk
    unfold chkF at hc
    simp only [Bool.and_eq_true] at hc
    have := fn_step (m := ⟨mg, T.xt⟩) (P := l.prog) (w := w) (base := base) (pr := prOf fns gvs fuel) (Z.glob hB hns hT) rfl (Z.levels hB hns hT k) E.F E.at_ hg hc.1.1 hc.1.2 hc.2
    rw [hN] at this
    exact this
end
end
end Ev
/-! Ev: running it by rewriting -/
namespace Ev
open PySem PySem.Spec
open PyProof.Rows L2
variable [LamN]

/-- a mark that keeps rewriting out of f -/
def Tf {α β : Type} (f : α → M β) : Type := Unit
def Tf.mk {α β : Type} {f : α → M β} : Tf f := ()
def Rs.b {α β : Type} (r : Rs α) (f : α → M β) (u : Tf f := Tf.mk) : Rs β := match r with
  | .ok a S => f a S
  | .exc c d S => .exc c d S
  | .no => .no
theorem b_ok {α β : Type} {a : α} {S : Store} {f : α → M β} {u : Tf f} : Rs.b (.ok a S) f u = f a S := rfl
theorem b_assoc {α β γ : Type} {r : Rs α} {f : α → M β} {u : Tf f} {g : β → M γ} {v : Tf g} : Rs.b (Rs.b r f u) g v = Rs.b r fun a S => Rs.b (f a S) g := by
  cases r <;> rfl
theorem b_ext {α β : Type} {r : Rs α} {f g : α → M β} (h : ∀ x S, f x S = g x S) : Rs.b r f = Rs.b r g := by
  have : f = g := by funext x S; exact h x S
  subst this; rfl
theorem bnd_b {α β : Type} {m : M α} {f : α → M β} {S : Store} : bnd m f S = Rs.b (m S) f := by unfold bnd Rs.b; rfl
theorem WP_ok {α : Type} {a : α} {S : Store} {P : α → Store → Prop} : WP (.ok a S) P = P a S := rfl
theorem WP_b {α β : Type} {r : Rs α} {f : α → M β} {u : Tf f} {P : β → Store → Prop} : WP (Rs.b r f u) P = WP r fun a S => WP (f a S) P := by
  cases r <;> rfl
theorem WP_call {α β : Type} {r : Rs α} {f : α → M β} {u : Tf f} {P : β → Store → Prop} {Q : α → Store → Prop} (h : WP r Q) (h2 : ∀ a S, Q a S → WP (f a S) P) : WP (Rs.b r f u) P := by
  cases r with
  | ok a S => exact h2 a S h
  | exc _ _ _ => exact h.elim
  | no => exact h.elim
theorem WP_eq {α : Type} {r : Rs α} {a : α} {S : Store} {P : α → Store → Prop} (h : r = .ok a S) (p : P a S) : WP r P := by rw [h]; exact p
theorem ret_ok {α : Type} {a : α} {S : Store} : ret a S = .ok a S := rfl
section
variable {C : Ctx} {env : Env} {S : Store} {a b c x : Ex} {xs : List Ex} {i : Int}
/-! ### expressions -/
theorem e_int : evE C (.int i) env S = .ok (.int i) S := rfl
theorem e_bl {b : Bool} : evE C (.bl b) env S = .ok (.bl b) S := rfl
theorem e_non : evE C .non env S = .ok .non S := rfl
theorem e_str {s : Str} : evE C (.str s) env S = .ok (.str s) S := rfl
theorem e_var {n : Nat} : evE C (.var n) env S = getV n env S := rfl
theorem getV_0 {d : D} {r : Env} : getV 0 (some d :: r) S = .ok d S := rfl
theorem getV_s {n : Nat} {o : Option D} {r : Env} : getV (n + 1) (o :: r) S = getV n r S := rfl
theorem e_gl {g : Nat} : evE C (.gl g) env S = opt (C.gv g) S := rfl
theorem opt_some {d : D} : opt (some d) S = .ok d S := rfl
theorem e_bin {o : Op2} {m : Bool} : evE C (.bin o m a b) env S = Rs.b (evE C a env S) fun x S => Rs.b (evE C b env S) fun y => doOp o m x y := by
  show bnd _ _ _ = _
  rw [bnd_b]; refine b_ext fun x S => ?_; exact bnd_b
def negD : D → M D
  | .int i => fun S => .ok (.int (-i)) S
  | _ => stk
theorem negD_int : negD (.int i) S = .ok (.int (-i)) S := rfl
theorem e_neg : evE C (.neg a) env S = Rs.b (evE C a env S) fun x => negD x := by
  show bnd _ _ _ = _
  rw [bnd_b]; refine b_ext fun x S => ?_; cases x <;> simp [negD]
def notD : D → M D
  | .bl i => fun S => .ok (.bl (!i)) S
  | _ => stk
theorem notD_bl {b : Bool} : notD (.bl b) S = .ok (.bl (!b)) S := rfl
theorem e_not : evE C (.not a) env S = Rs.b (evE C a env S) fun x => notD x := by
  show bnd _ _ _ = _
  rw [bnd_b]; refine b_ext fun x S => ?_; cases x <;> rfl
theorem tst_t {x y : M D} : tst (.bl true) x y = x := rfl
theorem tst_f {x y : M D} : tst (.bl false) x y = y := rfl
/-- a choice on a value that was told -/
def ifD {α : Type} (d : D) (x y : M α) : M α := match d with
  | .bl true => x
  | .bl false => y
  | _ => stk
theorem ifD_bl {α : Type} {b : Bool} {x y : M α} : ifD (.bl b) x y S = if b = true then x S else y S := by cases b <;> rfl
theorem ifD_t {α : Type} {x y : M α} : ifD (.bl true) x y S = x S := rfl
theorem ifD_f {α : Type} {x y : M α} : ifD (.bl false) x y S = y S := rfl
theorem tst_if {d : D} {x y : M D} : tst d x y = ifD d x y := by
  cases d <;> first | rfl | skip
def bolD : D → M D
  | .bl i => fun S => .ok (.bl i) S
  | _ => stk
theorem bolD_bl {b : Bool} : bolD (.bl b) S = .ok (.bl b) S := rfl
theorem bnd_boolR {m : M D} : bnd m boolR S = Rs.b (m S) fun x => bolD x := by
  rw [bnd_b]; refine b_ext fun x S => ?_; cases x <;> rfl
def bE (m : EM D) : EM D := fun env => bnd (m env) boolR
theorem bE_app {m : EM D} : bE m env S = Rs.b (m env S) fun x => bolD x := bnd_boolR
def okM {α : Type} (a : α) : M α := fun S => .ok a S
theorem okM_app {α : Type} {a : α} : okM a S = .ok a S := rfl
theorem e_and : evE C (.and a b) env S = Rs.b (evE C a env S) fun x => ifD x (bE (evE C b) env) (okM (.bl false)) := by
  show bnd _ _ _ = _
  rw [bnd_b]; refine b_ext fun x S => ?_
  rw [tst_if]; rfl
theorem e_or : evE C (.or a b) env S = Rs.b (evE C a env S) fun x => ifD x (okM (.bl true)) (bE (evE C b) env) := by
  show bnd _ _ _ = _
  rw [bnd_b]; refine b_ext fun x S => ?_
  rw [tst_if]; rfl
theorem e_cmp {o : Cm} : evE C (.cmp o a b) env S = Rs.b (evE C a env S) fun x S => Rs.b (evE C b env S) fun y => doCmp o x y := by
  show bnd _ _ _ = _
  rw [bnd_b]; refine b_ext fun x S => ?_; exact bnd_b
def chE (c : EM D) (o : Cm) (y : D) : EM D := fun env => bnd (c env) fun z => doCmp o y z
theorem chE_app {m : EM D} {o : Cm} {y : D} : chE m o y env S = Rs.b (m env S) fun z => doCmp o y z := bnd_b
theorem e_chain {o o' : Cm} : evE C (.chain o o' a b c) env S = Rs.b (evE C a env S) fun x S => Rs.b (evE C b env S) fun y S => Rs.b (doCmp o x y S) fun r => ifD r (chE (evE C c) o' y env) (okM (.bl false)) := by
  show bnd _ _ _ = _
  rw [bnd_b]; refine b_ext fun x S => ?_
  rw [bnd_b]; refine b_ext fun y S => ?_
  rw [bnd_b]; refine b_ext fun r S => ?_
  rw [tst_if]; rfl
theorem e_ite : evE C (.ite c a b) env S = Rs.b (evE C c env S) fun x => ifD x (evE C a env) (evE C b env) := by
  show bnd _ _ _ = _
  rw [bnd_b]; refine b_ext fun x S => ?_
  rw [tst_if]
theorem e_tup : evE C (.tup xs) env S = Rs.b (evEs C xs env S) fun ds S => .ok (.tup ds) S := by
  show bnd _ _ _ = _
  rw [bnd_b]; rfl
theorem e_lst {m : Bool} : evE C (.lst m xs) env S = Rs.b (evEs C xs env S) fun ds => mkL m ds := by
  show bnd _ _ _ = _
  rw [bnd_b]
theorem e_ix : evE C (.ix a b) env S = Rs.b (evE C a env S) fun x S => Rs.b (evE C b env S) fun y => doIx x y := by
  show bnd _ _ _ = _
  rw [bnd_b]; refine b_ext fun x S => ?_; exact bnd_b
theorem e_rev {m : Bool} : evE C (.rev m a) env S = Rs.b (evE C a env S) fun x => doRev m x := by
  show bnd _ _ _ = _
  rw [bnd_b]
theorem e_slA {m : Bool} : evE C (.slA m a) env S = Rs.b (evE C a env S) fun x => doSl m x none none := by
  show bnd _ _ _ = _
  rw [bnd_b]
def sl1 (m hi : Bool) (x : D) : D → M D
  | .int i => if hi then doSl m x none (some i) else doSl m x (some i) none
  | _ => stk
theorem sl1_L {m : Bool} {x : D} : sl1 m false x (.int i) S = doSl m x (some i) none S := rfl
theorem sl1_H {m : Bool} {x : D} : sl1 m true x (.int i) S = doSl m x none (some i) S := rfl
theorem e_slL {m : Bool} : evE C (.slL m a b) env S = Rs.b (evE C a env S) fun x S => Rs.b (evE C b env S) fun y => sl1 m false x y := by
  show bnd _ _ _ = _
  rw [bnd_b]; refine b_ext fun x S => ?_; rw [bnd_b]; refine b_ext fun y S => ?_; cases y <;> rfl
theorem e_slH {m : Bool} : evE C (.slH m a b) env S = Rs.b (evE C a env S) fun x S => Rs.b (evE C b env S) fun y => sl1 m true x y := by
  show bnd _ _ _ = _
  rw [bnd_b]; refine b_ext fun x S => ?_; rw [bnd_b]; refine b_ext fun y S => ?_; cases y <;> rfl
def sl2 (m : Bool) (x : D) : D → D → M D
  | .int i, .int j => doSl m x (some i) (some j)
  | _, _ => stk
theorem sl2_LH {m : Bool} {x : D} {j : Int} : sl2 m x (.int i) (.int j) S = doSl m x (some i) (some j) S := rfl
def sl2E (m : Bool) (x y : D) (c : EM D) : EM D := fun env => match y with
  | .int i => bnd (c env) fun z => match z with
    | .int j => doSl m x (some i) (some j)
    | _ => stk
  | _ => stk
theorem sl2E_int {m : Bool} {x : D} {c : EM D} : sl2E m x (.int i) c env S = Rs.b (c env S) fun z => sl2 m x (.int i) z := by
  show bnd _ _ _ = _
  rw [bnd_b]; refine b_ext fun z S => ?_; cases z <;> rfl
theorem e_slLH {m : Bool} : evE C (.slLH m a b c) env S = Rs.b (evE C a env S) fun x S => Rs.b (evE C b env S) fun y S => sl2E m x y (evE C c) env S := by
  show bnd _ _ _ = _
  rw [bnd_b]; refine b_ext fun x S => ?_; rw [bnd_b]; rfl
theorem e_call {g : Nat} : evE C (.call g xs) env S = Rs.b (evEs C xs env S) fun ds => C.cl g ds := by
  show bnd _ _ _ = _
  rw [bnd_b]
theorem e_pcall {g : Nat} : evE C (.pcall g xs) env S = Rs.b (evEs C xs env S) fun ds => pureC (C.cl g) ds := by
  show bnd _ _ _ = _
  rw [bnd_b]
theorem e_bi {k : Bi} {m : Bool} : evE C (.bi k m xs) env S = Rs.b (evEs C xs env S) fun ds => doBi k m ds := by
  show bnd _ _ _ = _
  rw [bnd_b]
def mtE (k : Mt) (o : D) (as : EM (List D)) : EM D := fun env => if mtOk k o = true then bnd (as env) fun ds => doMt k o ds else stk
theorem mtE_ok {k : Mt} {o : D} {as : EM (List D)} (h : mtOk k o = true) : mtE k o as env S = Rs.b (as env S) fun ds => doMt k o ds := by
  unfold mtE
  rw [if_pos h, bnd_b]
theorem mtE_bits {as : EM (List D)} : mtE .bits (.int i) as env S = Rs.b (as env S) fun ds => doMt .bits (.int i) ds := mtE_ok rfl
theorem mtE_app {n : Nat} {as : EM (List D)} : mtE .append (.ref n) as env S = Rs.b (as env S) fun ds => doMt .append (.ref n) ds := mtE_ok rfl
theorem mtE_ext {n : Nat} {as : EM (List D)} : mtE .extend (.ref n) as env S = Rs.b (as env S) fun ds => doMt .extend (.ref n) ds := mtE_ok rfl
theorem mtE_pop {n : Nat} {as : EM (List D)} : mtE .pop (.ref n) as env S = Rs.b (as env S) fun ds => doMt .pop (.ref n) ds := mtE_ok rfl
theorem e_mt {k : Mt} : evE C (.mt k a xs) env S = Rs.b (evE C a env S) fun o S => mtE k o (evEs C xs) env S := by
  show bnd _ _ _ = _
  rw [bnd_b]; rfl
def compD (m : Bool) (o : Option (List D × Deps)) (f : D → M (Option D)) : M D := fun S => match o with
  | some (xs, dp) => guard (Nat.ble xs.length LIM) (bnd (fun S => noX (compL dp f xs [] S)) fun ys => mkL m ys) S
  | none => .no
theorem e_comp {m : Bool} {own : List Nat} {t : Tn} {k : SK} {ifs : List Ex} : evE C (.comp m own t k xs ifs x) env S = Rs.b (evEs C xs env S) fun ds S => compD m (srcOf k ds S) (turn t (evT C ifs) (evE C x) (wipeD env own)) S := by
  show bnd _ _ _ = _
  rw [bnd_b]; refine b_ext fun ds S => ?_
  unfold compD
  cases srcOf k ds S with
  | none => rfl
  | some p =>
    obtain ⟨xs, dp⟩ := p
    rfl
theorem es_nil : evEs C [] env S = .ok [] S := rfl
theorem es_cons : evEs C (x :: xs) env S = Rs.b (evE C x env S) fun d S => Rs.b (evEs C xs env S) fun ds S => .ok (d :: ds) S := by
  show bnd _ _ _ = _
  rw [bnd_b]; refine b_ext fun d S => ?_; rw [bnd_b]; rfl
/-! ### statements -/
theorem s_nm {n : Nat} : evS C (.asg (.nm n) x) env S = Rs.b (evE C x env S) fun d S => .ok (.nx (env.set n (some d))) S := by
  show bnd _ _ _ = _
  rw [bnd_b]; refine b_ext fun d S => ?_
  show bnd (gNm n d env) _ S = _
  rw [bnd_b]; unfold gNm; rw [lsK_eq]; rfl
theorem s_asg {t : Tg} : evS C (.asg t x) env S = Rs.b (evE C x env S) fun d S => Rs.b (asgG C t d env S) fun e S => .ok (.nx e) S := by
  show bnd _ _ _ = _
  rw [bnd_b]; refine b_ext fun d S => ?_
  rw [bnd_b]; rfl
theorem g_nm {n : Nat} {d : D} : asgG C (.nm n) d env S = .ok (env.set n (some d)) S := by
  show gNm n d env S = _
  unfold gNm; rw [lsK_eq]; rfl
theorem g_tp {ts : List Tg} {ds : List D} : asgG C (.tp ts) (.tup ds) env S = if ds.length = ts.length then asgGs C ts ds env S else .no := by
  show gTp ts.length (asgGs C ts) (.tup ds) env S = _
  unfold gTp
  by_cases h : ds.length = ts.length
  · simp [h]
  · have : Nat.beq ds.length ts.length = false := by
      cases e : Nat.beq ds.length ts.length with
      | true => exact absurd (Nat.eq_of_beq_eq_true e) h
      | false => rfl
    simp only [this, Bool.false_eq_true, if_false, if_neg h]; rfl
theorem g_ix {d : D} : asgG C (.ix a b) d env S = Rs.b (evE C a env S) fun x S => Rs.b (evE C b env S) fun y S => Rs.b (setIx x y d S) fun _ S => .ok env S := by
  show bnd _ _ _ = _
  rw [bnd_b]; refine b_ext fun x S => ?_; rw [bnd_b]; refine b_ext fun y S => ?_; rw [bnd_b]; rfl
theorem gs_nil : asgGs C [] [] env S = .ok env S := rfl
theorem gs_cons {t : Tg} {ts : List Tg} {d : D} {ds : List D} : asgGs C (t :: ts) (d :: ds) env S = Rs.b (asgG C t d env S) fun e => asgGs C ts ds e := by
  show bnd _ _ _ = _
  rw [bnd_b]
def parD (is : List Nat) (ds : List D) (env : Env) : M Fl := fun S => match parE is ds env with
  | some env' => .ok (.nx env') S
  | none => .no
theorem par2 {n m : Nat} {d e : D} : parD [n, m] [d, e] env S = .ok (.nx ((env.set n (some d)).set m (some e))) S := by simp [parD, parE]
theorem par3 {n m l : Nat} {d e f : D} : parD [n, m, l] [d, e, f] env S = .ok (.nx (((env.set n (some d)).set m (some e)).set l (some f))) S := by simp [parD, parE]
theorem s_par {is : List Nat} : evS C (.par is xs) env S = Rs.b (evEs C xs env S) fun ds => parD is ds env := by
  show bnd _ _ _ = _
  rw [bnd_b]; refine b_ext fun ds S => ?_
  unfold parD
  cases parE is ds env <;> rfl
def augD (n : Nat) (o : Op2) (x y : D) (env : Env) : M Fl := fun S => match x, y, op2 S o x y with
    | .int _, .int _, some z => .ok (.nx (env.set n (some z))) S
    | _, _, _ => .no
theorem augD_add {n : Nat} {i j : Int} : augD n .add (.int i) (.int j) env S = .ok (.nx (env.set n (some (.int (i + j))))) S := by simp [augD, op2]
theorem augD_sub {n : Nat} {i j : Int} : augD n .sub (.int i) (.int j) env S = .ok (.nx (env.set n (some (.int (i - j))))) S := by simp [augD, op2]
theorem s_aug {n : Nat} {o : Op2} : evS C (.aug n o x) env S = Rs.b (getV n env S) fun u S => Rs.b (evE C x env S) fun v => augD n o u v env := by
  show bnd _ _ _ = _
  rw [bnd_b]; refine b_ext fun u S => ?_; rw [bnd_b]; refine b_ext fun v S => ?_
  unfold augD
  split <;> simp_all
def augX (x y : D) (op : Op2) (u v : D) (env : Env) : M Fl := fun S => match u, v, op2 S op u v with
    | .int _, .int _, some z => Rs.b (setIx x y z S) fun _ S => .ok (.nx env) S
    | _, _, _ => .no
theorem augX_add {x y : D} {i j : Int} : augX x y .add (.int i) (.int j) env S = Rs.b (setIx x y (.int (i + j)) S) fun _ S => .ok (.nx env) S := by simp [augX, op2]
theorem augX_sub {x y : D} {i j : Int} : augX x y .sub (.int i) (.int j) env S = Rs.b (setIx x y (.int (i - j)) S) fun _ S => .ok (.nx env) S := by simp [augX, op2]
def augE (a b u : D) (o : Op2) (x : EM D) : EM Fl := fun env => if isRef a = true then bnd (x env) (fun v => augX a b o u v env) else stk
theorem augE_ref {n : Nat} {q u : D} {o : Op2} {x : EM D} : augE (.ref n) q u o x env S = Rs.b (x env S) fun v => augX (.ref n) q o u v env := by
  unfold augE
  rw [if_pos (show isRef (.ref n) = true from rfl), bnd_b]
theorem s_augIx {o : Op2} : evS C (.augIx a b o x) env S = Rs.b (evE C a env S) fun p S => Rs.b (evE C b env S) fun q S => Rs.b (doIx p q S) fun u S => augE p q u o (evE C x) env S := by
  show bnd _ _ _ = _
  rw [bnd_b]; refine b_ext fun p S => ?_; rw [bnd_b]; refine b_ext fun q S => ?_; rw [bnd_b]; refine b_ext fun u S => ?_
  unfold augE
  by_cases h : isRef p = true
  · rw [if_pos h, if_pos h, bnd_b, bnd_b]; refine b_ext fun v S => ?_
    unfold augX
    split <;> simp_all [bnd_b, ret_ok] <;> rfl
  · rw [if_neg h, if_neg h]
theorem s_expr : evS C (.expr x) env S = Rs.b (evE C x env S) fun _ S => .ok (.nx env) S := by
  show bnd _ _ _ = _
  rw [bnd_b]; rfl
theorem s_ret : evS C (.ret x) env S = Rs.b (evE C x env S) fun d S => .ok (.rt d) S := by
  show bnd _ _ _ = _
  rw [bnd_b]; rfl
theorem s_retN : evS C .retN env S = .ok (.rt .non) S := rfl
theorem s_pass : evS C .pass env S = .ok (.nx env) S := rfl
theorem s_brk : evS C .brk env S = .ok (.bk env) S := rfl
theorem s_cont : evS C .cont env S = .ok (.ct env) S := rfl
theorem s_ite {p q : List Sm} : evS C (.ite c p q) env S = Rs.b (evE C c env S) fun x => ifD x (evSs C p env) (evSs C q env) := by
  show bnd _ _ _ = _
  rw [bnd_b]; refine b_ext fun x S => ?_
  unfold ifD
  cases x <;> first | rfl | skip
def forD (o : Option (List D × Deps)) (f : D → EM Fl) (env : Env) : M Fl := fun S => match o with
  | some (xs, dp) => forL dp f xs env S
  | none => .no
theorem s_for {t : Tn} {k : SK} {body : List Sm} : evS C (.for_ t k xs body) env S = Rs.b (evEs C xs env S) fun ds S => forD (srcOf k ds S) (fTurn t (evSs C body)) env S := by
  show bnd _ _ _ = _
  rw [bnd_b]; refine b_ext fun ds S => ?_
  unfold forD
  cases srcOf k ds S <;> rfl
theorem s_while {body : List Sm} : evS C (.while_ c body) env S = whileL (evE C c) (evSs C body) (envFuel env) env S := rfl
def seqF (f : Fl) (k : EM Fl) : M Fl := match f with
  | .nx env' => k env'
  | f => fun S => .ok f S
theorem seqF_nx {e : Env} {k : EM Fl} : seqF (.nx e) k S = k e S := rfl
theorem seqF_rt {d : D} {k : EM Fl} : seqF (.rt d) k S = .ok (.rt d) S := rfl
theorem seqF_bk {d : Env} {k : EM Fl} : seqF (.bk d) k S = .ok (.bk d) S := rfl
theorem seqF_ct {d : Env} {k : EM Fl} : seqF (.ct d) k S = .ok (.ct d) S := rfl
theorem ss_nil : evSs C [] env S = .ok (.nx env) S := rfl
theorem ss_cons {s : Sm} {ss : List Sm} : evSs C (s :: ss) env S = Rs.b (evS C s env S) fun f => seqF f (evSs C ss) := by
  show bnd _ _ _ = _
  rw [bnd_b]; refine b_ext fun f S => ?_; cases f <;> rfl
def fnD : Fl → M D
  | .rt d => fun S => .ok d S
  | .nx _ => fun S => .ok .non S
  | _ => stk
theorem fnD_rt {d : D} : fnD (.rt d) S = .ok d S := rfl
theorem fnD_nx {e : Env} : fnD (.nx e) S = .ok .non S := rfl
theorem run_eq {f : FDef} {as : List D} : runF C f as S = if as.length = f.np then Rs.b (evSs C f.body (as.map some ++ List.replicate (f.ns - f.np) none) S) (fun r => fnD r) else .no := by
  unfold runF
  by_cases h : as.length = f.np
  · rw [if_pos (by rw [h]; exact Nat.beq_refl _), if_pos h, bnd_b]
    refine b_ext fun r S => ?_
    cases r <;> rfl
  · rw [if_neg (fun z => h (Nat.eq_of_beq_eq_true z)), if_neg h]; rfl
/-! ### targets, turns -/
theorem t_nm {n : Nat} {d : D} : asgT (.nm n) d env = some (env.set n (some d)) := by
  unfold asgT; rw [lsK_eq]
theorem t_tp {ts : List Tn} {ds : List D} : asgT (.tp ts) (.tup ds) env = asgTs ts ds env := rfl
theorem ts_nil : asgTs [] [] env = some env := rfl
theorem ts_cons {t : Tn} {ts : List Tn} {d : D} {ds : List D} : asgTs (t :: ts) (d :: ds) env = (asgT t d env).bind fun e => asgTs ts ds e := rfl
def inT (o : Option Env) (f : EM Fl) : M Fl := match o with
  | some e => f e
  | none => stk
theorem inT_some {e : Env} {f : EM Fl} : inT (some e) f S = f e S := rfl
theorem fTurn_eq {t : Tn} {f : EM Fl} {d : D} : fTurn t f d env S = inT (asgT t d env) f S := by
  unfold fTurn inT
  cases asgT t d env <;> rfl
def soE (f : EM D) (e : Env) : M (Option D) := fun S => Rs.b (f e S) fun d => okM (some d)
theorem soE_app {f : EM D} {e : Env} : soE f e S = Rs.b (f e S) fun d => okM (some d) := rfl
def inC (o : Option Env) (q : EM D) (f : EM D) : M (Option D) := match o with
  | some e => fun S => Rs.b (q e S) fun b => ifD b (soE f e) (okM none)
  | none => stk
theorem inC_some {e : Env} {q f : EM D} : inC (some e) q f S = Rs.b (q e S) fun b => ifD b (soE f e) (okM none) := rfl
theorem turn_eq {t : Tn} {q f : EM D} {d : D} : turn t q f env d S = inC (asgT t d env) q f S := by
  unfold turn inC
  cases asgT t d env with
  | none => rfl
  | some e =>
    show bnd _ _ _ = _
    rw [bnd_b]; refine b_ext fun b S => ?_
    unfold ifD
    cases b with
    | bl b => cases b with
      | true => show bnd _ _ _ = _; rw [bnd_b]; rfl
      | false => rfl
    | _ => rfl
theorem evT_nil : evT C [] env S = .ok (.bl true) S := rfl
theorem evT_one : evT C [x] env S = evE C x env S := rfl
end

/-! ### operations -/
section
variable {S : Store} {i j : Int} {m : Bool} {xs ys : List D}
theorem mkL_f : mkL false xs S = .ok (.lst xs) S := by simp [mkL, ret]
theorem mkL_t : mkL true xs S = .ok (.ref S.length) (S ++ [.lst xs]) := by simp [mkL, alloc]
theorem o_add : doOp .add m (.int i) (.int j) S = .ok (.int (i + j)) S := by simp [doOp, op2]
theorem o_sub : doOp .sub m (.int i) (.int j) S = .ok (.int (i - j)) S := by simp [doOp, op2]
theorem o_mul (h : big2 i j = true) : doOp .mul m (.int i) (.int j) S = .ok (.int (i * j)) S := by simp [doOp, op2, h]
theorem o_fdiv (h : divOk j = true) (hj : 0 < j) : doOp .fdiv m (.int i) (.int j) S = .ok (.int (i / j)) S := by simp [doOp, op2, h, hj]
theorem o_fdivN (h : divOk j = true) (hj : ¬0 < j) : doOp .fdiv m (.int i) (.int j) S = .ok (.int (i.fdiv j)) S := by simp [doOp, op2, h, hj]
theorem o_mod (hj : 0 < j) : doOp .mod m (.int i) (.int j) S = .ok (.int (i % j)) S := by
  have : (j != 0) = true := by simp; omega
  simp [doOp, op2, this, hj]
theorem o_pow (n k : Nat) (h : (Builtin.Int.intBits i : Int) * (k : Int) ≤ 134217728) : doOp .pow m (.int i) (.int (k : Int)) S = .ok (.int (i ^ k)) S := by
  simp [doOp, op2, h]
theorem o_addT (h : xs.length + ys.length ≤ LIM) : doOp .add m (.tup xs) (.tup ys) S = .ok (.tup (xs ++ ys)) S := by simp [doOp, op2, h]
theorem o_addL (h : xs.length + ys.length ≤ LIM) : doOp .add m (.lst xs) (.lst ys) S = mkL m (xs ++ ys) S := by simp [doOp, op2, op2L, lstOf, h]
theorem op2L_mul (k : Int) (h1 : (-(2 ^ 63) : Int) ≤ k) (h2 : k < 2 ^ 63) (h3 : xs.length * k.toNat ≤ LIM) : op2L S .mul (.lst xs) (.int k) = some (List.replicate k.toNat xs).flatten := by
  simp only [op2L, lstOf, Option.bind_some, h1, h2, h3, decide_true, Bool.and_self, if_true]
theorem o_mulK (k : Int) (h1 : (-(2 ^ 63) : Int) ≤ k) (h2 : k < 2 ^ 63) (h3 : xs.length * k.toNat ≤ LIM) : doOp .mul m (.lst xs) (.int k) S = mkL m (List.replicate k.toNat xs).flatten S := by
  have e0 : op2 S .mul (.lst xs) (.int k) = none := rfl
  unfold doOp
  rw [e0, op2L_mul k h1 h2 h3]
theorem o_mulL (n : Nat) (h : xs.length * n ≤ LIM) (hn : (n : Int) < 9223372036854775808) : doOp .mul m (.lst xs) (.int (n : Int)) S = mkL m (List.replicate n xs).flatten S := by
  have q := o_mulK (m := m) (S := S) (xs := xs) (n : Int) (by omega) (by omega) (by rw [Int.toNat_natCast]; exact h)
  rw [Int.toNat_natCast] at q
  exact q
theorem o_mulL' (n : Nat) {i : Int} (hi : i = (n : Int)) (h : xs.length * n ≤ LIM) (hn : (n : Int) < 9223372036854775808) : doOp .mul m (.lst xs) (.int i) S = mkL m (List.replicate n xs).flatten S := by rw [hi]; exact o_mulL n h hn
theorem c_lt : doCmp .lt (.int i) (.int j) S = .ok (.bl (decide (i < j))) S := by simp [doCmp, cmp2]
theorem c_le : doCmp .le (.int i) (.int j) S = .ok (.bl (decide (i ≤ j))) S := by simp [doCmp, cmp2]
theorem c_gt : doCmp .gt (.int i) (.int j) S = .ok (.bl (decide (j < i))) S := by simp [doCmp, cmp2]
theorem c_ge : doCmp .ge (.int i) (.int j) S = .ok (.bl (decide (j ≤ i))) S := by simp [doCmp, cmp2]
theorem eqv_int : eqv (.int i) (.int j) = decide (i = j) := by simp [eqv]; rfl
theorem c_eqI : doCmp .eq (.int i) (.int j) S = .ok (.bl (decide (i = j))) S := by simp [doCmp, cmp2, top, shal, eqv]; rfl
theorem c_neI : doCmp .ne (.int i) (.int j) S = .ok (.bl (decide (i ≠ j))) S := by
  simp [doCmp, cmp2, top, shal, eqv]
  by_cases h : i = j <;> simp [h]
/-- equality of the same plain data -/
def flatD : D → Bool
  | .ref _ => false
  | .gl _ => false
  | .scr _ => false
  | _ => true
mutual
theorem eqv_self : ∀ {n : Nat} {d : D}, shal n d = true → eqv d d = true
  | _, .non, _ => rfl
  | _, .bl b, _ => by simp [eqv]
  | _, .int b, _ => by simp [eqv]
  | _, .str b, _ => by simp [eqv]
  | n, .tup xs, h => by cases n with
    | zero => simp [shal] at h
    | succ n => simp only [shal] at h; simp only [eqv]; exact eqvs_self h
  | n, .lst xs, h => by cases n with
    | zero => simp [shal] at h
    | succ n => simp only [shal] at h; simp only [eqv]; exact eqvs_self h
  | n, .ref _, h => by cases n <;> simp [shal] at h
  | n, .gl _, h => by cases n <;> simp [shal] at h
  | n, .scr _, h => by cases n <;> simp [shal] at h
  | n, .opq, h => by cases n <;> simp [shal] at h
theorem eqvs_self : ∀ {n : Nat} {ds : List D}, shal.shals n ds = true → eqvs ds ds = true
  | _, [], _ => rfl
  | n, d :: ds, h => by
    simp only [shal.shals, Bool.and_eq_true] at h
    simp only [eqvs, Bool.and_eq_true]
    exact ⟨eqv_self h.1, eqvs_self h.2⟩
end
theorem top_shal {d : D} {n : Nat} (h : shal n d = true) : top S d = d := by
  cases d <;> first | rfl | (cases n <;> simp [shal] at h)
theorem c_eqS {d : D} (h : shal 40 d = true) : doCmp .eq d d S = .ok (.bl true) S := by
  unfold doCmp cmp2; simp only [top_shal h, h, Bool.and_self, if_true, eqv_self h]
theorem c_neS {d : D} (h : shal 40 d = true) : doCmp .ne d d S = .ok (.bl false) S := by
  unfold doCmp cmp2; simp only [top_shal h, h, Bool.and_self, if_true, eqv_self h, Bool.not_true]
theorem ixI_nat {n k : Nat} (h : k < n) : ixI n (k : Int) = some k := by
  unfold ixI
  rw [if_pos (by omega), if_pos (by omega)]; simp
theorem ixI_neg {n k : Nat} (h : k < n) (h0 : 0 < k) : ixI n (-(k : Int)) = some (n - k) := by
  unfold ixI
  rw [if_neg (by omega), if_pos (by omega)]; congr 1; omega
theorem ixT {k : Nat} {d : D} (h : xs[k]? = some d) : doIx (.tup xs) (.int (k : Int)) S = .ok d S := by
  have hk : k < xs.length := (List.getElem?_eq_some_iff.mp h).1
  simp [doIx, seqOf, ixI_nat hk, h]
theorem ixL {k : Nat} {d : D} (h : xs[k]? = some d) : doIx (.lst xs) (.int (k : Int)) S = .ok d S := by
  have hk : k < xs.length := (List.getElem?_eq_some_iff.mp h).1
  simp [doIx, seqOf, ixI_nat hk, h]
theorem ixS {k : Nat} {d : D} (h : xs[k]? = some d) : doIx (.scr xs) (.int (k : Int)) S = .ok d S := by
  have hk : k < xs.length := (List.getElem?_eq_some_iff.mp h).1
  simp [doIx, seqOf, ixI_nat hk, h]
theorem ixR {n k : Nat} {d : D} (hS : S[n]? = some (.lst xs)) (h : xs[k]? = some d) : doIx (.ref n) (.int (k : Int)) S = .ok d S := by
  have hk : k < xs.length := (List.getElem?_eq_some_iff.mp h).1
  simp [doIx, seqOf, hS, ixI_nat hk, h]
theorem ixT0 {d : D} : doIx (.tup (d :: xs)) (.int 0) S = .ok d S := ixT (k := 0) rfl
theorem ixT1 {c d : D} : doIx (.tup (c :: d :: xs)) (.int 1) S = .ok d S := ixT (k := 1) rfl
theorem ixT2 {b c d : D} : doIx (.tup (b :: c :: d :: xs)) (.int 2) S = .ok d S := ixT (k := 2) rfl
theorem ixL0 {d : D} : doIx (.lst (d :: xs)) (.int 0) S = .ok d S := ixL (k := 0) rfl
theorem ixL1 {c d : D} : doIx (.lst (c :: d :: xs)) (.int 1) S = .ok d S := ixL (k := 1) rfl
theorem ixT' {k : Nat} {i : Int} {d : D} (hi : i = (k : Int)) (h : xs[k]? = some d) : doIx (.tup xs) (.int i) S = .ok d S := by subst hi; exact ixT h
theorem ixL' {k : Nat} {i : Int} {d : D} (hi : i = (k : Int)) (h : xs[k]? = some d) : doIx (.lst xs) (.int i) S = .ok d S := by subst hi; exact ixL h
theorem ixR' {n k : Nat} {i : Int} {d : D} (hi : i = (k : Int)) (hS : S[n]? = some (.lst xs)) (h : xs[k]? = some d) : doIx (.ref n) (.int i) S = .ok d S := by subst hi; exact ixR hS h
theorem setR' {n k : Nat} {i : Int} {d : D} (hi : i = (k : Int)) (hS : S[n]? = some (.lst xs)) (h : k < xs.length) : setIx (.ref n) (.int i) d S = .ok () (S.set n (.lst (xs.set k d))) := by
  subst hi; simp [setIx, hS, ixI_nat h]
theorem setR {n k : Nat} {d : D} (hS : S[n]? = some (.lst xs)) (h : k < xs.length) : setIx (.ref n) (.int (k : Int)) d S = .ok () (S.set n (.lst (xs.set k d))) := by
  simp [setIx, hS, ixI_nat h]
theorem m_append {n : Nat} {d : D} (hS : S[n]? = some (.lst xs)) (h : xs.length < LIM) : doMt .append (.ref n) [d] S = .ok .non (S.set n (.lst (xs ++ [d]))) := by
  simp [doMt, putL, hS, h]
theorem m_extend {n : Nat} {a : D} (hS : S[n]? = some (.lst xs)) (ha : lstOf S a = some ys) (h : xs.length + ys.length ≤ LIM) : doMt .extend (.ref n) [a] S = .ok .non (S.set n (.lst (xs ++ ys))) := by
  simp [doMt, putL, hS, h, ha]
theorem b_lenT : doBi .len m [.tup xs] S = .ok (.int xs.length) S := by simp [doBi, seqOf]
theorem b_lenL : doBi .len m [.lst xs] S = .ok (.int xs.length) S := by simp [doBi, seqOf]
theorem b_lenS : doBi .len m [.scr xs] S = .ok (.int xs.length) S := by simp [doBi, seqOf]
theorem b_lenR {n : Nat} (hS : S[n]? = some (.lst xs)) : doBi .len m [.ref n] S = .ok (.int xs.length) S := by simp [doBi, seqOf, hS]
theorem b_int : doBi .int m [.int i] S = .ok (.int i) S := by simp [doBi]
theorem b_intB {b : Bool} : doBi .int m [.bl b] S = .ok (.int (if b then 1 else 0)) S := by simp [doBi]
theorem b_abs : doBi .abs m [.int i] S = .ok (.int (if i < 0 then -i else i)) S := by simp [doBi]
theorem b_max2 : doBi .max2 m [.int i, .int j] S = .ok (.int (if j > i then j else i)) S := by simp [doBi]
theorem b_min2 : doBi .min2 m [.int i, .int j] S = .ok (.int (if j < i then j else i)) S := by simp [doBi]
theorem b_gcd : doBi .gcd m [.int i, .int j] S = .ok (.int ((Nat.gcd i.natAbs j.natAbs : Nat) : Int)) S := by simp [doBi]
theorem b_tupT : doBi .tuple m [.tup xs] S = .ok (.tup xs) S := by simp [doBi, seqOf]
theorem b_tupL : doBi .tuple m [.lst xs] S = .ok (.tup xs) S := by simp [doBi, seqOf]
theorem b_tupR {n : Nat} (hS : S[n]? = some (.lst xs)) : doBi .tuple m [.ref n] S = .ok (.tup xs) S := by simp [doBi, seqOf, hS]
theorem b_lstT : doBi .list m [.tup xs] S = mkL m xs S := by simp [doBi, seqOf]
theorem b_lstL : doBi .list m [.lst xs] S = mkL m xs S := by simp [doBi, seqOf]
theorem b_lstR {n : Nat} (hS : S[n]? = some (.lst xs)) : doBi .list m [.ref n] S = mkL m xs S := by simp [doBi, seqOf, hS]
theorem b_isiT {t : Ty} : doBi (.isinst t) m [.tup xs] S = .ok (.bl (isI .tTuple t)) S := by simp [doBi, tyOf]
theorem b_isiI {t : Ty} : doBi (.isinst t) m [.int i] S = .ok (.bl (isI .tInt t)) S := by simp [doBi, tyOf]
theorem b_isiB {t : Ty} {b : Bool} : doBi (.isinst t) m [.bl b] S = .ok (.bl (isI .tBool t)) S := by simp [doBi, tyOf]
theorem intsOf_map : ∀ is : List Int, intsOf (is.map D.int) = some is
  | [] => rfl
  | i :: r => by simp [intsOf, intsOf_map r]
theorem blsOf_map : ∀ is : List Bool, blsOf (is.map D.bl) = some is
  | [] => rfl
  | i :: r => by simp [blsOf, blsOf_map r]
theorem b_sumL {is : List Int} : doBi .sum m [.lst (is.map .int)] S = .ok (.int is.sum) S := by simp [doBi, seqOf, intsOf_map]
theorem b_sumT {is : List Int} : doBi .sum m [.tup (is.map .int)] S = .ok (.int is.sum) S := by simp [doBi, seqOf, intsOf_map]
theorem b_allL {is : List Bool} : doBi .all m [.lst (is.map .bl)] S = .ok (.bl (is.all id)) S := by simp [doBi, lstOf, blsOf_map]
theorem revT : doRev m (.tup xs) S = .ok (.tup xs.reverse) S := by simp [doRev]
theorem revL : doRev m (.lst xs) S = mkL m xs.reverse S := by simp [doRev, lstOf]
theorem revR {n : Nat} (hS : S[n]? = some (.lst xs)) : doRev m (.ref n) S = mkL m xs.reverse S := by simp [doRev, lstOf, hS]
/-! ### sources -/
theorem q_vlT : srcOf .vl [.tup xs] S = some (xs, []) := rfl
theorem q_vlL : srcOf .vl [.lst xs] S = some (xs, []) := rfl
theorem q_vlS : srcOf .vl [.scr xs] S = some (xs, []) := rfl
theorem q_vlR {n : Nat} (hS : S[n]? = some (.lst xs)) : srcOf .vl [.ref n] S = some (xs, [(n, xs)]) := by simp [srcOf, seqD, seqOf, hS]
def natsD (n : Nat) : List D := (List.range n).map fun (k : Nat) => D.int (k : Int)
theorem rgF_map : ∀ (n : Nat) (a : Int), rgF a n = (List.range n).map fun (k : Nat) => a + (k : Int) := fun n a => by
  refine List.ext_getElem? fun i => ?_
  by_cases hi : i < n
  · rw [rgF_get _ _ _ hi, List.getElem?_map, List.getElem?_range hi]; rfl
  · rw [List.getElem?_eq_none (by rw [rgF_len]; omega), List.getElem?_eq_none (by simp; omega)]
theorem rgOk_nat {n : Nat} (h : n ≤ LIM) : rgOk 0 (n : Int) = true := by
  have e : LIM = 16777216 := rfl
  rw [e] at h
  unfold rgOk
  simp only [leI_eq, Bool.and_eq_true, decide_eq_true_eq, Nat.ble_eq]
  rw [e]
  omega
theorem q_rg1 {n : Nat} (h : n ≤ LIM) : srcOf .rg1 [.int (n : Int)] S = some (natsD n, []) := by
  simp only [srcOf, rgOk_nat h, if_true]
  unfold rgI natsD
  rw [rgF_map]
  simp
theorem q_rg1' {n : Nat} {i : Int} (hi : i = (n : Int)) (h : n ≤ LIM) : srcOf .rg1 [.int i] S = some (natsD n, []) := by rw [hi]; exact q_rg1 h
theorem q_enT : srcOf .en [.tup xs] S = some (enumD xs 0, []) := rfl
theorem q_enL : srcOf .en [.lst xs] S = some (enumD xs 0, []) := rfl
theorem q_zpTT : srcOf .zp [.tup xs, .tup ys] S = some (zipD xs ys, []) := rfl
theorem q_zpTL : srcOf .zp [.tup xs, .lst ys] S = some (zipD xs ys, []) := rfl
theorem q_zpLT : srcOf .zp [.lst xs, .tup ys] S = some (zipD xs ys, []) := rfl
theorem q_zpLL : srcOf .zp [.lst xs, .lst ys] S = some (zipD xs ys, []) := rfl
theorem dep_nil : depOk [] S = true := rfl
theorem dep_one {n : Nat} (hS : S[n]? = some (.lst xs)) : depOk [(n, xs)] S = true := by simp [depOk, hS]
/-! ### loops -/
theorem comp_pure {dp : Deps} {f : D → M (Option D)} (g : D → D) (hd : depOk dp S = true) : ∀ {xs acc : List D}, (∀ x, x ∈ xs → f x S = .ok (some (g x)) S) → compL dp f xs acc S = .ok (acc ++ xs.map g) S
  | [], acc, _ => by simp [compL, hd]
  | x :: xs, acc, h => by
    simp only [compL, hd, if_true, h x List.mem_cons_self]
    rw [comp_pure g hd fun y hy => h y (List.mem_cons_of_mem _ hy)]
    simp
theorem comp_int {dp : Deps} {f : D → M (Option D)} (g : Int → Int) (hd : depOk dp S = true) {l : List Int} (h : ∀ x, x ∈ l → f (.int x) S = .ok (some (.int (g x))) S) : compL dp f (l.map .int) [] S = .ok ((l.map g).map .int) S := by
  have := comp_pure (f := f) (S := S) (dp := dp) (fun d => match d with | .int i => .int (g i) | d => d) hd (xs := l.map .int) (acc := []) fun x hx => by
    obtain ⟨i, hi, rfl⟩ := List.mem_map.mp hx
    exact h i hi
  rw [this]
  simp [List.map_map, Function.comp_def]
theorem comp_intD {dp : Deps} {f : D → M (Option D)} (g : Int → D) (hd : depOk dp S = true) {l : List Int} (h : ∀ x, x ∈ l → f (.int x) S = .ok (some (g x)) S) : compL dp f (l.map .int) [] S = .ok (l.map g) S := by
  have := comp_pure (f := f) (S := S) (dp := dp) (fun d => match d with | .int i => g i | d => d) hd (xs := l.map .int) (acc := []) fun x hx => by
    obtain ⟨i, hi, rfl⟩ := List.mem_map.mp hx
    exact h i hi
  rw [this]
  simp [List.map_map, Function.comp_def]
theorem comp_nat {dp : Deps} {f : D → M (Option D)} (g : Nat → D) (hd : depOk dp S = true) {n : Nat} (h : ∀ k, k < n → f (.int (k : Int)) S = .ok (some (g k)) S) : compL dp f (natsD n) [] S = .ok ((List.range n).map g) S := by
  have := comp_pure (f := f) (S := S) (dp := dp) (fun d => match d with | .int i => g i.toNat | d => d) hd (xs := natsD n) (acc := []) fun x hx => by
    obtain ⟨i, hi, rfl⟩ := List.mem_map.mp hx
    have := h i (List.mem_range.mp hi)
    simpa using this
  rw [this]
  simp [natsD, List.map_map, Function.comp_def]
theorem natsD_len (n : Nat) : (natsD n).length = n := by simp [natsD]
theorem natsD_get {n i : Nat} {x : D} (h : (natsD n)[i]? = some x) : x = .int (i : Int) ∧ i < n := by
  unfold natsD at h
  rw [List.getElem?_map] at h
  by_cases hi : i < n
  · rw [List.getElem?_range hi] at h
    exact ⟨(Option.some.inj h).symm, hi⟩
  · rw [List.getElem?_eq_none (by simp; omega)] at h; cases h
/-- only new cells -/
def Al (S S' : Store) : Prop := ∃ l, S' = S ++ l
theorem Al.refl (S : Store) : Al S S := ⟨[], by simp⟩
theorem Al.trans {S S' S'' : Store} (h : Al S S') (h' : Al S' S'') : Al S S'' := by
  obtain ⟨l, rfl⟩ := h
  obtain ⟨l', rfl⟩ := h'
  exact ⟨l ++ l', by simp⟩
theorem Al.get {S S' : Store} {n : Nat} {c : Cell} (h : Al S S') (e : S[n]? = some c) : S'[n]? = some c := by
  obtain ⟨l, rfl⟩ := h
  rw [List.getElem?_append_left (List.getElem?_eq_some_iff.mp e).1]; exact e
theorem Al.one {S : Store} {c : Cell} : Al S (S ++ [c]) := ⟨[c], rfl⟩
theorem Al.len {S S' : Store} (h : Al S S') : S.length ≤ S'.length := by
  obtain ⟨l, rfl⟩ := h; simp
/-- a store to a new cell -/
theorem Al.set {S S' : Store} {n : Nat} {c : Cell} (h : Al S S') (hn : S.length ≤ n) : Al S (S'.set n c) := by
  obtain ⟨l, rfl⟩ := h
  exact ⟨l.set (n - S.length) c, by rw [List.set_append_right _ _ hn]⟩
theorem get_new {S : Store} {c : Cell} : (S ++ [c])[S.length]? = some c := by simp
theorem compD_some {dp : Deps} {f : D → M (Option D)} (h : xs.length ≤ LIM) : compD m (some (xs, dp)) f S = Rs.b (noX (compL dp f xs [] S)) fun ys => mkL m ys := by
  unfold compD guard
  dsimp only
  rw [if_pos (by rw [Nat.ble_eq]; exact h), bnd_b]
theorem noX_ok {α : Type} {a : α} {S : Store} : noX (.ok a S) = .ok a S := rfl
theorem WP_noX {α : Type} {r : Rs α} {P : α → Store → Prop} : WP (noX r) P = WP r P := by cases r <;> rfl
theorem forD_some {dp : Deps} {f : D → EM Fl} {env : Env} : forD (some (xs, dp)) f env S = forL dp f xs env S := rfl
/-- a comprehension with an invariant -/
theorem comp_inv {dp : Deps} {f : D → M (Option D)} {P : List D → Store → Prop} (J : Nat → List D → Store → Prop) : ∀ {xs acc : List D} {S : Store} (n : Nat), J n acc S →
    (∀ i acc S x, J i acc S → i < n + xs.length → n ≤ i → xs[i - n]? = some x → depOk dp S = true ∧ WP (f x S) fun o S' => match o with | some d => J (i + 1) (acc ++ [d]) S' | none => J (i + 1) acc S') →
    (∀ acc S, J (n + xs.length) acc S → depOk dp S = true ∧ P acc S) → WP (compL dp f xs acc S) P
  | [], acc, S, n, h0, _, h2 => by
    obtain ⟨h, p⟩ := h2 acc S (by simpa using h0)
    unfold compL; rw [if_pos h]; exact p
  | x :: xs, acc, S, n, h0, h1, h2 => by
    obtain ⟨h, w⟩ := h1 n acc S x h0 (by simp) (Nat.le_refl _) (by simp)
    unfold compL; rw [if_pos h]
    obtain ⟨o, S1, e, j⟩ := w.get
    rw [e]
    have step : ∀ i acc S y, J i acc S → i < n + 1 + xs.length → n + 1 ≤ i → xs[i - (n + 1)]? = some y → depOk dp S = true ∧ WP (f y S) fun o S' => match o with | some d => J (i + 1) (acc ++ [d]) S' | none => J (i + 1) acc S' := fun i acc S y j hi hn hy =>
      h1 i acc S y j (by simp; omega) (by omega) (by
        rw [show i - n = (i - (n + 1)) + 1 by omega]; simpa using hy)
    have fin : ∀ acc S, J (n + 1 + xs.length) acc S → depOk dp S = true ∧ P acc S := fun acc S j => h2 acc S (by
      rw [show n + (x :: xs).length = n + 1 + xs.length by simp; omega]; exact j)
    cases o with
    | some d => exact comp_inv J (n + 1) j step fin
    | none => exact comp_inv J (n + 1) j step fin
/-- a for with an invariant -/
theorem for_inv {dp : Deps} {f : D → EM Fl} {P : Fl → Store → Prop} (J : Nat → Env → Store → Prop) : ∀ {xs : List D} {env : Env} {S : Store} (n : Nat), J n env S →
    (∀ i env S x, J i env S → i < n + xs.length → n ≤ i → xs[i - n]? = some x → depOk dp S = true ∧ WP (f x env S) fun o S' => match o with | .nx e => J (i + 1) e S' | .ct e => J (i + 1) e S' | .bk e => P (.nx e) S' | .rt d => P (.rt d) S') →
    (∀ env S, J (n + xs.length) env S → depOk dp S = true ∧ P (.nx env) S) → WP (forL dp f xs env S) P
  | [], env, S, n, h0, _, h2 => by
    obtain ⟨h, p⟩ := h2 env S (by simpa using h0)
    unfold forL; rw [if_pos h]; exact p
  | x :: xs, env, S, n, h0, h1, h2 => by
    obtain ⟨h, w⟩ := h1 n env S x h0 (by simp) (Nat.le_refl _) (by simp)
    unfold forL; rw [if_pos h]
    obtain ⟨o, S1, e, j⟩ := w.get
    rw [e]
    have step : ∀ i env S y, J i env S → i < n + 1 + xs.length → n + 1 ≤ i → xs[i - (n + 1)]? = some y → depOk dp S = true ∧ WP (f y env S) fun o S' => match o with | .nx e => J (i + 1) e S' | .ct e => J (i + 1) e S' | .bk e => P (.nx e) S' | .rt d => P (.rt d) S' := fun i env S y j hi hn hy =>
      h1 i env S y j (by simp; omega) (by omega) (by
        rw [show i - n = (i - (n + 1)) + 1 by omega]; simpa using hy)
    have fin : ∀ env S, J (n + 1 + xs.length) env S → depOk dp S = true ∧ P (.nx env) S := fun env S j => h2 env S (by
      rw [show n + (x :: xs).length = n + 1 + xs.length by simp; omega]; exact j)
    cases o with
    | nx e => exact for_inv J (n + 1) j step fin
    | ct e => exact for_inv J (n + 1) j step fin
    | bk e => exact j
    | rt d => exact j
/-- a while with an invariant and a measure below the fuel -/
theorem while_inv {c : EM D} {f : EM Fl} {P : Fl → Store → Prop} (J : Nat → Env → Store → Prop) : ∀ {n : Nat} {env : Env} {S : Store} (k : Nat), J k env S → k < n →
    (∀ k env S, J k env S → WP (c env S) fun d S1 => (d = .bl true ∧ WP (f env S1) fun o S' => match o with | .nx e => ∃ k', k' < k ∧ J k' e S' | .ct e => ∃ k', k' < k ∧ J k' e S' | .bk e => P (.nx e) S' | .rt d => P (.rt d) S') ∨ (d = .bl false ∧ P (.nx env) S1)) →
    WP (whileL c f n env S) P
  | 0, _, _, k, _, h, _ => absurd h (Nat.not_lt_zero _)
  | n + 1, env, S, k, j, h, step => by
    obtain ⟨d, S1, e1, w⟩ := (step k env S j).get
    unfold whileL
    rw [e1]
    rcases w with ⟨rfl, w⟩ | ⟨rfl, p⟩
    · obtain ⟨o, S2, e2, w⟩ := w.get
      simp only [e2]
      cases o with
      | nx e => obtain ⟨k', hk, j'⟩ := w; exact while_inv J k' j' (by omega) step
      | ct e => obtain ⟨k', hk, j'⟩ := w; exact while_inv J k' j' (by omega) step
      | bk e => exact w
      | rt d => exact w
    · exact p
end
theorem big2_of {i j : Int} {a b : Nat} (h1 : i.natAbs < 2 ^ a) (h2 : j.natAbs < 2 ^ b) (h : a + b < 1000000) : big2 i j = true := by
  unfold big2
  rw [decide_eq_true_eq]
  have l : ∀ (n a : Nat), n < 2 ^ a → n.log2 ≤ a := fun n a h => by
    by_cases h0 : n = 0
    · subst h0; simp
    · exact Nat.le_of_lt ((Nat.log2_lt h0).mpr h)
  have := l _ _ h1
  have := l _ _ h2
  omega
theorem divOk_of {j : Int} {a : Nat} (h0 : 0 < j) (h1 : j.natAbs < 2 ^ a) (h : a < 9000) : divOk j = true := by
  unfold divOk
  rw [Bool.and_eq_true, decide_eq_true_eq]
  refine ⟨by simp; omega, ?_⟩
  have : j.natAbs.log2 < a := (Nat.log2_lt (by omega)).mpr h1
  omega
end Ev
/-! Ev: defs without their syntax, for the kernel -/
namespace Ev
open PySem PySem.Spec
open PyProof.Rows L2
structure CDef where
  np : Nat
  ns : Nat
  bd : Ctx → EM Fl
def runCF (C : Ctx) (f : CDef) (as : List D) : M D :=
  if Nat.beq as.length f.np = true then lsK (as.map some ++ List.replicate (f.ns - f.np) none) fun env => bnd (f.bd C env) fnR else stk
structure CProg where
  gv : Nat → Option D
  fn : List (Option CDef)
  fuel : Nat
def callTC (P : CProg) : Nat → CallT × Option CallT × Option CallT
  | 0 => (fun _ _ => stk, none, none)
  | k + 1 => (fun g as => match nth P.fn g with
    | some (some f) => runCF ⟨P.gv, (callTC P k).1, (callTC P k).2.2, P.fuel⟩ f as
    | _ => stk, some (callTC P k).1, (callTC P k).2.1)
def callFC (P : CProg) (k : Nat) : CallT := (callTC P k).1
inductive CRel : Option FDef → Option CDef → Prop
  | none : CRel none none
  | some {f : FDef} {c : CDef} (h1 : f.np = c.np) (h2 : f.ns = c.ns) (h : ∀ C, evSs C f.body = c.bd C) : CRel (some f) (some c)
inductive CRels : List (Option FDef) → List (Option CDef) → Prop
  | nil : CRels [] []
  | cons {a : Option FDef} {b : Option CDef} {l : List (Option FDef)} {l' : List (Option CDef)} : CRel a b → CRels l l' → CRels (a :: l) (b :: l')
theorem CRels.get : ∀ {l : List (Option FDef)} {l' : List (Option CDef)}, CRels l l' → ∀ g : Nat, (l[g]? = none ∧ l'[g]? = none) ∨ ∃ a b, l[g]? = some a ∧ l'[g]? = some b ∧ CRel a b
  | _, _, .nil, g => .inl ⟨by simp, by simp⟩
  | _, _, .cons h t, 0 => .inr ⟨_, _, rfl, rfl, h⟩
  | _, _, .cons h t, g + 1 => by simpa using t.get g
theorem callTC_eq {gv : Nat → Option D} {fns : List (Option FDef)} {cfns : List (Option CDef)} {fuel : Nat} (h : CRels fns cfns) : ∀ k, callTC ⟨gv, cfns, fuel⟩ k = callT ⟨gv, fns, fuel⟩ k
  | 0 => rfl
  | k + 1 => by
    show (_, _, _) = (_, _, _)
    rw [callTC_eq h k]
    refine Prod.ext ?_ rfl
    funext g as
    show (match nth cfns g with
      | some (some f) => runCF _ f as
      | _ => stk) = (match nth fns g with
      | some (some f) => runF _ f as
      | _ => stk)
    rw [nth_eq, nth_eq]
    rcases h.get g with ⟨h1, h2⟩ | ⟨a, b, h1, h2, r⟩
    · rw [h1, h2]
    · rw [h1, h2]
      cases r with
      | none => rfl
      | @some f c e1 e2 e3 =>
        show runCF _ c as = runF _ f as
        unfold runCF runF
        rw [lsK_eq, e3, e1, e2]
theorem callFC_eq {gv : Nat → Option D} {fns : List (Option FDef)} {cfns : List (Option CDef)} {fuel : Nat} (h : CRels fns cfns) (k : Nat) : callF ⟨gv, fns, fuel⟩ k = callFC ⟨gv, cfns, fuel⟩ k := by
  unfold callF callFC
  rw [callTC_eq h k]
/-- all of these turns -/
def allT (f : Nat → Bool) : Nat → Nat → Bool
  | 0, _ => true
  | n + 1, i => f i && allT f n (i + 1)
theorem allT_get {f : Nat → Bool} : ∀ {n i : Nat}, allT f n i = true → ∀ t, i ≤ t → t < i + n → f t = true
  | 0, i, _, t, h1, h2 => by omega
  | n + 1, i, h, t, h1, h2 => by
    have h : (f i && allT f n (i + 1)) = true := h
    rw [Bool.and_eq_true] at h
    by_cases e : t = i
    · rw [e]; exact h.1
    · exact allT_get h.2 t (by omega) (by omega)
def isT : Rs D → Bool
  | .ok (.bl true) _ => true
  | _ => false
theorem isT_ok {r : Rs D} (h : isT r = true) : ∃ S, r = .ok (.bl true) S := by
  unfold isT at h
  split at h
  · exact ⟨_, rfl⟩
  · cases h
/-- a pure call that answers True -/
theorem pureC_true {cl : List D → M D} {ds : List D} {S : Store} (n : noRefs ds = true) (h : isT (cl ds []) = true) : pureC cl ds S = .ok (.bl true) S := by
  obtain ⟨S', e⟩ := isT_ok h
  unfold pureC
  rw [if_pos n, e]
  rfl
theorem pureV_true {r : Rs D} (h : isT (pureV r) = true) : pureV r = .ok (.bl true) [] := by
  obtain ⟨S', e⟩ := isT_ok h
  cases r with
  | ok a S1 =>
    have e : frc a (fun d => Rs.ok d []) .no = Rs.ok (D.bl true) S' := e
    show frc a (fun d => Rs.ok d []) .no = _
    rw [frc_eq] at e ⊢
    split at e
    · cases e
      rename_i hn
      rw [if_pos hn]
    · cases e
  | exc c a S1 =>
    have e : frc a (fun d => Rs.exc c d []) .no = Rs.ok (D.bl true) S' := e
    rw [frc_eq] at e
    split at e <;> cases e
  | no => cases e
end Ev
/-! Ev: what is met, by rewriting; loops in pieces -/
namespace Ev
open PySem PySem.Spec
open PyProof.Rows L2

def metQ (hs : List (Nat × HK)) (fin : D) (cl : List D → M D) (ds : List D) : M D := fun S => if noRefs ds = true then (match metR hs fin (pureV (cl ds [])) with
  | .ok d _ => .ok d S
  | _ => .no) else metR hs fin (cl ds S)
theorem e_met {C : Ctx} {env : Env} {S : Store} {xs : List Ex} {hs : List (Nat × HK)} {fin : D} {m g : Nat} {cl : Nat → List D → M D} (hc : C.cm = some cl) :
    evE C (.met hs fin m g xs) env S = Rs.b (noX (evEs { C with cl := cl, cm := none } xs env S)) fun ds => metQ hs fin (cl g) ds := by
  have e : evE C (.met hs fin m g xs) = kMetP hs fin (cl g) (evEs { C with cl := cl, cm := none } xs) := by
    conv => lhs; unfold evE
    rw [hc]
  rw [e]
  unfold kMetP Rs.b
  cases evEs { C with cl := cl, cm := none } xs env S <;> rfl
def metVD (hs : List (Nat × HK)) (fin : D) (cl : Nat → List D → M D) (ds : List D) : D → M D
  | .gl g => metQ hs fin (cl g) ds
  | _ => stk
theorem metVD_gl {hs : List (Nat × HK)} {fin : D} {cl : Nat → List D → M D} {ds : List D} {g : Nat} {S : Store} : metVD hs fin cl ds (.gl g) S = metQ hs fin (cl g) ds S := rfl
theorem e_metV {C : Ctx} {env : Env} {S : Store} {xs : List Ex} {hs : List (Nat × HK)} {fin : D} {m i g : Nat} {cl : Nat → List D → M D} (hc : C.cm = some cl) (hg : nth env i = some (some (.gl g))) :
    evE C (.metV hs fin m i xs) env S = Rs.b (noX (evEs { C with cl := cl, cm := none } xs env S)) fun ds => metQ hs fin (cl g) ds := by
  have e : evE C (.metV hs fin m i xs) = kMetV hs fin cl i (evEs { C with cl := cl, cm := none } xs) := by
    conv => lhs; unfold evE
    rw [hc]
  rw [e]
  unfold kMetV
  rw [hg]
  unfold kMetP Rs.b
  cases evEs { C with cl := cl, cm := none } xs env S <;> rfl
/-- what is told, as a test -/
def isR (r : D) (x : Rs D) : Bool := match x with
  | .ok d _ => D.beq d r
  | _ => false
theorem isR_ok {r : D} {x : Rs D} (h : isR r x = true) : ∃ S, x = .ok r S := by
  unfold isR at h
  split at h
  · rw [D.eq_of_beq h]; exact ⟨_, rfl⟩
  · cases h
def metT (hs : List (Nat × HK)) (fin : D) (cl : List D → M D) (ds : List D) (r : D) : Bool := noRefs ds && isR r (metR hs fin (pureV (cl ds [])))
theorem metQ_ok {hs : List (Nat × HK)} {fin r : D} {cl : List D → M D} {ds : List D} {S : Store} (h : metT hs fin cl ds r = true) : metQ hs fin cl ds S = .ok r S := by
  unfold metT at h
  rw [Bool.and_eq_true] at h
  obtain ⟨S', e⟩ := isR_ok h.2
  unfold metQ
  rw [if_pos h.1, e]
/-- a run that ends well -/
theorem metQ_fin {hs : List (Nat × HK)} {fin d : D} {cl : List D → M D} {ds : List D} {S S' : Store} (n : noRefs ds = true) (h : cl ds [] = .ok d S') (nd : noRef d = true) : metQ hs fin cl ds S = .ok fin S := by
  unfold metQ
  rw [if_pos n, h]
  show (match metR hs fin (frc d (fun d => Rs.ok d []) .no) with | .ok d _ => Rs.ok d S | _ => .no) = _
  rw [frc_eq, if_pos nd]
  rfl
/-- a run that raises -/
theorem metQ_exc {hs : List (Nat × HK)} {fin d r : D} {c : Nat} {cl : List D → M D} {ds : List D} {S S' : Store} (n : noRefs ds = true) (h : cl ds [] = .exc c d S') (nd : noRef d = true) (hr : ((fndH hs c).bind fun h => hkD h d) = some r) : metQ hs fin cl ds S = .ok r S := by
  unfold metQ
  rw [if_pos n, h]
  show (match metR hs fin (frc d (fun d => Rs.exc c d []) .no) with | .ok d _ => Rs.ok d S | _ => .no) = _
  rw [frc_eq, if_pos nd]
  show (match (match (fndH hs c).bind fun h => hkD h d with | some r => Rs.ok r [] | none => .no) with | .ok d _ => Rs.ok d S | _ => .no) = _
  rw [hr]

/-! ### loops in pieces -/
def forP (f : D → EM Fl) : List D → Env → Store → Option (Env × Store)
  | [], e, S => some (e, S)
  | x :: xs, e, S => match f x e S with
    | .ok (.nx e') S' => forP f xs e' S'
    | .ok (.ct e') S' => forP f xs e' S'
    | _ => none
theorem forL_P {f : D → EM Fl} : ∀ {xs ys : List D} {e e' : Env} {S S' : Store}, forP f xs e S = some (e', S') → forL [] f (xs ++ ys) e S = forL [] f ys e' S'
  | [], ys, e, e', S, S', h => by cases h; rfl
  | x :: xs, ys, e, e', S, S', h => by
    unfold forP at h
    rw [List.cons_append]
    conv => lhs; unfold forL
    rw [if_pos (show depOk [] S = true from rfl)]
    cases q : f x e S with
    | no => rw [q] at h; cases h
    | exc _ _ _ => rw [q] at h; cases h
    | ok fl S1 =>
      rw [q] at h
      cases fl with
      | nx e1 => exact forL_P h
      | ct e1 => exact forL_P h
      | bk _ => cases h
      | rt _ => cases h
theorem rgF_app : ∀ (n m : Nat) (a : Int), rgF a (n + m) = rgF a n ++ rgF (a + n) m
  | 0, m, a => by simp [rgF]
  | n + 1, m, a => by
    rw [show n + 1 + m = (n + m) + 1 by omega]
    simp only [rgF, intK_eq, List.cons_append]
    rw [rgF_app n m (a + 1)]
    congr 3
    omega
def forB (f : D → EM Fl) (xs : List D) (e : Env) (S : Store) (e' : Env) (S' : Store) : Bool := match forP f xs e S with
  | some (a, b) => decide (a = e') && decide (b = S')
  | none => false
theorem forB_ok {f : D → EM Fl} {xs : List D} {e e' : Env} {S S' : Store} (h : forB f xs e S e' S' = true) : forP f xs e S = some (e', S') := by
  unfold forB at h
  split at h
  · rename_i a b q
    rw [Bool.and_eq_true, decide_eq_true_eq, decide_eq_true_eq] at h
    rw [q, h.1, h.2]
  · cases h
/-! ### steps -/
theorem seq_nx {s ss : EM Fl} {env env' : Env} {S S' : Store} (h : s env S = .ok (.nx env') S') : sCons s ss env S = ss env' S' := by
  unfold sCons bnd; rw [h]
theorem seq_rt {s ss : EM Fl} {env : Env} {d : D} {S S' : Store} (h : s env S = .ok (.rt d) S') : sCons s ss env S = .ok (.rt d) S' := by
  unfold sCons bnd; rw [h]; rfl
theorem run_rt {f : EM Fl} {env : Env} {d : D} {S S' : Store} (h : f env S = .ok (.rt d) S') : bnd (f env) fnR S = .ok d S' := by
  unfold bnd; rw [h]; rfl
theorem ret_of {e : EM D} {env : Env} {d : D} {S S' : Store} (h : e env S = .ok d S') : sRet e env S = .ok (.rt d) S' := by
  unfold sRet bnd; rw [h]; rfl
theorem call_of {cl : List D → M D} {args : EM (List D)} {env : Env} {ds : List D} {r : Rs D} {S S' : Store} (h : args env S = .ok ds S') (h2 : cl ds S' = r) : kCall cl args env S = r := by
  unfold kCall bnd; rw [h]; exact h2
theorem cons_of {x : EM D} {xs : EM (List D)} {env : Env} {d : D} {ds : List D} {S S1 S2 : Store} (h : x env S = .ok d S1) (h2 : xs env S1 = .ok ds S2) : kCons x xs env S = .ok (d :: ds) S2 := by
  unfold kCons bnd; rw [h]; dsimp only; rw [h2]; rfl
theorem run_fl {f : EM Fl} {env : Env} {d : D} {S S' : Store} (h : f env S = .ok (.rt d) S') : bnd (f env) flR S = .ok d S' := by
  unfold bnd; rw [h]; rfl
theorem asg_of {e : EM D} {g : D → EM Env} {env env' : Env} {d : D} {S S1 S2 : Store} (h : e env S = .ok d S1) (h2 : g d env S1 = .ok env' S2) : sAsg e g env S = .ok (.nx env') S2 := by
  unfold sAsg bnd; rw [h]; dsimp only; rw [h2]; rfl
theorem expr_of {e : EM D} {env : Env} {d : D} {S S' : Store} (h : e env S = .ok d S') : sExpr e env S = .ok (.nx env) S' := by
  unfold sExpr bnd; rw [h]; rfl
theorem app_of [LamN] {C : Ctx} {i n : Nat} {x : Ex} {env : Env} {d : D} {xs : List D} {S S' : Store} (h0 : getV i env S = .ok (.ref n) S) (h : evE C x env S = .ok d S') (hn : S'[n]? = some (.lst xs)) (hl : xs.length < LIM) : evE C (.mt .append (.var i) [x]) env S = .ok .non (S'.set n (.lst (xs ++ [d]))) := by
  rw [e_mt, e_var, h0, b_ok, mtE_app, es_cons, h, b_ok, es_nil, b_ok, b_ok]
  exact m_append hn hl
theorem lst1_of {C : Ctx} {x : Ex} {env : Env} {d : D} {S S' : Store} (h : evE C x env S = .ok d S') : evE C (.lst true [x]) env S = .ok (.ref S'.length) (S' ++ [.lst [d]]) := by
  show kLst true (kCons (evE C x) kNil) env S = _
  unfold kLst bnd
  rw [cons_of (xs := kNil) h rfl]
  show mkL true [d] S' = _
  simp [mkL, alloc]
theorem runF_of {C : Ctx} {f : FDef} {as : List D} {b : EM Fl} {env : Env} {d : D} {S S' : Store} (h : Nat.beq as.length f.np = true) (hb : evSs C f.body = b) (he : as.map some ++ List.replicate (f.ns - f.np) none = env) (r : b env S = .ok (.rt d) S') : runF C f as S = .ok d S' := by
  unfold runF
  rw [if_pos h, hb, he]
  exact run_rt r
/-! ### a list that grows at the store's end -/
theorem set_new {S : Store} {a b : Cell} : (S ++ [a]).set S.length b = S ++ [b] := by
  rw [List.set_append_right _ _ (Nat.le_refl _)]; simp
theorem app_new [LamN] {C : Ctx} {i : Nat} {x : Ex} {env : Env} {d : D} {xs : List D} {S : Store} (h0 : ∀ S', getV i env S' = .ok (.ref S.length) S') (h : ∀ S', evE C x env S' = .ok d S') (hl : xs.length < LIM) : evE C (.mt .append (.var i) [x]) env (S ++ [.lst xs]) = .ok .non (S ++ [.lst (xs ++ [d])]) := by
  rw [app_of (h0 _) (h _) get_new hl, set_new]
theorem eq_new {C : Ctx} {i n : Nat} {b : Ex} {env : Env} {xs ys : List D} {S : Store} (h0 : getV i env S = .ok (.ref n) S) (hn : S[n]? = some (.lst xs)) (hb : evE C b env S = .ok (.lst ys) S) (h1 : shal 40 (.lst xs) = true) (h2 : shal 40 (.lst ys) = true) : evE C (.cmp .eq (.var i) b) env S = .ok (.bl (eqv (.lst xs) (.lst ys))) S := by
  show kCmp .eq (getV i) (evE C b) env S = _
  unfold kCmp bnd
  rw [h0]
  dsimp only
  rw [hb]
  have t1 : top S (.ref n) = .lst xs := by simp only [top, hn]
  show (match (if (shal 40 (top S (.ref n)) && shal 40 (top S (.lst ys))) = true then some (eqv (top S (.ref n)) (top S (.lst ys))) else none) with | some r => Rs.ok (D.bl r) S | none => .no) = _
  have t2 : top S (.lst ys) = .lst ys := rfl
  rw [t1, t2, h1, h2]
  rfl
theorem met_of [LamN] {C : Ctx} {env : Env} {S : Store} {xs : List Ex} {hs : List (Nat × HK)} {fin r : D} {m g : Nat} {cl : Nat → List D → M D} {ds : List D} (hc : C.cm = some cl) (ha : evEs { C with cl := cl, cm := none } xs env S = .ok ds S) (ht : metT hs fin (cl g) ds r = true) : evE C (.met hs fin m g xs) env S = .ok r S := by
  rw [e_met hc, ha, noX_ok, b_ok]
  exact metQ_ok ht
theorem for_rg1 {t : Tn} {src : EM (List D)} {body : EM Fl} {env : Env} {S S' : Store} {b : Int} {r : Rs Fl} (h : src env S = .ok [.int b] S') (hb : rgOk 0 b = true) (hr : forL [] (fTurn t body) ((rgI 0 b).map D.int) env S' = r) : sFor t .rg1 src body env S = r := by
  unfold sFor bnd
  rw [h]
  show (match (if rgOk 0 b = true then some ((rgI 0 b).map D.int, ([] : Deps)) else none) with | some (xs, dp) => forL dp (fTurn t body) xs env S' | none => .no) = _
  rw [if_pos hb]
  exact hr
theorem tail_run {C : Ctx} {n : Nat} {tl : List Sm} {env : Env} {S S0 : Store} {d : D} (htl : pureV (bnd (evSs C tl (nones n)) flR []) = .ok d S0) (he : env.length = n) : evSs C [.tail n tl] env S = .ok (.rt d) S := by
  show sCons (sTail n (evSs C tl)) sNil env S = _
  refine seq_rt ?_
  show (if Nat.beq env.length n = true then (match pureV (bnd (evSs C tl (nones n)) flR []) with | .ok d _ => Rs.ok (Fl.rt d) S | _ => .no) else .no) = _
  rw [if_pos (by rw [he]; exact Nat.beq_refl n), htl]
end Ev
/-! Ev: laws that draw their values: texts of numbers, junk behind a wrong value -/
namespace Ev
open PySem PySem.Spec
open PyProof.Rows L2
def nbD (t : Str) (d : D) : D := match reprD d with
  | some s => .str (t ++ s)
  | none => .non
def strB (s : Str) : Bool := s.cps.toList.all fun c => Nat.blt c 1114112
def nbOk (t : Str) (d : D) : Bool := noRef d && (match reprD d with
  | some s => decide (t.length + s.length ≤ LIM) && strB (t ++ s)
  | none => false)
theorem top_noRef {S : Store} {d : D} (h : noRef d = true) : top S d = d := by
  cases d <;> first | rfl | (cases h; done)
theorem nb_all [LamN] {l : List D} {t : Str} (h : l.all (nbOk t) = true) {x : D} (hx : x ∈ l) :
    ∃ s, nbD t x = .str s ∧ strB s = true ∧ ∀ (C : Ctx) (env : Env) (i : Nat), (∀ S, getV i env S = .ok x S) → ∀ S, evE C (.bin .add false (.str t) (.bi .repr false [.var i])) env S = .ok (.str s) S := by
  have hx := List.all_eq_true.mp h x hx
  unfold nbOk at hx
  rw [Bool.and_eq_true] at hx
  obtain ⟨hn, hx⟩ := hx
  cases e : reprD x with
  | none => rw [e] at hx; cases hx
  | some s =>
    rw [e] at hx
    dsimp only at hx
    rw [Bool.and_eq_true, decide_eq_true_eq] at hx
    refine ⟨t ++ s, by unfold nbD; rw [e], hx.2, fun C env i hi S => ?_⟩
    rw [e_bin, e_str, b_ok, e_bi, es_cons, e_var, hi, b_ok, es_nil, b_ok, b_ok]
    have h1 : doBi .repr false [x] S = .ok (.str s) S := by
      show (match reprD (top S x) with | some s => Rs.ok (D.str s) S | none => .no) = _
      rw [top_noRef hn, e]
    rw [h1, b_ok]
    show (match (if t.length + s.length ≤ LIM then some (D.str (t ++ s)) else none) with | some d => Rs.ok d S | none => _) = _
    rw [if_pos hx.1]
theorem mem_noRef {l : List D} (h : l.all noRef = true) {x : D} (hx : x ∈ l) : noRef x = true := List.all_eq_true.mp h x hx
/-- it raises this, with this -/
def excB (c : Nat) (d : D) (r : Rs D) : Bool := match r with
  | .exc c' d' _ => Nat.beq c c' && D.beq d d'
  | _ => false
theorem excB_ok {c : Nat} {d : D} {r : Rs D} (h : excB c d r = true) : ∃ S, r = .exc c d S := by
  unfold excB at h
  split at h
  · rw [Bool.and_eq_true] at h
    rw [Nat.eq_of_beq_eq_true h.1, D.eq_of_beq h.2]
    exact ⟨_, rfl⟩
  · cases h
def hkB2 (hs : List (Nat × HK)) (c : Nat) (d r : D) : Bool := match (fndH hs c).bind fun h => hkD h d with
  | some r' => D.beq r' r
  | none => false
theorem hkB2_ok {hs : List (Nat × HK)} {c : Nat} {d r : D} (h : hkB2 hs c d r = true) : ((fndH hs c).bind fun h => hkD h d) = some r := by
  unfold hkB2 at h
  split at h
  · rename_i r' e
    rw [e, D.eq_of_beq h]
  · cases h
theorem met_exc [LamN] {C : Ctx} {env : Env} {S : Store} {xs : List Ex} {hs : List (Nat × HK)} {fin d r : D} {m g c : Nat} {cl : Nat → List D → M D} {ds : List D} (hc : C.cm = some cl) (ha : evEs { C with cl := cl, cm := none } xs env S = .ok ds S)
    (n : noRefs ds = true) (h : excB c d (cl g ds []) = true) (nd : noRef d = true) (hr : hkB2 hs c d r = true) : evE C (.met hs fin m g xs) env S = .ok r S := by
  obtain ⟨S', e⟩ := excB_ok h
  rw [e_met hc, ha, noX_ok, b_ok]
  exact metQ_exc n e nd (hkB2_ok hr)
def purT (cl : List D → M D) (ds : List D) (r : D) : Bool := noRefs ds && isR r (pureV (cl ds []))
theorem purT_ok {cl : List D → M D} {ds : List D} {r : D} {S : Store} (h : purT cl ds r = true) : pureC cl ds S = .ok r S := by
  unfold purT at h
  rw [Bool.and_eq_true] at h
  obtain ⟨S', e⟩ := isR_ok h.2
  unfold pureC
  rw [if_pos h.1, e]
theorem pcall_of {C : Ctx} {env : Env} {S : Store} {xs : List Ex} {g : Nat} {ds : List D} {r : D} (ha : evEs C xs env S = .ok ds S) (h : purT (C.cl g) ds r = true) : evE C (.pcall g xs) env S = .ok r S := by
  show kCall (pureC (C.cl g)) (evEs C xs) env S = _
  exact call_of ha (purT_ok h)
theorem not_of {C : Ctx} {env : Env} {S S' : Store} {a : Ex} {b : Bool} (h : evE C a env S = .ok (.bl b) S') : evE C (.not a) env S = .ok (.bl (!b)) S' := by
  show kNot (evE C a) env S = _
  unfold kNot bnd; rw [h]; rfl
theorem bnd_of {α β : Type} {m : M α} {f : α → M β} {a : α} {S S' : Store} (h : m S = .ok a S') : bnd m f S = f a S' := by
  unfold bnd; rw [h]
theorem or_ff {C : Ctx} {env : Env} {S S' S2 : Store} {a b : Ex} {c : Bool} (h : evE C a env S = .ok (.bl false) S') (h2 : evE C b env S' = .ok (.bl c) S2) : evE C (.or a b) env S = .ok (.bl c) S2 := by
  show bnd (evE C a env) (fun x => tst x (Ev.ret (.bl true)) (bnd (evE C b env) boolR)) S = _
  rw [bnd_of h]
  show bnd (evE C b env) boolR S' = _
  rw [bnd_of h2]; rfl
theorem and_tt {C : Ctx} {env : Env} {S S' S2 : Store} {a b : Ex} {c : Bool} (h : evE C a env S = .ok (.bl true) S') (h2 : evE C b env S' = .ok (.bl c) S2) : evE C (.and a b) env S = .ok (.bl c) S2 := by
  show bnd (evE C a env) (fun x => tst x (bnd (evE C b env) boolR) (Ev.ret (.bl false))) S = _
  rw [bnd_of h]
  show bnd (evE C b env) boolR S' = _
  rw [bnd_of h2]; rfl
theorem ite_f {C : Ctx} {env : Env} {S S' : Store} {q : Ex} {a b : List Sm} (h : evE C q env S = .ok (.bl false) S') : evS C (.ite q a b) env S = evSs C b env S' := by
  show sIte (evE C q) (evSs C a) (evSs C b) env S = _
  unfold sIte bnd; rw [h]
theorem par_of {C : Ctx} {env env' : Env} {S S' : Store} {is : List Nat} {es : List Ex} {ds : List D} (h : evEs C es env S = .ok ds S') (h2 : parE is ds env = some env') : evS C (.par is es) env S = .ok (.nx env') S' := by
  show sPar is (evEs C es) env S = _
  unfold sPar bnd; rw [h]; dsimp only; rw [h2]; rfl
theorem shal_str {n : Nat} {s : Str} : shal n (.str s) = strB s := by cases n <;> rfl
theorem shal_tup {n : Nat} {xs : List D} : shal (n + 1) (.tup xs) = shal.shals n xs := rfl
theorem shal_lst {n : Nat} {xs : List D} : shal (n + 1) (.lst xs) = shal.shals n xs := rfl
theorem shals_nil {n : Nat} : shal.shals n [] = true := rfl
theorem shals_cons {n : Nat} {x : D} {xs : List D} : shal.shals n (x :: xs) = (shal n x && shal.shals n xs) := rfl
theorem eq_same [LamN] {C : Ctx} {i n : Nat} {b : Ex} {env : Env} {xs : List D} {S : Store} (h0 : getV i env S = .ok (.ref n) S) (hn : S[n]? = some (.lst xs)) (hb : evE C b env S = .ok (.lst xs) S) (h1 : shal 40 (.lst xs) = true) : evE C (.cmp .eq (.var i) b) env S = .ok (.bl true) S := by
  rw [eq_new h0 hn hb h1 h1, eqv_self h1]
theorem ne_same [LamN] {C : Ctx} {i n : Nat} {b : Ex} {env : Env} {xs : List D} {S : Store} (h0 : getV i env S = .ok (.ref n) S) (hn : S[n]? = some (.lst xs)) (hb : evE C b env S = .ok (.lst xs) S) (h1 : shal 40 (.lst xs) = true) : evE C (.cmp .ne (.var i) b) env S = .ok (.bl false) S := by
  show kCmp .ne (getV i) (evE C b) env S = _
  unfold kCmp bnd
  rw [h0]
  dsimp only
  rw [hb]
  have t1 : top S (.ref n) = .lst xs := by simp only [top, hn]
  show (match (if (shal 40 (top S (.ref n)) && shal 40 (top S (.lst xs))) = true then some (!eqv (top S (.ref n)) (top S (.lst xs))) else none) with | some r => Rs.ok (D.bl r) S | none => .no) = _
  have t2 : top S (.lst xs) = .lst xs := rfl
  rw [t1, t2, h1, eqv_self h1]
  rfl
theorem lst_of {C : Ctx} {xs : List Ex} {env : Env} {ds : List D} {S S' : Store} (h : evEs C xs env S = .ok ds S') : evE C (.lst false xs) env S = .ok (.lst ds) S' := by
  show kLst false (evEs C xs) env S = _
  unfold kLst
  rw [bnd_of h]
  show mkL false ds S' = _
  simp [mkL, Ev.ret]
theorem add_of {C : Ctx} {a b : Ex} {env : Env} {xs ys : List D} {S S' S2 : Store} (h : evE C a env S = .ok (.lst xs) S') (h2 : evE C b env S' = .ok (.lst ys) S2) (hl : xs.length + ys.length ≤ LIM) : evE C (.bin .add false a b) env S = .ok (.lst (xs ++ ys)) S2 := by
  show kBin .add false (evE C a) (evE C b) env S = _
  unfold kBin
  rw [bnd_of h, bnd_of h2]
  show (match (if xs.length + ys.length ≤ LIM then some (xs ++ ys) else none) with | some xs => mkL false xs S2 | none => .no) = _
  rw [if_pos hl]
  simp [mkL, Ev.ret]
theorem of_lim {n : Nat} (h : Nat.ble n 100000 = true) : n < LIM := Nat.lt_of_le_of_lt (Nat.le_of_ble_eq_true h) (by decide)
end Ev
namespace LW
open PySem PySem.Spec
open PyProof.Rows L2 Ev
def gs : List (Str × Bool) := [(("BILLION" : Str), false), (("PAIR" : Str), false), (("is_whole" : Str), true), (("is_integer" : Str), true), (("is_within" : Str), true), (("is_bit" : Str), true), (("are_bits" : Str), true), (("number_in" : Str), true), (("word_in" : Str), true), (("fraction_in" : Str), true), (("less_in" : Str), true), (("require_within" : Str), true), (("least_in" : Str), true), (("is_row_in" : Str), true), (("is_part_in" : Str), true), (("is_mix_in" : Str), true), (("require_draw" : Str), true), (("MOST_BITS" : Str), false), (("excess_in" : Str), true), (("begins_in" : Str), true), (("hybrid_in" : Str), true), (("steps_in" : Str), true), (("require_words" : Str), true), (("require_bits" : Str), true), (("words" : Str), true), (("word_number" : Str), true), (("draw_of" : Str), true), (("even_draw" : Str), true), (("excess" : Str), true), (("hybrid" : Str), true), (("steps" : Str), true), (("_law_wb_hat" : Str), true), (("_law_wb_up" : Str), true), (("_law_wb_two" : Str), true), (("_law_wb_of" : Str), true), (("_law_wb_shared" : Str), true), (("_law_wb_frac" : Str), true), (("_law_wb_plus" : Str), true), (("_law_wb_less" : Str), true), (("_law_wb_least" : Str), true), (("_law_wb_word" : Str), true), (("_law_wb_bits" : Str), true), (("_law_wb_draw" : Str), true), (("_law_wb_excess" : Str), true), (("_law_wb_begin" : Str), true), (("_law_wb_hybrid" : Str), true), (("_law_wb_even" : Str), true), (("_law_words_right" : Str), true), (("_law_right" : Str), true), (("law" : Str), true)]
instance lamI : LamN := ⟨[], gs⟩
def rows : List XRow := [⟨"InvalidDraw", none⟩, ⟨"InvalidWord", none⟩, ⟨"InvalidNumber", some "given"⟩]
def ms : List (Str × List (Nat × HK) × D) := []
/-- is_whole: 0=value -/
def fd_is_whole : FDef := ⟨1, 1, [.ret (.and (.bi (.isinst .tInt) false [(.var 0)]) (.not (.bi (.isinst .tBool) false [(.var 0)])))]⟩
/-- is_integer: 0=value -/
def fd_is_integer : FDef := ⟨1, 1, [.ret (.and (.call 2 [(.var 0)]) (.chain .lt .lt (.neg (.gl 0)) (.var 0) (.gl 0)))]⟩
/-- is_within: 0=value 1=least 2=most -/
def fd_is_within : FDef := ⟨3, 3, [.ret (.and (.call 2 [(.var 0)]) (.chain .le .le (.var 1) (.var 0) (.var 2)))]⟩
/-- is_bit: 0=value -/
def fd_is_bit : FDef := ⟨1, 1, [.ret (.call 4 [(.var 0), (.int 0), (.int 1)])]⟩
/-- are_bits: 0=value 1=many 2=bit -/
def fd_are_bits : FDef := ⟨2, 3, [.ret (.and (.bi (.isinst .tTuple) false [(.var 0)]) (.and (.cmp .eq (.bi .len false [(.var 0)]) (.var 1)) (.bi .all false [(.comp false [2] (.nm 2) .vl [(.var 0)] [] (.call 5 [(.var 2)]))])))]⟩
/-- number_in: 0=word 1=at 2=bit -/
def fd_number_in : FDef := ⟨1, 3, [.ret (.bi .sum false [(.comp false [1, 2] (.tp [(.nm 1), (.nm 2)]) .en [(.var 0)] [] (.bin .shl false (.var 2) (.var 1)))])]⟩
/-- word_in: 0=many 1=number 2=at -/
def fd_word_in : FDef := ⟨2, 3, [.ret (.bi .tuple false [(.comp false [2] (.nm 2) .rg1 [(.var 0)] [] (.bin .band false (.bin .shr false (.var 1) (.var 2)) (.int 1)))])]⟩
/-- fraction_in: 0=top 1=bottom 2=shared -/
def fd_fraction_in : FDef := ⟨2, 3, [.asg (.nm 2) (.ite (.cmp .gt (.var 1) (.int 0)) (.bi .gcd false [(.var 0), (.var 1)]) (.neg (.bi .gcd false [(.var 0), (.var 1)]))), .ret (.tup [(.bin .fdiv false (.var 0) (.var 2)), (.bin .fdiv false (.var 1) (.var 2))])]⟩
/-- less_in: 0=one 1=other -/
def fd_less_in : FDef := ⟨2, 2, [.ret (.call 9 [(.bin .sub false (.bin .mul false (.ix (.var 0) (.int 0)) (.ix (.var 1) (.int 1))) (.bin .mul false (.ix (.var 1) (.int 0)) (.ix (.var 0) (.int 1)))), (.bin .mul false (.ix (.var 0) (.int 1)) (.ix (.var 1) (.int 1)))])]⟩
/-- require_within: 0=value 1=least 2=most -/
def fd_require_within : FDef := ⟨3, 3, [.ite (.not (.call 4 [(.var 0), (.var 1), (.var 2)])) [.raise1 2 (.var 0)] []]⟩
/-- least_in: 0=row 1=shared 2=number -/
def fd_least_in : FDef := ⟨1, 3, [.asg (.nm 1) (.ix (.var 0) (.int 0)), .for_ (.nm 2) .vl [(.ix (.var 0) (.int 1))] [.asg (.nm 1) (.bi .gcd false [(.var 1), (.var 2)])], .ret (.tup [(.bin .fdiv false (.ix (.var 0) (.int 0)) (.var 1)), (.bi .tuple false [(.comp false [2] (.nm 2) .vl [(.ix (.var 0) (.int 1))] [] (.bin .fdiv false (.var 2) (.var 1)))])])]⟩
/-- is_row_in: 0=many 1=value 2=number -/
def fd_is_row_in : FDef := ⟨2, 3, [.ite (.or (.not (.bi (.isinst .tTuple) false [(.var 1)])) (.or (.cmp .ne (.bi .len false [(.var 1)]) (.gl 1)) (.or (.not (.call 2 [(.ix (.var 1) (.int 0))])) (.cmp .lt (.ix (.var 1) (.int 0)) (.int 1))))) [.ret (.bl false)] [], .ite (.or (.not (.bi (.isinst .tTuple) false [(.ix (.var 1) (.int 1))])) (.cmp .ne (.bi .len false [(.ix (.var 1) (.int 1))]) (.var 0))) [.ret (.bl false)] [], .ret (.bi .all false [(.comp false [2] (.nm 2) .vl [(.ix (.var 1) (.int 1))] [] (.call 2 [(.var 2)]))])]⟩
/-- is_part_in: 0=many 1=value 2=number -/
def fd_is_part_in : FDef := ⟨2, 3, [.ret (.and (.call 13 [(.var 0), (.var 1)]) (.bi .all false [(.comp false [2] (.nm 2) .vl [(.ix (.var 1) (.int 1))] [] (.chain .le .le (.int 0) (.var 2) (.ix (.var 1) (.int 0))))]))]⟩
/-- is_mix_in: 0=many 1=value -/
def fd_is_mix_in : FDef := ⟨2, 2, [.ret (.and (.call 14 [(.var 0), (.var 1)]) (.cmp .eq (.bi .sum false [(.ix (.var 1) (.int 1))]) (.ix (.var 1) (.int 0))))]⟩
/-- require_draw: 0=many 1=value -/
def fd_require_draw : FDef := ⟨2, 2, [.ite (.not (.call 15 [(.var 0), (.var 1)])) [.raise0 0] []]⟩
/-- excess_in: 0=draw 1=test 2=met 3=number 4=bit -/
def fd_excess_in : FDef := ⟨2, 5, [.asg (.nm 2) (.bi .sum false [(.comp false [3, 4] (.tp [(.nm 3), (.nm 4)]) .zp [(.ix (.var 0) (.int 1)), (.var 1)] [(.cmp .eq (.var 4) (.int 1))] (.var 3))]), .ret (.call 9 [(.bin .sub false (.bin .mul false (.var 2) (.bi .len false [(.var 1)])) (.bin .mul false (.bi .sum false [(.var 1)]) (.ix (.var 0) (.int 0)))), (.bin .mul false (.ix (.var 0) (.int 0)) (.bi .len false [(.var 1)]))])]⟩
/-- begins_in: 0=draw 1=i 2=found 3=x 4=number -/
def fd_begins_in : FDef := ⟨2, 5, [.asg (.nm 2) (.bin .mul true (.lst false [(.int 0)]) (.bin .shl false (.int 1) (.var 1))), .for_ (.tp [(.nm 3), (.nm 4)]) .en [(.ix (.var 0) (.int 1))] [.augIx (.var 2) (.bin .mod false (.var 3) (.bi .len false [(.var 2)])) .add (.var 4)], .ret (.var 2)]⟩
/-- hybrid_in: 0=draw 1=i 2=begins 3=words 4=numbers 5=x -/
def fd_hybrid_in : FDef := ⟨2, 6, [.asg (.tp [(.nm 2), (.nm 3)]) (.tup [(.call 19 [(.var 0), (.var 1)]), (.bi .len false [(.ix (.var 0) (.int 1))])]), .asg (.nm 4) (.bi .tuple false [(.comp false [5] (.nm 5) .rg1 [(.var 3)] [] (.ix (.var 2) (.bin .mod false (.var 5) (.bi .len false [(.var 2)]))))]), .ret (.call 12 [(.tup [(.bin .mul false (.ix (.var 0) (.int 0)) (.bin .fdiv false (.var 3) (.bi .len false [(.var 2)]))), (.var 4)])])]⟩
/-- steps_in: 0=m 1=draw 2=test 3=chances 4=i 5=one 6=other -/
def fd_steps_in : FDef := ⟨3, 7, [.asg (.nm 3) (.comp false [4] (.nm 4) .rg1 [(.bin .add false (.var 0) (.int 1))] [] (.call 18 [(.call 20 [(.var 1), (.var 4)]), (.var 2)])), .ret (.bi .tuple false [(.comp false [5, 6] (.tp [(.nm 5), (.nm 6)]) .zp [(.var 3), (.slL false (.var 3) (.int 1))] [] (.call 10 [(.var 6), (.var 5)]))])]⟩
/-- require_words: 0=m 1=draw -/
def fd_require_words : FDef := ⟨2, 2, [.expr (.call 11 [(.var 0), (.int 1), (.gl 17)]), .expr (.call 16 [(.bin .shl false (.int 1) (.var 0)), (.var 1)])]⟩
/-- require_bits: 0=value 1=many -/
def fd_require_bits : FDef := ⟨2, 2, [.ite (.not (.call 6 [(.var 0), (.var 1)])) [.raise0 1] []]⟩
/-- words: 0=m 1=number -/
def fd_words : FDef := ⟨1, 2, [.expr (.call 11 [(.var 0), (.int 1), (.gl 17)]), .ret (.bi .tuple false [(.comp false [1] (.nm 1) .rg1 [(.bin .shl false (.int 1) (.var 0))] [] (.call 8 [(.var 0), (.var 1)]))])]⟩
/-- word_number: 0=m 1=word -/
def fd_word_number : FDef := ⟨2, 2, [.expr (.call 11 [(.var 0), (.int 1), (.gl 17)]), .expr (.call 23 [(.var 1), (.var 0)]), .ret (.call 7 [(.var 1)])]⟩
/-- draw_of: 0=m 1=counts 2=number -/
def fd_draw_of : FDef := ⟨2, 3, [.expr (.call 11 [(.var 0), (.int 1), (.gl 17)]), .ite (.or (.not (.bi (.isinst .tTuple) false [(.var 1)])) (.cmp .ne (.bi .len false [(.var 1)]) (.bin .shl false (.int 1) (.var 0)))) [.raise0 0] [], .ite (.or (.not (.bi .all false [(.comp false [2] (.nm 2) .vl [(.var 1)] [] (.and (.call 3 [(.var 2)]) (.cmp .ge (.var 2) (.int 0))))])) (.cmp .eq (.bi .sum false [(.var 1)]) (.int 0))) [.raise0 0] [], .ret (.call 12 [(.tup [(.bi .sum false [(.var 1)]), (.var 1)])])]⟩
/-- even_draw: 0=m -/
def fd_even_draw : FDef := ⟨1, 1, [.expr (.call 11 [(.var 0), (.int 1), (.gl 17)]), .ret (.tup [(.bin .shl false (.int 1) (.var 0)), (.bin .mul false (.tup [(.int 1)]) (.bin .shl false (.int 1) (.var 0)))])]⟩
/-- excess: 0=m 1=draw 2=test -/
def fd_excess : FDef := ⟨3, 3, [.expr (.call 22 [(.var 0), (.var 1)]), .expr (.call 23 [(.var 2), (.bin .shl false (.int 1) (.var 0))]), .ret (.call 18 [(.var 1), (.var 2)])]⟩
/-- hybrid: 0=m 1=draw 2=number -/
def fd_hybrid : FDef := ⟨3, 3, [.expr (.call 22 [(.var 0), (.var 1)]), .expr (.call 11 [(.var 2), (.int 0), (.var 0)]), .ret (.call 20 [(.var 1), (.var 2)])]⟩
/-- steps: 0=m 1=draw 2=test -/
def fd_steps : FDef := ⟨3, 3, [.expr (.call 22 [(.var 0), (.var 1)]), .expr (.call 23 [(.var 2), (.bin .shl false (.int 1) (.var 0))]), .ret (.call 21 [(.var 0), (.var 1), (.var 2)])]⟩
def lx_hat : Ex := (.bin .mul false (.bin .mul false (.bin .mul false (.bin .mul false (.bin .mul false (.bin .pow false (.int 10) (.int 60)) (.bin .pow false (.int 10) (.int 60))) (.bin .pow false (.int 10) (.int 60))) (.bin .pow false (.int 10) (.int 60))) (.bin .pow false (.int 10) (.int 60))) (.bin .pow false (.int 10) (.int 30)))
/-- _law_wb_hat: 0=script 1=spot 2=cell 3=great -/
def fd_law_wb_hat : FDef := ⟨2, 4, [.asg (.nm 2) (.ite (.cmp .lt (.var 1) (.bi .len false [(.var 0)])) (.bi .int false [(.ix (.var 0) (.var 1))]) (.bin .add false (.bin .mul false (.int 911) (.var 1)) (.int 67))), .asg (.nm 3) (.bin .mod false (.bi .int false [(.bi .abs false [(.var 2)])]) lx_hat), .ret (.lst true [(.bi .max2 false [(.int 0), (.bin .sub false (.var 3) (.bin .pow false (.int 10) (.int 16)))]), (.bin .add false (.bin .add false (.bin .add false (.bin .mul false (.bin .mod false (.bi .int false [(.var 3)]) (.int 2147483323)) (.int 389)) (.bin .mul false (.int 701) (.var 1))) (.bin .mul false (.int 37) (.bi .int false [(.cmp .lt (.var 2) (.int 0))]))) (.int 17)), (.int 0)])]⟩
/-- _law_wb_up: 0=hat 1=total 2=found 3=one 4=two -/
def fd_law_wb_up : FDef := ⟨2, 5, [.ite (.cmp .gt (.ix (.var 0) (.int 0)) (.int 0)) [.asg (.nm 2) (.bin .mod false (.bi .int false [(.ix (.var 0) (.int 0))]) (.var 1)), .asg (.ix (.var 0) (.int 0)) (.bin .fdiv false (.ix (.var 0) (.int 0)) (.var 1)), .ret (.var 2)] [], .asg (.ix (.var 0) (.int 2)) (.bin .add false (.ix (.var 0) (.int 2)) (.int 1)), .asg (.nm 3) (.bin .mod false (.bi .int false [(.bin .add false (.ix (.var 0) (.int 1)) (.bin .mul false (.int 49979687) (.ix (.var 0) (.int 2))))]) (.int 2305843009213693951)), .asg (.nm 4) (.bin .add false (.bin .mul false (.bin .mod false (.bi .int false [(.bin .add false (.bin .mul false (.var 3) (.var 3)) (.bin .mul false (.int 419) (.ix (.var 0) (.int 2))))]) (.int 2305843009213693921)) (.int 15487469)) (.var 3)), .ret (.bin .mod false (.bi .int false [(.bin .fdiv false (.var 4) (.int 65563))]) (.var 1))]⟩
/-- _law_wb_two: 0=many 1=found 2=turn -/
def fd_law_wb_two : FDef := ⟨1, 3, [.asg (.nm 1) (.int 1), .for_ (.nm 2) .rg1 [(.var 0)] [.asg (.nm 1) (.bin .mul false (.int 2) (.var 1))], .ret (.var 1)]⟩
/-- _law_wb_of: 0=hat 1=items -/
def fd_law_wb_of : FDef := ⟨2, 2, [.ret (.ix (.var 1) (.call 32 [(.var 0), (.bi .len false [(.var 1)])]))]⟩
/-- _law_wb_shared: 0=one 1=other -/
def fd_law_wb_shared : FDef := ⟨2, 2, [.par [0, 1] [(.bi .abs false [(.var 0)]), (.bi .abs false [(.var 1)])], .while_ (.cmp .ne (.var 1) (.int 0)) [.par [0, 1] [(.var 1), (.bin .mod false (.var 0) (.var 1))]], .ret (.var 0)]⟩
/-- _law_wb_frac: 0=top 1=bottom 2=shared -/
def fd_law_wb_frac : FDef := ⟨2, 3, [.asg (.nm 2) (.pcall 35 [(.var 0), (.var 1)]), .ret (.tup [(.bin .fdiv false (.var 0) (.var 2)), (.bin .fdiv false (.var 1) (.var 2))])]⟩
/-- _law_wb_plus: 0=one 1=other -/
def fd_law_wb_plus : FDef := ⟨2, 2, [.ret (.pcall 36 [(.bin .add false (.bin .mul false (.ix (.var 0) (.int 0)) (.ix (.var 1) (.int 1))) (.bin .mul false (.ix (.var 1) (.int 0)) (.ix (.var 0) (.int 1)))), (.bin .mul false (.ix (.var 0) (.int 1)) (.ix (.var 1) (.int 1)))])]⟩
/-- _law_wb_less: 0=one 1=other -/
def fd_law_wb_less : FDef := ⟨2, 2, [.ret (.pcall 36 [(.bin .sub false (.bin .mul false (.ix (.var 0) (.int 0)) (.ix (.var 1) (.int 1))) (.bin .mul false (.ix (.var 1) (.int 0)) (.ix (.var 0) (.int 1)))), (.bin .mul false (.ix (.var 0) (.int 1)) (.ix (.var 1) (.int 1)))])]⟩
/-- _law_wb_least: 0=row 1=shared 2=number -/
def fd_law_wb_least : FDef := ⟨1, 3, [.asg (.nm 1) (.ix (.var 0) (.int 0)), .for_ (.nm 2) .vl [(.ix (.var 0) (.int 1))] [.asg (.nm 1) (.pcall 35 [(.var 1), (.var 2)])], .ret (.tup [(.bin .fdiv false (.ix (.var 0) (.int 0)) (.var 1)), (.bi .tuple false [(.comp false [2] (.nm 2) .vl [(.ix (.var 0) (.int 1))] [] (.bin .fdiv false (.var 2) (.var 1)))])])]⟩
/-- _law_wb_word: 0=many 1=number 2=found 3=at -/
def fd_law_wb_word : FDef := ⟨2, 4, [.asg (.nm 2) (.lst true []), .for_ (.nm 3) .rg1 [(.var 0)] [.expr (.mt .append (.var 2) [(.bin .mod false (.var 1) (.int 2))]), .asg (.nm 1) (.bin .fdiv false (.var 1) (.int 2))], .ret (.bi .tuple false [(.var 2)])]⟩
/-- _law_wb_bits: 0=hat 1=many 2=way 3=at -/
def fd_law_wb_bits : FDef := ⟨2, 4, [.asg (.nm 2) (.call 32 [(.var 0), (.int 9)]), .ite (.cmp .lt (.var 2) (.int 2)) [.ret (.bin .mul false (.tup [(.var 2)]) (.var 1))] [], .ret (.bi .tuple false [(.comp false [3] (.nm 3) .rg1 [(.var 1)] [] (.call 32 [(.var 0), (.int 2)]))])]⟩
/-- _law_wb_draw: 0=hat 1=many 2=way 3=most 4=counts 5=more 6=at 7=number -/
def fd_law_wb_draw : FDef := ⟨2, 8, [.asg (.tp [(.nm 2), (.nm 3)]) (.tup [(.call 32 [(.var 0), (.int 6)]), (.call 34 [(.var 0), (.memo 8 (.lst false [(.int 1), (.int 2), (.int 4), (.int 9), (.bin .pow false (.int 10) (.int 30))]))])]), .asg (.nm 4) (.comp true [6] (.nm 6) .rg1 [(.var 1)] [] (.call 32 [(.var 0), (.bin .add false (.var 3) (.int 1))])), .ite (.cmp .eq (.var 2) (.int 0)) [.asg (.nm 4) (.bin .mul true (.lst false [(.int 0)]) (.var 1))] [], .augIx (.var 4) (.call 32 [(.var 0), (.var 1)]) .add (.int 1), .ite (.cmp .eq (.var 2) (.int 1)) [.asg (.nm 4) (.bin .mul true (.lst false [(.int 1)]) (.var 1))] [], .asg (.nm 5) (.call 34 [(.var 0), (.lst false [(.int 1), (.int 1), (.int 2), (.int 3)])]), .ret (.tup [(.bin .mul false (.var 5) (.bi .sum false [(.var 4)])), (.bi .tuple false [(.comp false [7] (.nm 7) .vl [(.var 4)] [] (.bin .mul false (.var 5) (.var 7)))])])]⟩
/-- _law_wb_excess: 0=draw 1=test 2=met 3=number 4=bit -/
def fd_law_wb_excess : FDef := ⟨2, 5, [.asg (.nm 2) (.bi .sum false [(.comp false [3, 4] (.tp [(.nm 3), (.nm 4)]) .zp [(.ix (.var 0) (.int 1)), (.var 1)] [(.cmp .eq (.var 4) (.int 1))] (.var 3))]), .ret (.pcall 36 [(.bin .sub false (.bin .mul false (.var 2) (.bi .len false [(.var 1)])) (.bin .mul false (.bi .sum false [(.var 1)]) (.ix (.var 0) (.int 0)))), (.bin .mul false (.ix (.var 0) (.int 0)) (.bi .len false [(.var 1)]))])]⟩
/-- _law_wb_begin: 0=draw 1=m 2=word 3=found 4=number 5=weight -/
def fd_law_wb_begin : FDef := ⟨3, 6, [.asg (.nm 3) (.int 0), .for_ (.tp [(.nm 4), (.nm 5)]) .en [(.ix (.var 0) (.int 1))] [.ite (.cmp .eq (.slH false (.pcall 40 [(.var 1), (.var 4)]) (.bi .len false [(.var 2)])) (.var 2)) [.asg (.nm 3) (.bin .add false (.var 3) (.var 5))] []], .ret (.var 3)]⟩
/-- _law_wb_hybrid: 0=draw 1=m 2=i 3=found 4=number -/
def fd_law_wb_hybrid : FDef := ⟨3, 5, [.asg (.nm 3) (.lst true []), .for_ (.nm 4) .rg1 [(.bi .len false [(.ix (.var 0) (.int 1))])] [.expr (.mt .append (.var 3) [(.pcall 44 [(.var 0), (.var 1), (.slH false (.pcall 40 [(.var 1), (.var 4)]) (.var 2))])])], .ret (.pcall 39 [(.tup [(.bin .mul false (.ix (.var 0) (.int 0)) (.pcall 33 [(.bin .sub false (.var 1) (.var 2))])), (.bi .tuple false [(.var 3)])])])]⟩
/-- _law_wb_even: 0=m -/
def fd_law_wb_even : FDef := ⟨1, 1, [.ret (.tup [(.pcall 33 [(.var 0)]), (.bin .mul false (.tup [(.int 1)]) (.pcall 33 [(.var 0)]))])]⟩
/-- _law_words_right: 0=m 1=due 2=number 3=word -/
def fd_law_words_right : FDef := ⟨1, 4, [.asg (.nm 1) (.bi .tuple false [(.comp false [2] (.nm 2) .rg1 [(.pcall 33 [(.var 0)])] [] (.pcall 40 [(.var 0), (.var 2)]))]), .ite (.or (.cmp .ne (.pcall 24 [(.var 0)]) (.var 1)) (.cmp .ne (.pcall 27 [(.var 0)]) (.pcall 46 [(.var 0)]))) [.ret (.bl false)] [], .ret (.cmp .eq (.comp false [2, 3] (.tp [(.nm 2), (.nm 3)]) .en [(.var 1)] [(.cmp .ne (.pcall 25 [(.var 0), (.var 3)]) (.var 2))] (.var 2)) (.lst false []))]⟩
/-- _law_right: 0=hat 1=m 2=draw 3=test 4=counts 5=hybrids 6=chances 7=due 8=total 9=step 10=number 11=i 12=one -/
def fd_law_right : FDef := ⟨1, 13, [.asg (.nm 1) (.call 34 [(.var 0), (.lst false [(.int 1), (.int 2), (.int 3), (.int 3), (.int 4)])]), .asg (.tp [(.nm 2), (.nm 3)]) (.tup [(.call 42 [(.var 0), (.pcall 33 [(.var 1)])]), (.call 41 [(.var 0), (.pcall 33 [(.var 1)])])]), .asg (.nm 4) (.bi .tuple false [(.comp false [10] (.nm 10) .vl [(.ix (.var 2) (.int 1))] [] (.bin .mod false (.var 10) (.int 999999937)))]), .ite (.and (.cmp .gt (.bi .sum false [(.var 4)]) (.int 0)) (.cmp .ne (.pcall 26 [(.var 1), (.var 4)]) (.pcall 39 [(.tup [(.bi .sum false [(.var 4)]), (.var 4)])]))) [.ret (.bl false)] [], .ite (.cmp .ne (.pcall 28 [(.var 1), (.var 2), (.var 3)]) (.pcall 43 [(.var 2), (.var 3)])) [.ret (.bl false)] [], .asg (.nm 5) (.comp false [11] (.nm 11) .rg1 [(.bin .add false (.var 1) (.int 1))] [] (.pcall 45 [(.var 2), (.var 1), (.var 11)])), .ite (.or (.cmp .ne (.comp false [11] (.nm 11) .rg1 [(.bin .add false (.var 1) (.int 1))] [] (.pcall 29 [(.var 1), (.var 2), (.var 11)])) (.var 5)) (.cmp .ne (.ix (.var 5) (.var 1)) (.pcall 39 [(.var 2)]))) [.ret (.bl false)] [], .asg (.nm 6) (.comp false [12] (.nm 12) .vl [(.var 5)] [] (.pcall 43 [(.var 12), (.var 3)])), .asg (.nm 7) (.bi .tuple false [(.comp false [11] (.nm 11) .rg1 [(.var 1)] [] (.pcall 38 [(.ix (.var 6) (.bin .add false (.var 11) (.int 1))), (.ix (.var 6) (.var 11))]))]), .asg (.nm 8) (.tup [(.int 0), (.int 1)]), .for_ (.nm 9) .vl [(.var 7)] [.asg (.nm 8) (.pcall 37 [(.var 8), (.var 9)])], .ret (.and (.cmp .eq (.pcall 30 [(.var 1), (.var 2), (.var 3)]) (.var 7)) (.cmp .eq (.var 8) (.pcall 43 [(.var 2), (.var 3)])))]⟩
def law_tail : List Sm := [.ite (.cmp .ne (.comp false [6] (.nm 6) .rg2 [(.int 1), (.int 7)] [(.not (.pcall 47 [(.var 6)]))] (.var 6)) (.lst false [])) [.ret (.bl false)] [], .asg (.nm 4) (.pcall 26 [(.int 2), (.tup [(.int 3), (.int 0), (.int 0), (.int 3)])]), .asg (.nm 5) (.lst false [(.var 4), (.pcall 29 [(.int 2), (.var 4), (.int 0)]), (.pcall 29 [(.int 2), (.var 4), (.int 1)]), (.pcall 30 [(.int 2), (.var 4), (.tup [(.int 1), (.int 0), (.int 0), (.int 1)])]), (.pcall 28 [(.int 2), (.var 4), (.tup [(.int 0), (.int 1), (.int 1), (.int 0)])])]), .ret (.cmp .eq (.var 5) (.lst false [(.tup [(.int 2), (.tup [(.int 1), (.int 0), (.int 0), (.int 1)])]), (.tup [(.int 4), (.tup [(.int 1), (.int 1), (.int 1), (.int 1)])]), (.tup [(.int 4), (.tup [(.int 1), (.int 1), (.int 1), (.int 1)])]), (.tup [(.tup [(.int 0), (.int 1)]), (.tup [(.int 1), (.int 2)])]), (.tup [(.neg (.int 1)), (.int 2)])]))]
/-- law: 0=script 1=spot 2=hat 3=turn 4=twin 5=told 6=m -/
def fd_law : FDef := ⟨1, 7, [.for_ (.nm 1) .rg1 [(.bi .max2 false [(.int 1), (.bi .min2 false [(.int 3), (.bi .len false [(.var 0)])])])] [.asg (.nm 2) (.call 31 [(.var 0), (.var 1)]), .for_ (.nm 3) .rg1 [(.int 3)] [.ite (.not (.call 48 [(.var 2)])) [.ret (.bl false)] []]], .tail 7 law_tail]⟩
def fns : List (Option FDef) := [none, none, some fd_is_whole, some fd_is_integer, some fd_is_within, some fd_is_bit, some fd_are_bits, some fd_number_in, some fd_word_in, some fd_fraction_in, some fd_less_in, some fd_require_within, some fd_least_in, some fd_is_row_in, some fd_is_part_in, some fd_is_mix_in, some fd_require_draw, none, some fd_excess_in, some fd_begins_in, some fd_hybrid_in, some fd_steps_in, some fd_require_words, some fd_require_bits, some fd_words, some fd_word_number, some fd_draw_of, some fd_even_draw, some fd_excess, some fd_hybrid, some fd_steps, some fd_law_wb_hat, some fd_law_wb_up, some fd_law_wb_two, some fd_law_wb_of, some fd_law_wb_shared, some fd_law_wb_frac, some fd_law_wb_plus, some fd_law_wb_less, some fd_law_wb_least, some fd_law_wb_word, some fd_law_wb_bits, some fd_law_wb_draw, some fd_law_wb_excess, some fd_law_wb_begin, some fd_law_wb_hybrid, some fd_law_wb_even, some fd_law_words_right, some fd_law_right, some fd_law]
def gvs : List (Option D) := [some (.int 1000000000), some (.int 2), none, none, none, none, none, none, none, none, none, none, none, none, none, none, none, some (.int 6), none, none, none, none, none, none, none, none, none, none, none, none, none, none, none, none, none, none, none, none, none, none, none, none, none, none, none, none, none, none, none, none]
def pr : Prog := prOf fns gvs 1000
end LW
namespace LW
open PySem PySem.Spec
open PyProof.Rows L2 Ev
def cd_is_whole : CDef := ⟨1, 1, fun C => (sCons (sRet (kAnd (kBi (.isinst .tInt) false (kCons (getV 0) kNil)) (kNot (kBi (.isinst .tBool) false (kCons (getV 0) kNil))))) sNil)⟩
def cd_is_integer : CDef := ⟨1, 1, fun C => (sCons (sRet (kAnd (kCall (C.cl 2) (kCons (getV 0) kNil)) (kChain .lt .lt (kNeg (kOpt (C.gv 0))) (getV 0) (kOpt (C.gv 0))))) sNil)⟩
def cd_is_within : CDef := ⟨3, 3, fun C => (sCons (sRet (kAnd (kCall (C.cl 2) (kCons (getV 0) kNil)) (kChain .le .le (getV 1) (getV 0) (getV 2)))) sNil)⟩
def cd_is_bit : CDef := ⟨1, 1, fun C => (sCons (sRet (kCall (C.cl 4) (kCons (getV 0) (kCons (kRet (.int 0)) (kCons (kRet (.int 1)) kNil))))) sNil)⟩
def cd_are_bits : CDef := ⟨2, 3, fun C => (sCons (sRet (kAnd (kBi (.isinst .tTuple) false (kCons (getV 0) kNil)) (kAnd (kCmp .eq (kBi .len false (kCons (getV 0) kNil)) (getV 1)) (kBi .all false (kCons (kComp false [2] (.nm 2) .vl (kCons (getV 0) kNil) (kRet (.bl true)) (kCall (C.cl 5) (kCons (getV 2) kNil))) kNil))))) sNil)⟩
def cd_number_in : CDef := ⟨1, 3, fun C => (sCons (sRet (kBi .sum false (kCons (kComp false [1, 2] (.tp [(.nm 1), (.nm 2)]) .en (kCons (getV 0) kNil) (kRet (.bl true)) (kBin .shl false (getV 2) (getV 1))) kNil))) sNil)⟩
def cd_word_in : CDef := ⟨2, 3, fun C => (sCons (sRet (kBi .tuple false (kCons (kComp false [2] (.nm 2) .rg1 (kCons (getV 0) kNil) (kRet (.bl true)) (kBin .band false (kBin .shr false (getV 1) (getV 2)) (kRet (.int 1)))) kNil))) sNil)⟩
def cd_fraction_in : CDef := ⟨2, 3, fun C => (sCons (sAsg (kIte (kCmp .gt (getV 1) (kRet (.int 0))) (kBi .gcd false (kCons (getV 0) (kCons (getV 1) kNil))) (kNeg (kBi .gcd false (kCons (getV 0) (kCons (getV 1) kNil))))) (gNm 2)) (sCons (sRet (kTup (kCons (kBin .fdiv false (getV 0) (getV 2)) (kCons (kBin .fdiv false (getV 1) (getV 2)) kNil)))) sNil))⟩
def cd_less_in : CDef := ⟨2, 2, fun C => (sCons (sRet (kCall (C.cl 9) (kCons (kBin .sub false (kBin .mul false (kIx (getV 0) (kRet (.int 0))) (kIx (getV 1) (kRet (.int 1)))) (kBin .mul false (kIx (getV 1) (kRet (.int 0))) (kIx (getV 0) (kRet (.int 1))))) (kCons (kBin .mul false (kIx (getV 0) (kRet (.int 1))) (kIx (getV 1) (kRet (.int 1)))) kNil)))) sNil)⟩
def cd_require_within : CDef := ⟨3, 3, fun C => (sCons (sIte (kNot (kCall (C.cl 4) (kCons (getV 0) (kCons (getV 1) (kCons (getV 2) kNil))))) (sCons (sRaise1 2 (getV 0)) sNil) sNil) sNil)⟩
def cd_least_in : CDef := ⟨1, 3, fun C => (sCons (sAsg (kIx (getV 0) (kRet (.int 0))) (gNm 1)) (sCons (sFor (.nm 2) .vl (kCons (kIx (getV 0) (kRet (.int 1))) kNil) (sCons (sAsg (kBi .gcd false (kCons (getV 1) (kCons (getV 2) kNil))) (gNm 1)) sNil)) (sCons (sRet (kTup (kCons (kBin .fdiv false (kIx (getV 0) (kRet (.int 0))) (getV 1)) (kCons (kBi .tuple false (kCons (kComp false [2] (.nm 2) .vl (kCons (kIx (getV 0) (kRet (.int 1))) kNil) (kRet (.bl true)) (kBin .fdiv false (getV 2) (getV 1))) kNil)) kNil)))) sNil)))⟩
def cd_is_row_in : CDef := ⟨2, 3, fun C => (sCons (sIte (kOr (kNot (kBi (.isinst .tTuple) false (kCons (getV 1) kNil))) (kOr (kCmp .ne (kBi .len false (kCons (getV 1) kNil)) (kOpt (C.gv 1))) (kOr (kNot (kCall (C.cl 2) (kCons (kIx (getV 1) (kRet (.int 0))) kNil))) (kCmp .lt (kIx (getV 1) (kRet (.int 0))) (kRet (.int 1)))))) (sCons (sRet (kRet (.bl false))) sNil) sNil) (sCons (sIte (kOr (kNot (kBi (.isinst .tTuple) false (kCons (kIx (getV 1) (kRet (.int 1))) kNil))) (kCmp .ne (kBi .len false (kCons (kIx (getV 1) (kRet (.int 1))) kNil)) (getV 0))) (sCons (sRet (kRet (.bl false))) sNil) sNil) (sCons (sRet (kBi .all false (kCons (kComp false [2] (.nm 2) .vl (kCons (kIx (getV 1) (kRet (.int 1))) kNil) (kRet (.bl true)) (kCall (C.cl 2) (kCons (getV 2) kNil))) kNil))) sNil)))⟩
def cd_is_part_in : CDef := ⟨2, 3, fun C => (sCons (sRet (kAnd (kCall (C.cl 13) (kCons (getV 0) (kCons (getV 1) kNil))) (kBi .all false (kCons (kComp false [2] (.nm 2) .vl (kCons (kIx (getV 1) (kRet (.int 1))) kNil) (kRet (.bl true)) (kChain .le .le (kRet (.int 0)) (getV 2) (kIx (getV 1) (kRet (.int 0))))) kNil)))) sNil)⟩
def cd_is_mix_in : CDef := ⟨2, 2, fun C => (sCons (sRet (kAnd (kCall (C.cl 14) (kCons (getV 0) (kCons (getV 1) kNil))) (kCmp .eq (kBi .sum false (kCons (kIx (getV 1) (kRet (.int 1))) kNil)) (kIx (getV 1) (kRet (.int 0)))))) sNil)⟩
def cd_require_draw : CDef := ⟨2, 2, fun C => (sCons (sIte (kNot (kCall (C.cl 15) (kCons (getV 0) (kCons (getV 1) kNil)))) (sCons (sRaise0 0) sNil) sNil) sNil)⟩
def cd_excess_in : CDef := ⟨2, 5, fun C => (sCons (sAsg (kBi .sum false (kCons (kComp false [3, 4] (.tp [(.nm 3), (.nm 4)]) .zp (kCons (kIx (getV 0) (kRet (.int 1))) (kCons (getV 1) kNil)) (kCmp .eq (getV 4) (kRet (.int 1))) (getV 3)) kNil)) (gNm 2)) (sCons (sRet (kCall (C.cl 9) (kCons (kBin .sub false (kBin .mul false (getV 2) (kBi .len false (kCons (getV 1) kNil))) (kBin .mul false (kBi .sum false (kCons (getV 1) kNil)) (kIx (getV 0) (kRet (.int 0))))) (kCons (kBin .mul false (kIx (getV 0) (kRet (.int 0))) (kBi .len false (kCons (getV 1) kNil))) kNil)))) sNil))⟩
def cd_begins_in : CDef := ⟨2, 5, fun C => (sCons (sAsg (kBin .mul true (kLst false (kCons (kRet (.int 0)) kNil)) (kBin .shl false (kRet (.int 1)) (getV 1))) (gNm 2)) (sCons (sFor (.tp [(.nm 3), (.nm 4)]) .en (kCons (kIx (getV 0) (kRet (.int 1))) kNil) (sCons (sAugIx (getV 2) (kBin .mod false (getV 3) (kBi .len false (kCons (getV 2) kNil))) .add (getV 4)) sNil)) (sCons (sRet (getV 2)) sNil)))⟩
def cd_hybrid_in : CDef := ⟨2, 6, fun C => (sCons (sAsg (kTup (kCons (kCall (C.cl 19) (kCons (getV 0) (kCons (getV 1) kNil))) (kCons (kBi .len false (kCons (kIx (getV 0) (kRet (.int 1))) kNil)) kNil))) (gTp 2 (gCons (gNm 2) (gCons (gNm 3) gNil)))) (sCons (sAsg (kBi .tuple false (kCons (kComp false [5] (.nm 5) .rg1 (kCons (getV 3) kNil) (kRet (.bl true)) (kIx (getV 2) (kBin .mod false (getV 5) (kBi .len false (kCons (getV 2) kNil))))) kNil)) (gNm 4)) (sCons (sRet (kCall (C.cl 12) (kCons (kTup (kCons (kBin .mul false (kIx (getV 0) (kRet (.int 0))) (kBin .fdiv false (getV 3) (kBi .len false (kCons (getV 2) kNil)))) (kCons (getV 4) kNil))) kNil))) sNil)))⟩
def cd_steps_in : CDef := ⟨3, 7, fun C => (sCons (sAsg (kComp false [4] (.nm 4) .rg1 (kCons (kBin .add false (getV 0) (kRet (.int 1))) kNil) (kRet (.bl true)) (kCall (C.cl 18) (kCons (kCall (C.cl 20) (kCons (getV 1) (kCons (getV 4) kNil))) (kCons (getV 2) kNil)))) (gNm 3)) (sCons (sRet (kBi .tuple false (kCons (kComp false [5, 6] (.tp [(.nm 5), (.nm 6)]) .zp (kCons (getV 3) (kCons (kSlL false (getV 3) (kRet (.int 1))) kNil)) (kRet (.bl true)) (kCall (C.cl 10) (kCons (getV 6) (kCons (getV 5) kNil)))) kNil))) sNil))⟩
def cd_require_words : CDef := ⟨2, 2, fun C => (sCons (sExpr (kCall (C.cl 11) (kCons (getV 0) (kCons (kRet (.int 1)) (kCons (kOpt (C.gv 17)) kNil))))) (sCons (sExpr (kCall (C.cl 16) (kCons (kBin .shl false (kRet (.int 1)) (getV 0)) (kCons (getV 1) kNil)))) sNil))⟩
def cd_require_bits : CDef := ⟨2, 2, fun C => (sCons (sIte (kNot (kCall (C.cl 6) (kCons (getV 0) (kCons (getV 1) kNil)))) (sCons (sRaise0 1) sNil) sNil) sNil)⟩
def cd_words : CDef := ⟨1, 2, fun C => (sCons (sExpr (kCall (C.cl 11) (kCons (getV 0) (kCons (kRet (.int 1)) (kCons (kOpt (C.gv 17)) kNil))))) (sCons (sRet (kBi .tuple false (kCons (kComp false [1] (.nm 1) .rg1 (kCons (kBin .shl false (kRet (.int 1)) (getV 0)) kNil) (kRet (.bl true)) (kCall (C.cl 8) (kCons (getV 0) (kCons (getV 1) kNil)))) kNil))) sNil))⟩
def cd_word_number : CDef := ⟨2, 2, fun C => (sCons (sExpr (kCall (C.cl 11) (kCons (getV 0) (kCons (kRet (.int 1)) (kCons (kOpt (C.gv 17)) kNil))))) (sCons (sExpr (kCall (C.cl 23) (kCons (getV 1) (kCons (getV 0) kNil)))) (sCons (sRet (kCall (C.cl 7) (kCons (getV 1) kNil))) sNil)))⟩
def cd_draw_of : CDef := ⟨2, 3, fun C => (sCons (sExpr (kCall (C.cl 11) (kCons (getV 0) (kCons (kRet (.int 1)) (kCons (kOpt (C.gv 17)) kNil))))) (sCons (sIte (kOr (kNot (kBi (.isinst .tTuple) false (kCons (getV 1) kNil))) (kCmp .ne (kBi .len false (kCons (getV 1) kNil)) (kBin .shl false (kRet (.int 1)) (getV 0)))) (sCons (sRaise0 0) sNil) sNil) (sCons (sIte (kOr (kNot (kBi .all false (kCons (kComp false [2] (.nm 2) .vl (kCons (getV 1) kNil) (kRet (.bl true)) (kAnd (kCall (C.cl 3) (kCons (getV 2) kNil)) (kCmp .ge (getV 2) (kRet (.int 0))))) kNil))) (kCmp .eq (kBi .sum false (kCons (getV 1) kNil)) (kRet (.int 0)))) (sCons (sRaise0 0) sNil) sNil) (sCons (sRet (kCall (C.cl 12) (kCons (kTup (kCons (kBi .sum false (kCons (getV 1) kNil)) (kCons (getV 1) kNil))) kNil))) sNil))))⟩
def cd_even_draw : CDef := ⟨1, 1, fun C => (sCons (sExpr (kCall (C.cl 11) (kCons (getV 0) (kCons (kRet (.int 1)) (kCons (kOpt (C.gv 17)) kNil))))) (sCons (sRet (kTup (kCons (kBin .shl false (kRet (.int 1)) (getV 0)) (kCons (kBin .mul false (kTup (kCons (kRet (.int 1)) kNil)) (kBin .shl false (kRet (.int 1)) (getV 0))) kNil)))) sNil))⟩
def cd_excess : CDef := ⟨3, 3, fun C => (sCons (sExpr (kCall (C.cl 22) (kCons (getV 0) (kCons (getV 1) kNil)))) (sCons (sExpr (kCall (C.cl 23) (kCons (getV 2) (kCons (kBin .shl false (kRet (.int 1)) (getV 0)) kNil)))) (sCons (sRet (kCall (C.cl 18) (kCons (getV 1) (kCons (getV 2) kNil)))) sNil)))⟩
def cd_hybrid : CDef := ⟨3, 3, fun C => (sCons (sExpr (kCall (C.cl 22) (kCons (getV 0) (kCons (getV 1) kNil)))) (sCons (sExpr (kCall (C.cl 11) (kCons (getV 2) (kCons (kRet (.int 0)) (kCons (getV 0) kNil))))) (sCons (sRet (kCall (C.cl 20) (kCons (getV 1) (kCons (getV 2) kNil)))) sNil)))⟩
def cd_steps : CDef := ⟨3, 3, fun C => (sCons (sExpr (kCall (C.cl 22) (kCons (getV 0) (kCons (getV 1) kNil)))) (sCons (sExpr (kCall (C.cl 23) (kCons (getV 2) (kCons (kBin .shl false (kRet (.int 1)) (getV 0)) kNil)))) (sCons (sRet (kCall (C.cl 21) (kCons (getV 0) (kCons (getV 1) (kCons (getV 2) kNil))))) sNil)))⟩
def cd_law_wb_hat : CDef := ⟨2, 4, fun C => (sCons (sAsg (kIte (kCmp .lt (getV 1) (kBi .len false (kCons (getV 0) kNil))) (kBi .int false (kCons (kIx (getV 0) (getV 1)) kNil)) (kBin .add false (kBin .mul false (kRet (.int 911)) (getV 1)) (kRet (.int 67)))) (gNm 2)) (sCons (sAsg (kBin .mod false (kBi .int false (kCons (kBi .abs false (kCons (getV 2) kNil)) kNil)) (evE C lx_hat)) (gNm 3)) (sCons (sRet (kLst true (kCons (kBi .max2 false (kCons (kRet (.int 0)) (kCons (kBin .sub false (getV 3) (kBin .pow false (kRet (.int 10)) (kRet (.int 16)))) kNil))) (kCons (kBin .add false (kBin .add false (kBin .add false (kBin .mul false (kBin .mod false (kBi .int false (kCons (getV 3) kNil)) (kRet (.int 2147483323))) (kRet (.int 389))) (kBin .mul false (kRet (.int 701)) (getV 1))) (kBin .mul false (kRet (.int 37)) (kBi .int false (kCons (kCmp .lt (getV 2) (kRet (.int 0))) kNil)))) (kRet (.int 17))) (kCons (kRet (.int 0)) kNil))))) sNil)))⟩
def cd_law_wb_up : CDef := ⟨2, 5, fun C => (sCons (sIte (kCmp .gt (kIx (getV 0) (kRet (.int 0))) (kRet (.int 0))) (sCons (sAsg (kBin .mod false (kBi .int false (kCons (kIx (getV 0) (kRet (.int 0))) kNil)) (getV 1)) (gNm 2)) (sCons (sAsg (kBin .fdiv false (kIx (getV 0) (kRet (.int 0))) (getV 1)) (gIx (getV 0) (kRet (.int 0)))) (sCons (sRet (getV 2)) sNil))) sNil) (sCons (sAsg (kBin .add false (kIx (getV 0) (kRet (.int 2))) (kRet (.int 1))) (gIx (getV 0) (kRet (.int 2)))) (sCons (sAsg (kBin .mod false (kBi .int false (kCons (kBin .add false (kIx (getV 0) (kRet (.int 1))) (kBin .mul false (kRet (.int 49979687)) (kIx (getV 0) (kRet (.int 2))))) kNil)) (kRet (.int 2305843009213693951))) (gNm 3)) (sCons (sAsg (kBin .add false (kBin .mul false (kBin .mod false (kBi .int false (kCons (kBin .add false (kBin .mul false (getV 3) (getV 3)) (kBin .mul false (kRet (.int 419)) (kIx (getV 0) (kRet (.int 2))))) kNil)) (kRet (.int 2305843009213693921))) (kRet (.int 15487469))) (getV 3)) (gNm 4)) (sCons (sRet (kBin .mod false (kBi .int false (kCons (kBin .fdiv false (getV 4) (kRet (.int 65563))) kNil)) (getV 1))) sNil)))))⟩
def cd_law_wb_two : CDef := ⟨1, 3, fun C => (sCons (sAsg (kRet (.int 1)) (gNm 1)) (sCons (sFor (.nm 2) .rg1 (kCons (getV 0) kNil) (sCons (sAsg (kBin .mul false (kRet (.int 2)) (getV 1)) (gNm 1)) sNil)) (sCons (sRet (getV 1)) sNil)))⟩
def cd_law_wb_of : CDef := ⟨2, 2, fun C => (sCons (sRet (kIx (getV 1) (kCall (C.cl 32) (kCons (getV 0) (kCons (kBi .len false (kCons (getV 1) kNil)) kNil))))) sNil)⟩
def cd_law_wb_shared : CDef := ⟨2, 2, fun C => (sCons (sPar [0, 1] (kCons (kBi .abs false (kCons (getV 0) kNil)) (kCons (kBi .abs false (kCons (getV 1) kNil)) kNil))) (sCons (sWhile (kCmp .ne (getV 1) (kRet (.int 0))) (sCons (sPar [0, 1] (kCons (getV 1) (kCons (kBin .mod false (getV 0) (getV 1)) kNil))) sNil)) (sCons (sRet (getV 0)) sNil)))⟩
def cd_law_wb_frac : CDef := ⟨2, 3, fun C => (sCons (sAsg (kCall (pureC (C.cl 35)) (kCons (getV 0) (kCons (getV 1) kNil))) (gNm 2)) (sCons (sRet (kTup (kCons (kBin .fdiv false (getV 0) (getV 2)) (kCons (kBin .fdiv false (getV 1) (getV 2)) kNil)))) sNil))⟩
def cd_law_wb_plus : CDef := ⟨2, 2, fun C => (sCons (sRet (kCall (pureC (C.cl 36)) (kCons (kBin .add false (kBin .mul false (kIx (getV 0) (kRet (.int 0))) (kIx (getV 1) (kRet (.int 1)))) (kBin .mul false (kIx (getV 1) (kRet (.int 0))) (kIx (getV 0) (kRet (.int 1))))) (kCons (kBin .mul false (kIx (getV 0) (kRet (.int 1))) (kIx (getV 1) (kRet (.int 1)))) kNil)))) sNil)⟩
def cd_law_wb_less : CDef := ⟨2, 2, fun C => (sCons (sRet (kCall (pureC (C.cl 36)) (kCons (kBin .sub false (kBin .mul false (kIx (getV 0) (kRet (.int 0))) (kIx (getV 1) (kRet (.int 1)))) (kBin .mul false (kIx (getV 1) (kRet (.int 0))) (kIx (getV 0) (kRet (.int 1))))) (kCons (kBin .mul false (kIx (getV 0) (kRet (.int 1))) (kIx (getV 1) (kRet (.int 1)))) kNil)))) sNil)⟩
def cd_law_wb_least : CDef := ⟨1, 3, fun C => (sCons (sAsg (kIx (getV 0) (kRet (.int 0))) (gNm 1)) (sCons (sFor (.nm 2) .vl (kCons (kIx (getV 0) (kRet (.int 1))) kNil) (sCons (sAsg (kCall (pureC (C.cl 35)) (kCons (getV 1) (kCons (getV 2) kNil))) (gNm 1)) sNil)) (sCons (sRet (kTup (kCons (kBin .fdiv false (kIx (getV 0) (kRet (.int 0))) (getV 1)) (kCons (kBi .tuple false (kCons (kComp false [2] (.nm 2) .vl (kCons (kIx (getV 0) (kRet (.int 1))) kNil) (kRet (.bl true)) (kBin .fdiv false (getV 2) (getV 1))) kNil)) kNil)))) sNil)))⟩
def cd_law_wb_word : CDef := ⟨2, 4, fun C => (sCons (sAsg (kLst true kNil) (gNm 2)) (sCons (sFor (.nm 3) .rg1 (kCons (getV 0) kNil) (sCons (sExpr (kMt .append (getV 2) (kCons (kBin .mod false (getV 1) (kRet (.int 2))) kNil))) (sCons (sAsg (kBin .fdiv false (getV 1) (kRet (.int 2))) (gNm 1)) sNil))) (sCons (sRet (kBi .tuple false (kCons (getV 2) kNil))) sNil)))⟩
def cd_law_wb_bits : CDef := ⟨2, 4, fun C => (sCons (sAsg (kCall (C.cl 32) (kCons (getV 0) (kCons (kRet (.int 9)) kNil))) (gNm 2)) (sCons (sIte (kCmp .lt (getV 2) (kRet (.int 2))) (sCons (sRet (kBin .mul false (kTup (kCons (getV 2) kNil)) (getV 1))) sNil) sNil) (sCons (sRet (kBi .tuple false (kCons (kComp false [3] (.nm 3) .rg1 (kCons (getV 1) kNil) (kRet (.bl true)) (kCall (C.cl 32) (kCons (getV 0) (kCons (kRet (.int 2)) kNil)))) kNil))) sNil)))⟩
def cd_law_wb_draw : CDef := ⟨2, 8, fun C => (sCons (sAsg (kTup (kCons (kCall (C.cl 32) (kCons (getV 0) (kCons (kRet (.int 6)) kNil))) (kCons (kCall (C.cl 34) (kCons (getV 0) (kCons (kMemo 8 (kLst false (kCons (kRet (.int 1)) (kCons (kRet (.int 2)) (kCons (kRet (.int 4)) (kCons (kRet (.int 9)) (kCons (kBin .pow false (kRet (.int 10)) (kRet (.int 30))) kNil))))))) kNil))) kNil))) (gTp 2 (gCons (gNm 2) (gCons (gNm 3) gNil)))) (sCons (sAsg (kComp true [6] (.nm 6) .rg1 (kCons (getV 1) kNil) (kRet (.bl true)) (kCall (C.cl 32) (kCons (getV 0) (kCons (kBin .add false (getV 3) (kRet (.int 1))) kNil)))) (gNm 4)) (sCons (sIte (kCmp .eq (getV 2) (kRet (.int 0))) (sCons (sAsg (kBin .mul true (kLst false (kCons (kRet (.int 0)) kNil)) (getV 1)) (gNm 4)) sNil) sNil) (sCons (sAugIx (getV 4) (kCall (C.cl 32) (kCons (getV 0) (kCons (getV 1) kNil))) .add (kRet (.int 1))) (sCons (sIte (kCmp .eq (getV 2) (kRet (.int 1))) (sCons (sAsg (kBin .mul true (kLst false (kCons (kRet (.int 1)) kNil)) (getV 1)) (gNm 4)) sNil) sNil) (sCons (sAsg (kCall (C.cl 34) (kCons (getV 0) (kCons (kLst false (kCons (kRet (.int 1)) (kCons (kRet (.int 1)) (kCons (kRet (.int 2)) (kCons (kRet (.int 3)) kNil))))) kNil))) (gNm 5)) (sCons (sRet (kTup (kCons (kBin .mul false (getV 5) (kBi .sum false (kCons (getV 4) kNil))) (kCons (kBi .tuple false (kCons (kComp false [7] (.nm 7) .vl (kCons (getV 4) kNil) (kRet (.bl true)) (kBin .mul false (getV 5) (getV 7))) kNil)) kNil)))) sNil)))))))⟩
def cd_law_wb_excess : CDef := ⟨2, 5, fun C => (sCons (sAsg (kBi .sum false (kCons (kComp false [3, 4] (.tp [(.nm 3), (.nm 4)]) .zp (kCons (kIx (getV 0) (kRet (.int 1))) (kCons (getV 1) kNil)) (kCmp .eq (getV 4) (kRet (.int 1))) (getV 3)) kNil)) (gNm 2)) (sCons (sRet (kCall (pureC (C.cl 36)) (kCons (kBin .sub false (kBin .mul false (getV 2) (kBi .len false (kCons (getV 1) kNil))) (kBin .mul false (kBi .sum false (kCons (getV 1) kNil)) (kIx (getV 0) (kRet (.int 0))))) (kCons (kBin .mul false (kIx (getV 0) (kRet (.int 0))) (kBi .len false (kCons (getV 1) kNil))) kNil)))) sNil))⟩
def cd_law_wb_begin : CDef := ⟨3, 6, fun C => (sCons (sAsg (kRet (.int 0)) (gNm 3)) (sCons (sFor (.tp [(.nm 4), (.nm 5)]) .en (kCons (kIx (getV 0) (kRet (.int 1))) kNil) (sCons (sIte (kCmp .eq (kSlH false (kCall (pureC (C.cl 40)) (kCons (getV 1) (kCons (getV 4) kNil))) (kBi .len false (kCons (getV 2) kNil))) (getV 2)) (sCons (sAsg (kBin .add false (getV 3) (getV 5)) (gNm 3)) sNil) sNil) sNil)) (sCons (sRet (getV 3)) sNil)))⟩
def cd_law_wb_hybrid : CDef := ⟨3, 5, fun C => (sCons (sAsg (kLst true kNil) (gNm 3)) (sCons (sFor (.nm 4) .rg1 (kCons (kBi .len false (kCons (kIx (getV 0) (kRet (.int 1))) kNil)) kNil) (sCons (sExpr (kMt .append (getV 3) (kCons (kCall (pureC (C.cl 44)) (kCons (getV 0) (kCons (getV 1) (kCons (kSlH false (kCall (pureC (C.cl 40)) (kCons (getV 1) (kCons (getV 4) kNil))) (getV 2)) kNil)))) kNil))) sNil)) (sCons (sRet (kCall (pureC (C.cl 39)) (kCons (kTup (kCons (kBin .mul false (kIx (getV 0) (kRet (.int 0))) (kCall (pureC (C.cl 33)) (kCons (kBin .sub false (getV 1) (getV 2)) kNil))) (kCons (kBi .tuple false (kCons (getV 3) kNil)) kNil))) kNil))) sNil)))⟩
def cd_law_wb_even : CDef := ⟨1, 1, fun C => (sCons (sRet (kTup (kCons (kCall (pureC (C.cl 33)) (kCons (getV 0) kNil)) (kCons (kBin .mul false (kTup (kCons (kRet (.int 1)) kNil)) (kCall (pureC (C.cl 33)) (kCons (getV 0) kNil))) kNil)))) sNil)⟩
def cd_law_words_right : CDef := ⟨1, 4, fun C => (sCons (sAsg (kBi .tuple false (kCons (kComp false [2] (.nm 2) .rg1 (kCons (kCall (pureC (C.cl 33)) (kCons (getV 0) kNil)) kNil) (kRet (.bl true)) (kCall (pureC (C.cl 40)) (kCons (getV 0) (kCons (getV 2) kNil)))) kNil)) (gNm 1)) (sCons (sIte (kOr (kCmp .ne (kCall (pureC (C.cl 24)) (kCons (getV 0) kNil)) (getV 1)) (kCmp .ne (kCall (pureC (C.cl 27)) (kCons (getV 0) kNil)) (kCall (pureC (C.cl 46)) (kCons (getV 0) kNil)))) (sCons (sRet (kRet (.bl false))) sNil) sNil) (sCons (sRet (kCmp .eq (kComp false [2, 3] (.tp [(.nm 2), (.nm 3)]) .en (kCons (getV 1) kNil) (kCmp .ne (kCall (pureC (C.cl 25)) (kCons (getV 0) (kCons (getV 3) kNil))) (getV 2)) (getV 2)) (kLst false kNil))) sNil)))⟩
def cd_law_right : CDef := ⟨1, 13, fun C => (sCons (sAsg (kCall (C.cl 34) (kCons (getV 0) (kCons (kLst false (kCons (kRet (.int 1)) (kCons (kRet (.int 2)) (kCons (kRet (.int 3)) (kCons (kRet (.int 3)) (kCons (kRet (.int 4)) kNil)))))) kNil))) (gNm 1)) (sCons (sAsg (kTup (kCons (kCall (C.cl 42) (kCons (getV 0) (kCons (kCall (pureC (C.cl 33)) (kCons (getV 1) kNil)) kNil))) (kCons (kCall (C.cl 41) (kCons (getV 0) (kCons (kCall (pureC (C.cl 33)) (kCons (getV 1) kNil)) kNil))) kNil))) (gTp 2 (gCons (gNm 2) (gCons (gNm 3) gNil)))) (sCons (sAsg (kBi .tuple false (kCons (kComp false [10] (.nm 10) .vl (kCons (kIx (getV 2) (kRet (.int 1))) kNil) (kRet (.bl true)) (kBin .mod false (getV 10) (kRet (.int 999999937)))) kNil)) (gNm 4)) (sCons (sIte (kAnd (kCmp .gt (kBi .sum false (kCons (getV 4) kNil)) (kRet (.int 0))) (kCmp .ne (kCall (pureC (C.cl 26)) (kCons (getV 1) (kCons (getV 4) kNil))) (kCall (pureC (C.cl 39)) (kCons (kTup (kCons (kBi .sum false (kCons (getV 4) kNil)) (kCons (getV 4) kNil))) kNil)))) (sCons (sRet (kRet (.bl false))) sNil) sNil) (sCons (sIte (kCmp .ne (kCall (pureC (C.cl 28)) (kCons (getV 1) (kCons (getV 2) (kCons (getV 3) kNil)))) (kCall (pureC (C.cl 43)) (kCons (getV 2) (kCons (getV 3) kNil)))) (sCons (sRet (kRet (.bl false))) sNil) sNil) (sCons (sAsg (kComp false [11] (.nm 11) .rg1 (kCons (kBin .add false (getV 1) (kRet (.int 1))) kNil) (kRet (.bl true)) (kCall (pureC (C.cl 45)) (kCons (getV 2) (kCons (getV 1) (kCons (getV 11) kNil))))) (gNm 5)) (sCons (sIte (kOr (kCmp .ne (kComp false [11] (.nm 11) .rg1 (kCons (kBin .add false (getV 1) (kRet (.int 1))) kNil) (kRet (.bl true)) (kCall (pureC (C.cl 29)) (kCons (getV 1) (kCons (getV 2) (kCons (getV 11) kNil))))) (getV 5)) (kCmp .ne (kIx (getV 5) (getV 1)) (kCall (pureC (C.cl 39)) (kCons (getV 2) kNil)))) (sCons (sRet (kRet (.bl false))) sNil) sNil) (sCons (sAsg (kComp false [12] (.nm 12) .vl (kCons (getV 5) kNil) (kRet (.bl true)) (kCall (pureC (C.cl 43)) (kCons (getV 12) (kCons (getV 3) kNil)))) (gNm 6)) (sCons (sAsg (kBi .tuple false (kCons (kComp false [11] (.nm 11) .rg1 (kCons (getV 1) kNil) (kRet (.bl true)) (kCall (pureC (C.cl 38)) (kCons (kIx (getV 6) (kBin .add false (getV 11) (kRet (.int 1)))) (kCons (kIx (getV 6) (getV 11)) kNil)))) kNil)) (gNm 7)) (sCons (sAsg (kTup (kCons (kRet (.int 0)) (kCons (kRet (.int 1)) kNil))) (gNm 8)) (sCons (sFor (.nm 9) .vl (kCons (getV 7) kNil) (sCons (sAsg (kCall (pureC (C.cl 37)) (kCons (getV 8) (kCons (getV 9) kNil))) (gNm 8)) sNil)) (sCons (sRet (kAnd (kCmp .eq (kCall (pureC (C.cl 30)) (kCons (getV 1) (kCons (getV 2) (kCons (getV 3) kNil)))) (getV 7)) (kCmp .eq (getV 8) (kCall (pureC (C.cl 43)) (kCons (getV 2) (kCons (getV 3) kNil)))))) sNil))))))))))))⟩
def cd_law : CDef := ⟨1, 7, fun C => (sCons (sFor (.nm 1) .rg1 (kCons (kBi .max2 false (kCons (kRet (.int 1)) (kCons (kBi .min2 false (kCons (kRet (.int 3)) (kCons (kBi .len false (kCons (getV 0) kNil)) kNil))) kNil))) kNil) (sCons (sAsg (kCall (C.cl 31) (kCons (getV 0) (kCons (getV 1) kNil))) (gNm 2)) (sCons (sFor (.nm 3) .rg1 (kCons (kRet (.int 3)) kNil) (sCons (sIte (kNot (kCall (C.cl 48) (kCons (getV 2) kNil))) (sCons (sRet (kRet (.bl false))) sNil) sNil) sNil)) sNil))) (sCons (sTail 7 (evSs C law_tail)) sNil))⟩
def cfns : List (Option CDef) := [none, none, some cd_is_whole, some cd_is_integer, some cd_is_within, some cd_is_bit, some cd_are_bits, some cd_number_in, some cd_word_in, some cd_fraction_in, some cd_less_in, some cd_require_within, some cd_least_in, some cd_is_row_in, some cd_is_part_in, some cd_is_mix_in, some cd_require_draw, none, some cd_excess_in, some cd_begins_in, some cd_hybrid_in, some cd_steps_in, some cd_require_words, some cd_require_bits, some cd_words, some cd_word_number, some cd_draw_of, some cd_even_draw, some cd_excess, some cd_hybrid, some cd_steps, some cd_law_wb_hat, some cd_law_wb_up, some cd_law_wb_two, some cd_law_wb_of, some cd_law_wb_shared, some cd_law_wb_frac, some cd_law_wb_plus, some cd_law_wb_less, some cd_law_wb_least, some cd_law_wb_word, some cd_law_wb_bits, some cd_law_wb_draw, some cd_law_wb_excess, some cd_law_wb_begin, some cd_law_wb_hybrid, some cd_law_wb_even, some cd_law_words_right, some cd_law_right, some cd_law]
def cpr : CProg := ⟨gvOf gvs, cfns, 1000⟩
theorem crels : CRels fns cfns := .cons .none (.cons .none (.cons (.some rfl rfl fun _ => rfl) (.cons (.some rfl rfl fun _ => rfl) (.cons (.some rfl rfl fun _ => rfl) (.cons (.some rfl rfl fun _ => rfl) (.cons (.some rfl rfl fun _ => rfl) (.cons (.some rfl rfl fun _ => rfl) (.cons (.some rfl rfl fun _ => rfl) (.cons (.some rfl rfl fun _ => rfl) (.cons (.some rfl rfl fun _ => rfl) (.cons (.some rfl rfl fun _ => rfl) (.cons (.some rfl rfl fun _ => rfl) (.cons (.some rfl rfl fun _ => rfl) (.cons (.some rfl rfl fun _ => rfl) (.cons (.some rfl rfl fun _ => rfl) (.cons (.some rfl rfl fun _ => rfl) (.cons .none (.cons (.some rfl rfl fun _ => rfl) (.cons (.some rfl rfl fun _ => rfl) (.cons (.some rfl rfl fun _ => rfl) (.cons (.some rfl rfl fun _ => rfl) (.cons (.some rfl rfl fun _ => rfl) (.cons (.some rfl rfl fun _ => rfl) (.cons (.some rfl rfl fun _ => rfl) (.cons (.some rfl rfl fun _ => rfl) (.cons (.some rfl rfl fun _ => rfl) (.cons (.some rfl rfl fun _ => rfl) (.cons (.some rfl rfl fun _ => rfl) (.cons (.some rfl rfl fun _ => rfl) (.cons (.some rfl rfl fun _ => rfl) (.cons (.some rfl rfl fun _ => rfl) (.cons (.some rfl rfl fun _ => rfl) (.cons (.some rfl rfl fun _ => rfl) (.cons (.some rfl rfl fun _ => rfl) (.cons (.some rfl rfl fun _ => rfl) (.cons (.some rfl rfl fun _ => rfl) (.cons (.some rfl rfl fun _ => rfl) (.cons (.some rfl rfl fun _ => rfl) (.cons (.some rfl rfl fun _ => rfl) (.cons (.some rfl rfl fun _ => rfl) (.cons (.some rfl rfl fun _ => rfl) (.cons (.some rfl rfl fun _ => rfl) (.cons (.some rfl rfl fun _ => rfl) (.cons (.some rfl rfl fun _ => rfl) (.cons (.some rfl rfl fun _ => rfl) (.cons (.some rfl rfl fun _ => rfl) (.cons (.some rfl rfl fun _ => rfl) (.cons (.some rfl rfl fun _ => rfl) (.cons (.some rfl rfl fun _ => rfl) (.nil))))))))))))))))))))))))))))))))))))))))))))))))))
theorem to_c (k : Nat) : callF pr k = callFC cpr k := callFC_eq crels k
end LW
namespace LW
open PySem L2 Ev
/-! ### the drawn digits: hat, up -/
def Di (n N : Nat) (S : Store) : Prop := ∃ a b c : Int, S[n]? = some (.lst [.int a, .int b, .int c]) ∧ 0 ≤ a ∧ 0 ≤ c ∧ c ≤ N
theorem Di.lt {n N : Nat} {S : Store} (h : Di n N S) : n < S.length := by
  obtain ⟨a, b, c, h1, _⟩ := h
  exact (List.getElem?_eq_some_iff.mp h1).1
/-- all but the place n is as it was -/
def Fr (n : Nat) (S S' : Store) : Prop := S.length ≤ S'.length ∧ ∀ m, m < S.length → m ≠ n → S'[m]? = S[m]?
theorem Fr.refl (n : Nat) (S : Store) : Fr n S S := ⟨Nat.le_refl _, fun _ _ _ => rfl⟩
theorem Fr.trans {n : Nat} {S S' S'' : Store} (h : Fr n S S') (h' : Fr n S' S'') : Fr n S S'' :=
  ⟨Nat.le_trans h.1 h'.1, fun m hm hn => by rw [h'.2 m (Nat.lt_of_lt_of_le hm h.1) hn, h.2 m hm hn]⟩
theorem Fr.set {n : Nat} {S : Store} {c : Cell} : Fr n S (S.set n c) := ⟨by simp, fun m hm hn => by rw [List.getElem?_set_ne (Ne.symm hn)]⟩
theorem Fr.app {n : Nat} {S : Store} {c : List Cell} : Fr n S (S ++ c) := ⟨by simp, fun m hm hn => by rw [List.getElem?_append_left hm]⟩
theorem Di.mono {n N M : Nat} {S : Store} (h : Di n N S) (hm : N ≤ M) : Di n M S := by
  obtain ⟨a, b, c, h1, h2, h3, h4⟩ := h
  exact ⟨a, b, c, h1, h2, h3, by omega⟩
theorem Di.app {n N : Nat} {S : Store} {c : List Cell} (h : Di n N S) : Di n N (S ++ c) := by
  have hl := h.lt
  obtain ⟨a, b, d, h1, h2⟩ := h
  exact ⟨a, b, d, by rw [List.getElem?_append_left hl]; exact h1, h2⟩
theorem up_spec {C : Ev.Ctx} {S : Store} {n N : Nat} {t : Int} (h : Di n N S) (ht : 0 < t) (ht2 : t < 2 ^ 200) (hN : N < 2 ^ 100) :
    WP (runF C fd_law_wb_up [.ref n, .int t] S) fun d S' => ∃ r : Int, d = .int r ∧ 0 ≤ r ∧ r < t ∧ Fr n S S' ∧ Di n (N + 1) S' := by
  have hl := h.lt
  obtain ⟨a, b, c, hS, ha, hc0, hc⟩ := h
  have hg : ∀ x : Cell, (S.set n x)[n]? = some x := fun x => List.getElem?_set_self hl
  have i0 : doIx (.ref n) (.int 0) S = .ok (.int a) S := ixR (k := 0) hS rfl
  have i1 : ∀ x y z, doIx (.ref n) (.int 1) (S.set n (.lst [x, y, z])) = .ok y (S.set n (.lst [x, y, z])) := fun x y z => ixR (k := 1) (hg _) rfl
  have i2 : doIx (.ref n) (.int 2) S = .ok (.int c) S := ixR (k := 2) hS rfl
  have i3 : ∀ x y z, doIx (.ref n) (.int 2) (S.set n (.lst [x, y, z])) = .ok z (S.set n (.lst [x, y, z])) := fun x y z => ixR (k := 2) (hg _) rfl
  have s0 : ∀ d, setIx (.ref n) (.int 0) d S = .ok () (S.set n (.lst [d, .int b, .int c])) := fun d => setR (k := 0) hS (by simp)
  have s2 : ∀ d, setIx (.ref n) (.int 2) d S = .ok () (S.set n (.lst [.int a, .int b, d])) := fun d => setR (k := 2) hS (by simp)
  have hd : divOk t = true := divOk_of (a := 200) ht (by omega) (by decide)
  simp only [run_eq, ss_nil, ss_cons, s_nm, s_asg, s_par, par2, par3, s_aug, augD_add, augD_sub, s_augIx, augX_add, augX_sub, s_expr, s_ret, s_retN, s_pass, s_brk, s_cont, s_ite, s_for, s_while, seqF_nx, seqF_rt, seqF_bk, seqF_ct, fnD_rt, fnD_nx, g_nm, g_tp, g_ix, gs_nil, gs_cons, e_int, e_bl, e_non, e_str, e_var, getV_0, getV_s, e_gl, opt_some, e_bin, e_neg, negD_int, e_not, notD_bl, e_and, e_or, bE_app, bolD_bl, okM_app, e_cmp, e_chain, chE_app, e_ite, e_tup, e_lst, e_ix, e_rev, e_slA, e_slL, e_slH, e_slLH, sl1_L, sl1_H, sl2_LH, e_call, e_bi, e_mt, mtE_bits, mtE_app, mtE_ext, mtE_pop, e_pcall, sl2E_int, augE_ref, noX_ok, e_comp, es_nil, es_cons, ifD_bl, ifD_t, ifD_f, b_ok, b_assoc, fTurn_eq, turn_eq, inT_some, inC_some, soE_app, evT_nil, evT_one, t_nm, t_tp, ts_nil, ts_cons, mkL_f, mkL_t, o_add, o_sub, c_lt, c_le, c_gt, c_ge, c_eqI, c_neI, b_int, b_intB, b_abs, b_max2, b_min2, b_gcd, b_lenT, b_lenL, b_lenS, b_tupT, b_tupL, b_lstT, b_lstL, b_isiT, b_isiI, b_isiB, revT, revL, ixT0, ixT1, ixT2, ixL0, ixL1, isI, q_vlT, q_vlL, q_vlS, q_enT, q_enL, q_zpTT, q_zpTL, q_zpLT, q_zpLL, forD_some, List.set_cons_zero, List.set_cons_succ, List.map_cons, List.map_nil, List.length_cons, List.length_nil, List.cons_append, List.nil_append, List.replicate_succ, List.replicate_zero, Nat.reduceAdd, Nat.reduceSub, Nat.reduceEqDiff, if_true, Option.bind_some, wipeD, fd_law_wb_up, i0, s0, i2, s2]
  by_cases h0 : 0 < a
  · simp only [run_eq, ss_nil, ss_cons, s_nm, s_asg, s_par, par2, par3, s_aug, augD_add, augD_sub, s_augIx, augX_add, augX_sub, s_expr, s_ret, s_retN, s_pass, s_brk, s_cont, s_ite, s_for, s_while, seqF_nx, seqF_rt, seqF_bk, seqF_ct, fnD_rt, fnD_nx, g_nm, g_tp, g_ix, gs_nil, gs_cons, e_int, e_bl, e_non, e_str, e_var, getV_0, getV_s, e_gl, opt_some, e_bin, e_neg, negD_int, e_not, notD_bl, e_and, e_or, bE_app, bolD_bl, okM_app, e_cmp, e_chain, chE_app, e_ite, e_tup, e_lst, e_ix, e_rev, e_slA, e_slL, e_slH, e_slLH, sl1_L, sl1_H, sl2_LH, e_call, e_bi, e_mt, mtE_bits, mtE_app, mtE_ext, mtE_pop, e_pcall, sl2E_int, augE_ref, noX_ok, e_comp, es_nil, es_cons, ifD_bl, ifD_t, ifD_f, b_ok, b_assoc, fTurn_eq, turn_eq, inT_some, inC_some, soE_app, evT_nil, evT_one, t_nm, t_tp, ts_nil, ts_cons, mkL_f, mkL_t, o_add, o_sub, c_lt, c_le, c_gt, c_ge, c_eqI, c_neI, b_int, b_intB, b_abs, b_max2, b_min2, b_gcd, b_lenT, b_lenL, b_lenS, b_tupT, b_tupL, b_lstT, b_lstL, b_isiT, b_isiI, b_isiB, revT, revL, ixT0, ixT1, ixT2, ixL0, ixL1, isI, q_vlT, q_vlL, q_vlS, q_enT, q_enL, q_zpTT, q_zpTL, q_zpLT, q_zpLL, forD_some, List.set_cons_zero, List.set_cons_succ, List.map_cons, List.map_nil, List.length_cons, List.length_nil, List.cons_append, List.nil_append, List.replicate_succ, List.replicate_zero, Nat.reduceAdd, Nat.reduceSub, Nat.reduceEqDiff, if_true, Option.bind_some, wipeD, h0, decide_true, if_true, i0, s0, o_mod ht, o_fdiv hd ht]
    refine ⟨a % t, rfl, Int.emod_nonneg _ (by omega), Int.emod_lt_of_pos _ ht, Fr.set, a / t, b, c, hg _, Int.ediv_nonneg ha (by omega), hc0, by omega⟩
  · have m1 : big2 49979687 (c + 1) = true := big2_of (a := 40) (b := 101) (by decide) (by omega) (by decide)
    have m2 : ∀ x : Int, 0 ≤ x → x < 2305843009213693951 → big2 x x = true := fun x h1 h2 => big2_of (a := 70) (b := 70) (by omega) (by omega) (by decide)
    have m3 : ∀ x : Int, 0 ≤ x → x < 2305843009213693921 → big2 x 15487469 = true := fun x h1 h2 => big2_of (a := 70) (b := 40) (by omega) (by decide) (by decide)
    have p1 : (0 : Int) < 2305843009213693951 := by decide
    have p2 : (0 : Int) < 2305843009213693921 := by decide
    have hd3 : divOk 65563 = true := divOk_of (a := 20) (by decide) (by decide) (by decide)
    have m4 : big2 419 (c + 1) = true := big2_of (a := 40) (b := 101) (by decide) (by omega) (by decide)
    simp only [run_eq, ss_nil, ss_cons, s_nm, s_asg, s_par, par2, par3, s_aug, augD_add, augD_sub, s_augIx, augX_add, augX_sub, s_expr, s_ret, s_retN, s_pass, s_brk, s_cont, s_ite, s_for, s_while, seqF_nx, seqF_rt, seqF_bk, seqF_ct, fnD_rt, fnD_nx, g_nm, g_tp, g_ix, gs_nil, gs_cons, e_int, e_bl, e_non, e_str, e_var, getV_0, getV_s, e_gl, opt_some, e_bin, e_neg, negD_int, e_not, notD_bl, e_and, e_or, bE_app, bolD_bl, okM_app, e_cmp, e_chain, chE_app, e_ite, e_tup, e_lst, e_ix, e_rev, e_slA, e_slL, e_slH, e_slLH, sl1_L, sl1_H, sl2_LH, e_call, e_bi, e_mt, mtE_bits, mtE_app, mtE_ext, mtE_pop, e_pcall, sl2E_int, augE_ref, noX_ok, e_comp, es_nil, es_cons, ifD_bl, ifD_t, ifD_f, b_ok, b_assoc, fTurn_eq, turn_eq, inT_some, inC_some, soE_app, evT_nil, evT_one, t_nm, t_tp, ts_nil, ts_cons, mkL_f, mkL_t, o_add, o_sub, c_lt, c_le, c_gt, c_ge, c_eqI, c_neI, b_int, b_intB, b_abs, b_max2, b_min2, b_gcd, b_lenT, b_lenL, b_lenS, b_tupT, b_tupL, b_lstT, b_lstL, b_isiT, b_isiI, b_isiB, revT, revL, ixT0, ixT1, ixT2, ixL0, ixL1, isI, q_vlT, q_vlL, q_vlS, q_enT, q_enL, q_zpTT, q_zpTL, q_zpLT, q_zpLL, forD_some, List.set_cons_zero, List.set_cons_succ, List.map_cons, List.map_nil, List.length_cons, List.length_nil, List.cons_append, List.nil_append, List.replicate_succ, List.replicate_zero, Nat.reduceAdd, Nat.reduceSub, Nat.reduceEqDiff, if_true, Option.bind_some, wipeD, h0, decide_false, Bool.false_eq_true, if_false, i0, s0, i2, s2, i1, i3, o_mul m1, o_mod p1]
    have q1 : ∀ y : Int, 0 ≤ y % 2305843009213693951 ∧ y % 2305843009213693951 < 2305843009213693951 := fun y => ⟨Int.emod_nonneg _ (by decide), Int.emod_lt_of_pos _ p1⟩
    have q2 : ∀ y : Int, 0 ≤ y % 2305843009213693921 ∧ y % 2305843009213693921 < 2305843009213693921 := fun y => ⟨Int.emod_nonneg _ (by decide), Int.emod_lt_of_pos _ p2⟩
    have m5 : ∀ y : Int, big2 (y % 2305843009213693951) (y % 2305843009213693951) = true := fun y => m2 _ (q1 y).1 (q1 y).2
    have m6 : ∀ y : Int, big2 (y % 2305843009213693921) 15487469 = true := fun y => m3 _ (q2 y).1 (q2 y).2
    simp only [run_eq, ss_nil, ss_cons, s_nm, s_asg, s_par, par2, par3, s_aug, augD_add, augD_sub, s_augIx, augX_add, augX_sub, s_expr, s_ret, s_retN, s_pass, s_brk, s_cont, s_ite, s_for, s_while, seqF_nx, seqF_rt, seqF_bk, seqF_ct, fnD_rt, fnD_nx, g_nm, g_tp, g_ix, gs_nil, gs_cons, e_int, e_bl, e_non, e_str, e_var, getV_0, getV_s, e_gl, opt_some, e_bin, e_neg, negD_int, e_not, notD_bl, e_and, e_or, bE_app, bolD_bl, okM_app, e_cmp, e_chain, chE_app, e_ite, e_tup, e_lst, e_ix, e_rev, e_slA, e_slL, e_slH, e_slLH, sl1_L, sl1_H, sl2_LH, e_call, e_bi, e_mt, mtE_bits, mtE_app, mtE_ext, mtE_pop, e_pcall, sl2E_int, augE_ref, noX_ok, e_comp, es_nil, es_cons, ifD_bl, ifD_t, ifD_f, b_ok, b_assoc, fTurn_eq, turn_eq, inT_some, inC_some, soE_app, evT_nil, evT_one, t_nm, t_tp, ts_nil, ts_cons, mkL_f, mkL_t, o_add, o_sub, c_lt, c_le, c_gt, c_ge, c_eqI, c_neI, b_int, b_intB, b_abs, b_max2, b_min2, b_gcd, b_lenT, b_lenL, b_lenS, b_tupT, b_tupL, b_lstT, b_lstL, b_isiT, b_isiI, b_isiB, revT, revL, ixT0, ixT1, ixT2, ixL0, ixL1, isI, q_vlT, q_vlL, q_vlS, q_enT, q_enL, q_zpTT, q_zpTL, q_zpLT, q_zpLL, forD_some, List.set_cons_zero, List.set_cons_succ, List.map_cons, List.map_nil, List.length_cons, List.length_nil, List.cons_append, List.nil_append, List.replicate_succ, List.replicate_zero, Nat.reduceAdd, Nat.reduceSub, Nat.reduceEqDiff, if_true, Option.bind_some, wipeD, o_mul (m5 _), o_mod p2, o_mul (m6 _), i3, o_mul m4, o_fdiv hd3 (show (0 : Int) < 65563 by decide), o_mod ht]
    generalize (b + 49979687 * (c + 1)) % 2305843009213693951 = u
    generalize (u * u + 419 * (c + 1)) % 2305843009213693921 * 15487469 + u = w
    exact ⟨w / 65563 % t, rfl, Int.emod_nonneg _ (by omega), Int.emod_lt_of_pos _ ht, Fr.set, a, b, c + 1, hg _, ha, by omega, by omega⟩
theorem hat_mod (C : Ev.Ctx) (env : Ev.Env) (S : Store) : evE C lx_hat env S = .ok (.int ((10 : Int) ^ 330)) S := by kernel_rfl
theorem hat_spec {C : Ev.Ctx} {S : Store} {ns : List Int} {spot : Nat} {si : Int} (hs : si = (spot : Int)) (h3 : spot < 3) : WP (runF C fd_law_wb_hat [.scr (ns.map .int), .int si] S) fun d S' => d = .ref S.length ∧ Di S.length 0 S' := by
  have p16 : doOp .pow false (.int 10) (.int 16) = fun S => .ok (.int 10000000000000000) S := by
    funext S
    have := o_pow (m := false) (S := S) (i := 10) 16 16 (by decide +kernel)
    simpa using this
  have big : (0 : Int) < 10 ^ 330 := by decide +kernel
  have hmod : ∀ (env : Ev.Env) (S : Store), ∃ Z : Int, Z = 10 ^ 330 ∧ evE C lx_hat env S = .ok (.int Z) S := fun env S => ⟨_, rfl, hat_mod C env S⟩
  obtain ⟨Z, hZ⟩ : ∃ Z : Int, Z = 10 ^ 330 := ⟨_, rfl⟩
  have hmod : ∀ (env : Ev.Env) (S : Store), evE C lx_hat env S = .ok (.int Z) S := fun env S => by rw [hat_mod, hZ]
  rw [← hZ] at big
  have hln : doBi .len false [.scr (ns.map D.int)] S = .ok (.int (ns.length : Int)) S := by rw [b_lenS, List.length_map]
  have m1 : big2 911 si = true := big2_of (a := 20) (b := 20) (by decide) (by omega) (by decide)
  have m4 : big2 701 si = true := big2_of (a := 20) (b := 20) (by decide) (by omega) (by decide)
  have m5 : ∀ b : Bool, big2 37 (if b then 1 else 0) = true := fun b => by cases b <;> decide +kernel
  have p1 : (0 : Int) < 2147483323 := by decide
  have m3 : ∀ x : Int, big2 (x % 2147483323) 389 = true := fun x => by
    have h1 := Int.emod_nonneg x (show (2147483323 : Int) ≠ 0 by decide)
    have h2 := Int.emod_lt_of_pos x p1
    generalize x % 2147483323 = z at h1 h2
    exact big2_of (a := 70) (b := 20) (by omega) (by decide) (by decide)
  have fin : ∀ cell : Int, WP (evSs C [.asg (.nm 3) (.bin .mod false (.bi .int false [(.bi .abs false [(.var 2)])]) lx_hat), .ret (.lst true [(.bi .max2 false [(.int 0), (.bin .sub false (.var 3) (.bin .pow false (.int 10) (.int 16)))]), (.bin .add false (.bin .add false (.bin .add false (.bin .mul false (.bin .mod false (.bi .int false [(.var 3)]) (.int 2147483323)) (.int 389)) (.bin .mul false (.int 701) (.var 1))) (.bin .mul false (.int 37) (.bi .int false [(.cmp .lt (.var 2) (.int 0))]))) (.int 17)), (.int 0)])] [some (.scr (ns.map .int)), some (.int si), some (.int cell), none] S)
      fun f S' => f = .rt (.ref S.length) ∧ Di S.length 0 S' := fun cell => by
    simp only [run_eq, ss_nil, ss_cons, s_nm, s_asg, s_par, par2, par3, s_aug, augD_add, augD_sub, s_augIx, augX_add, augX_sub, s_expr, s_ret, s_retN, s_pass, s_brk, s_cont, s_ite, s_for, s_while, seqF_nx, seqF_rt, seqF_bk, seqF_ct, fnD_rt, fnD_nx, g_nm, g_tp, g_ix, gs_nil, gs_cons, e_int, e_bl, e_non, e_str, e_var, getV_0, getV_s, e_gl, opt_some, e_bin, e_neg, negD_int, e_not, notD_bl, e_and, e_or, bE_app, bolD_bl, okM_app, e_cmp, e_chain, chE_app, e_ite, e_tup, e_lst, e_ix, e_rev, e_slA, e_slL, e_slH, e_slLH, sl1_L, sl1_H, sl2_LH, e_call, e_bi, e_mt, mtE_bits, mtE_app, mtE_ext, mtE_pop, e_pcall, sl2E_int, augE_ref, noX_ok, e_comp, es_nil, es_cons, ifD_bl, ifD_t, ifD_f, b_ok, b_assoc, fTurn_eq, turn_eq, inT_some, inC_some, soE_app, evT_nil, evT_one, t_nm, t_tp, ts_nil, ts_cons, mkL_f, mkL_t, o_add, o_sub, c_lt, c_le, c_gt, c_ge, c_eqI, c_neI, b_int, b_intB, b_abs, b_max2, b_min2, b_gcd, b_lenT, b_lenL, b_lenS, b_tupT, b_tupL, b_lstT, b_lstL, b_isiT, b_isiI, b_isiB, revT, revL, ixT0, ixT1, ixT2, ixL0, ixL1, isI, q_vlT, q_vlL, q_vlS, q_enT, q_enL, q_zpTT, q_zpTL, q_zpLT, q_zpLL, forD_some, List.set_cons_zero, List.set_cons_succ, List.map_cons, List.map_nil, List.length_cons, List.length_nil, List.cons_append, List.nil_append, List.replicate_succ, List.replicate_zero, Nat.reduceAdd, Nat.reduceSub, Nat.reduceEqDiff, if_true, Option.bind_some, wipeD, hmod, p16, o_mod big, o_mod p1, o_mul (m3 _), o_mul m4, o_mul (m5 _), WP_ok]
    refine ⟨trivial, _, _, _, get_new, ?_, by omega, by omega⟩
    split <;> omega
  simp only [run_eq, ss_nil, ss_cons, s_nm, s_asg, s_par, par2, par3, s_aug, augD_add, augD_sub, s_augIx, augX_add, augX_sub, s_expr, s_ret, s_retN, s_pass, s_brk, s_cont, s_ite, s_for, s_while, seqF_nx, seqF_rt, seqF_bk, seqF_ct, fnD_rt, fnD_nx, g_nm, g_tp, g_ix, gs_nil, gs_cons, e_int, e_bl, e_non, e_str, e_var, getV_0, getV_s, e_gl, opt_some, e_bin, e_neg, negD_int, e_not, notD_bl, e_and, e_or, bE_app, bolD_bl, okM_app, e_cmp, e_chain, chE_app, e_ite, e_tup, e_lst, e_ix, e_rev, e_slA, e_slL, e_slH, e_slLH, sl1_L, sl1_H, sl2_LH, e_call, e_bi, e_mt, mtE_bits, mtE_app, mtE_ext, mtE_pop, e_pcall, sl2E_int, augE_ref, noX_ok, e_comp, es_nil, es_cons, ifD_bl, ifD_t, ifD_f, b_ok, b_assoc, fTurn_eq, turn_eq, inT_some, inC_some, soE_app, evT_nil, evT_one, t_nm, t_tp, ts_nil, ts_cons, mkL_f, mkL_t, o_add, o_sub, c_lt, c_le, c_gt, c_ge, c_eqI, c_neI, b_int, b_intB, b_abs, b_max2, b_min2, b_gcd, b_lenT, b_lenL, b_lenS, b_tupT, b_tupL, b_lstT, b_lstL, b_isiT, b_isiI, b_isiB, revT, revL, ixT0, ixT1, ixT2, ixL0, ixL1, isI, q_vlT, q_vlL, q_vlS, q_enT, q_enL, q_zpTT, q_zpTL, q_zpLT, q_zpLL, forD_some, List.set_cons_zero, List.set_cons_succ, List.map_cons, List.map_nil, List.length_cons, List.length_nil, List.cons_append, List.nil_append, List.replicate_succ, List.replicate_zero, Nat.reduceAdd, Nat.reduceSub, Nat.reduceEqDiff, if_true, Option.bind_some, wipeD, fd_law_wb_hat, hln]
  by_cases h : si < (ns.length : Int)
  · have hl : spot < ns.length := by omega
    have hix : doIx (.scr (ns.map D.int)) (.int si) S = .ok (.int ns[spot]) S := by rw [hs]; exact ixS (by rw [List.getElem?_map, List.getElem?_eq_getElem hl]; rfl)
    simp only [g_nm, ifD_bl, h, decide_true, if_true, e_bi, es_cons, es_nil, e_ix, e_var, getV_0, getV_s, b_ok, b_assoc, hix, b_int, seqF_nx, List.set_cons_zero, List.set_cons_succ]
    refine WP_call (fin _) ?_
    rintro f S' ⟨rfl, hd⟩
    simp only [fnD_rt, WP_ok]
    exact ⟨trivial, hd⟩
  · simp only [g_nm, ifD_bl, h, decide_false, Bool.false_eq_true, if_false, e_bin, e_int, e_var, getV_0, getV_s, b_ok, b_assoc, o_mul m1, o_add, seqF_nx, List.set_cons_zero, List.set_cons_succ]
    refine WP_call (fin _) ?_
    rintro f S' ⟨rfl, hd⟩
    simp only [fnD_rt, WP_ok]
    exact ⟨trivial, hd⟩
end LW
namespace LW
open PySem L2 Ev
/-! ### runs without a store, loops as folds -/
def tI (l : List Int) : D := .tup (l.map D.int)
theorem noRefs_int : ∀ l : List Int, noRefs (l.map D.int) = true
  | [] => rfl
  | x :: xs => by show (true && noRefs (xs.map D.int)) = true; rw [noRefs_int xs]; rfl
theorem noRef_tI (l : List Int) : noRef (tI l) = true := noRefs_int l
theorem pure_wp {cl : List D → M D} {ds : List D} {d : D} {S : Store} (n : noRefs ds = true) (nd : noRef d = true) (h : WP (cl ds []) fun r _ => r = d) : pureC cl ds S = .ok d S := by
  obtain ⟨a, S', e, rfl⟩ := h.get
  unfold pureC
  rw [if_pos n, e]
  show (match frc a (fun d => Rs.ok d []) .no with | .ok d _ => Rs.ok d S | .exc c d _ => .exc c d S | .no => cl ds S) = _
  rw [frc_eq, if_pos nd]
theorem pure_ok {cl : List D → M D} {ds : List D} {d : D} {S S' : Store} (n : noRefs ds = true) (nd : noRef d = true) (h : cl ds [] = .ok d S') : pureC cl ds S = .ok d S := pure_wp n nd (by rw [h]; exact rfl)
theorem comp_opt {α : Type} {f : D → M (Option D)} {S : Store} {h : α → D} (g : α → Option D) : ∀ {l : List α} {acc : List D}, (∀ x, x ∈ l → f (h x) S = .ok (g x) S) → compL [] f (l.map h) acc S = .ok (acc ++ l.filterMap g) S
  | [], acc, _ => by simp [compL, dep_nil]
  | x :: l, acc, hl => by
    simp only [List.map_cons, compL, dep_nil, if_true, hl x List.mem_cons_self]
    cases e : g x with
    | none =>
      simp only [e, List.filterMap_cons]
      exact comp_opt g fun y hy => hl y (List.mem_cons_of_mem _ hy)
    | some d =>
      simp only [e, List.filterMap_cons]
      rw [comp_opt g fun y hy => hl y (List.mem_cons_of_mem _ hy)]
      simp
theorem comp_map {α : Type} {f : D → M (Option D)} {S : Store} {h : α → D} (g : α → D) {l : List α} (hl : ∀ x, x ∈ l → f (h x) S = .ok (some (g x)) S) : compL [] f (l.map h) [] S = .ok (l.map g) S := by
  rw [comp_opt (fun x => some (g x)) hl]; simp
theorem for_fold {α β : Type} {f : D → EM Fl} {h : α → D} {step : β → α → β} (J : β → Ev.Env → Store → Prop) : ∀ {l : List α} {b : β} {e : Ev.Env} {S : Store},
    (∀ b x e S, x ∈ l → J b e S → ∃ e' S', f (h x) e S = .ok (.nx e') S' ∧ J (step b x) e' S') → J b e S → ∃ e' S', forL [] f (l.map h) e S = .ok (.nx e') S' ∧ J (l.foldl step b) e' S'
  | [], b, e, S, _, hb => ⟨e, S, by simp [forL, dep_nil], hb⟩
  | x :: l, b, e, S, hs, hb => by
    obtain ⟨e1, S1, q1, j1⟩ := hs b x e S List.mem_cons_self hb
    obtain ⟨e2, S2, q2, j2⟩ := for_fold (l := l) J (fun b y e S hy => hs b y e S (List.mem_cons_of_mem _ hy)) j1
    refine ⟨e2, S2, ?_, j2⟩
    simp only [List.map_cons, forL, dep_nil, if_true, q1]
    exact q2
theorem enum_map : ∀ (l : List Int) (n : Nat), enumD (l.map D.int) n = (l.zipIdx n).map fun p => D.tup [.int (p.2 : Int), .int p.1]
  | [], n => by unfold enumD; rfl
  | x :: l, n => by
    simp only [List.map_cons, List.zipIdx_cons]
    unfold enumD
    dsimp only
    rw [natK_eq, enum_map l (n + 1)]
theorem zip_map : ∀ (l t : List Int), zipD (l.map D.int) (t.map D.int) = (l.zip t).map fun p => D.tup [.int p.1, .int p.2]
  | [], t => by unfold zipD; simp
  | x :: l, [] => by unfold zipD; simp
  | x :: l, y :: t => by
    simp only [List.map_cons, List.zip_cons_cons]
    conv => lhs; unfold zipD
    rw [zip_map l t]
theorem eqvs_int : ∀ a b : List Int, eqvs (a.map D.int) (b.map D.int) = decide (a = b)
  | [], [] => by simp [eqvs]
  | [], y :: b => by simp [eqvs]
  | x :: a, [] => by simp [eqvs]
  | x :: a, y :: b => by
    simp only [List.map_cons, eqvs, eqv_int, eqvs_int a b, List.cons.injEq, Bool.decide_and]
theorem shals_int : ∀ (n : Nat) (a : List Int), shal.shals n (a.map D.int) = true
  | n, [] => rfl
  | n, x :: a => by
    show (shal n (.int x) && shal.shals n (a.map D.int)) = true
    rw [shals_int n a]
    cases n <;> rfl
theorem shal_tI (a : List Int) : shal 40 (tI a) = true := shals_int 39 a
theorem c_eqT {a b : List Int} {S : Store} : doCmp .eq (tI a) (tI b) S = .ok (.bl (decide (a = b))) S := by
  have h1 := shal_tI a
  have h2 := shal_tI b
  have t : ∀ l : List Int, top S (tI l) = tI l := fun l => rfl
  have q : eqv (tI a) (tI b) = decide (a = b) := by show eqvs _ _ = _; exact eqvs_int a b
  simp [doCmp, cmp2, t, h1, h2, q]
theorem lenI {S : Store} {l : List Int} {m : Bool} : doBi .len m [tI l] S = .ok (.int (l.length : Int)) S := by unfold tI; rw [b_lenT, List.length_map]
theorem lim_ge : 100000 ≤ LIM := by decide
theorem eq_of_WP {α : Type} {r : Rs α} {x : α} {S : Store} (h : WP r fun a S' => a = x ∧ S' = S) : r = .ok x S := by
  obtain ⟨a, S', e, rfl, rfl⟩ := h.get
  exact e
theorem all_true {α : Type} {S : Store} {m : Bool} {l : List α} : doBi .all m [.lst (l.map fun _ => D.bl true)] S = .ok (.bl true) S := by
  have e : (l.map fun _ => D.bl true) = (l.map fun _ => true).map D.bl := by rw [List.map_map]; rfl
  rw [e, b_allL]
  have : (l.map fun _ => true).all id = true := by simp
  rw [this]
/-! ### fractions -/
def fq (z b : Int) : Rat := (z : Rat) / (b : Rat)
def frD (q : Rat) : D := .tup [.int q.num, .int q.den]
theorem num_eq (t b : Int) (h : 0 < b) : (fq t b).num = t / (Int.gcd t b : Int) := by
  unfold fq
  rw [← Rat.divInt_eq_div, Rat.num_divInt, Int.sign_eq_one_of_pos h, Int.one_mul, Int.gcd_comm]
theorem den_eq (t b : Int) (h : 0 < b) : ((fq t b).den : Int) = b / (Int.gcd t b : Int) := by
  unfold fq
  rw [← Rat.divInt_eq_div, Rat.den_divInt, if_neg (by omega), Int.gcd_comm]
  have : (b.natAbs : Int) = b := by omega
  rw [Int.natCast_ediv, this]
theorem frD_mk (t b : Int) (h : 0 < b) : D.tup [.int (t / (Int.gcd t b : Int)), .int (b / (Int.gcd t b : Int))] = frD (fq t b) := by
  unfold frD
  rw [num_eq t b h, den_eq t b h]
theorem noRef_fr (q : Rat) : noRef (frD q) = true := rfl
theorem gcd_step (x y : Int) (hy : 0 < y) (hx : 0 ≤ x) : Int.gcd y (x % y) = Int.gcd x y := by
  obtain ⟨m, rfl⟩ := Int.eq_ofNat_of_zero_le hx
  obtain ⟨n, rfl⟩ := Int.eq_ofNat_of_zero_le (Int.le_of_lt hy)
  simp only [Int.gcd, ← Int.natCast_emod, Int.natAbs_natCast]
  rw [Nat.gcd_comm m n, Nat.gcd_comm n (m % n), ← Nat.gcd_rec]
theorem shared_spec {C : Ev.Ctx} {S : Store} {x y : Int} : runF C fd_law_wb_shared [.int x, .int y] S = .ok (.int (Int.gcd x y : Int)) S := by
  simp only [run_eq, ss_nil, ss_cons, s_nm, s_asg, s_par, par2, par3, s_aug, augD_add, augD_sub, s_augIx, augX_add, augX_sub, s_expr, s_ret, s_retN, s_pass, s_brk, s_cont, s_ite, s_for, s_while, seqF_nx, seqF_rt, seqF_bk, seqF_ct, fnD_rt, fnD_nx, g_nm, g_tp, g_ix, gs_nil, gs_cons, e_int, e_bl, e_non, e_str, e_var, getV_0, getV_s, e_gl, opt_some, e_bin, e_neg, negD_int, e_not, notD_bl, e_and, e_or, bE_app, bolD_bl, okM_app, e_cmp, e_chain, chE_app, e_ite, e_tup, e_lst, e_ix, e_rev, e_slA, e_slL, e_slH, e_slLH, sl1_L, sl1_H, sl2_LH, e_call, e_bi, e_mt, mtE_bits, mtE_app, mtE_ext, mtE_pop, e_pcall, sl2E_int, augE_ref, noX_ok, e_comp, es_nil, es_cons, ifD_bl, ifD_t, ifD_f, b_ok, b_assoc, fTurn_eq, turn_eq, inT_some, inC_some, soE_app, evT_nil, evT_one, t_nm, t_tp, ts_nil, ts_cons, mkL_f, mkL_t, o_add, o_sub, c_lt, c_le, c_gt, c_ge, c_eqI, c_neI, b_int, b_intB, b_abs, b_max2, b_min2, b_gcd, b_lenT, b_lenL, b_lenS, b_tupT, b_tupL, b_lstT, b_lstL, b_isiT, b_isiI, b_isiB, revT, revL, ixT0, ixT1, ixT2, ixL0, ixL1, isI, q_vlT, q_vlL, q_vlS, q_enT, q_enL, q_zpTT, q_zpTL, q_zpLT, q_zpLL, forD_some, List.set_cons_zero, List.set_cons_succ, List.map_cons, List.map_nil, List.length_cons, List.length_nil, List.cons_append, List.nil_append, List.replicate_succ, List.replicate_zero, Nat.reduceAdd, Nat.reduceSub, Nat.reduceEqDiff, if_true, Option.bind_some, wipeD, fd_law_wb_shared]
  have abs0 : ∀ z : Int, (if z < 0 then -z else z) = (z.natAbs : Int) := fun z => by split <;> omega
  rw [abs0, abs0]
  have fuel : y.natAbs < envFuel [some (D.int (x.natAbs : Int)), some (D.int (y.natAbs : Int))] := by
    simp only [envFuel]; omega
  have w := while_inv (S := S) (c := evE C (.cmp .ne (.var 1) (.int 0))) (f := evSs C [.par [0, 1] [(.var 1), (.bin .mod false (.var 0) (.var 1))]])
    (P := fun f S' => f = .nx [some (.int (Int.gcd x y : Int)), some (.int 0)] ∧ S' = S)
    (fun k env S' => ∃ a b : Int, env = [some (.int a), some (.int b)] ∧ 0 ≤ a ∧ 0 ≤ b ∧ Int.gcd a b = Int.gcd x y ∧ b.natAbs = k ∧ S' = S) y.natAbs
    ⟨(x.natAbs : Int), (y.natAbs : Int), rfl, by omega, by omega, by simp [Int.gcd], by simp, rfl⟩ fuel fun k env S' h => by
      obtain ⟨a, b, rfl, ha, hb, hg, hk, rfl⟩ := h
      simp only [run_eq, ss_nil, ss_cons, s_nm, s_asg, s_par, par2, par3, s_aug, augD_add, augD_sub, s_augIx, augX_add, augX_sub, s_expr, s_ret, s_retN, s_pass, s_brk, s_cont, s_ite, s_for, s_while, seqF_nx, seqF_rt, seqF_bk, seqF_ct, fnD_rt, fnD_nx, g_nm, g_tp, g_ix, gs_nil, gs_cons, e_int, e_bl, e_non, e_str, e_var, getV_0, getV_s, e_gl, opt_some, e_bin, e_neg, negD_int, e_not, notD_bl, e_and, e_or, bE_app, bolD_bl, okM_app, e_cmp, e_chain, chE_app, e_ite, e_tup, e_lst, e_ix, e_rev, e_slA, e_slL, e_slH, e_slLH, sl1_L, sl1_H, sl2_LH, e_call, e_bi, e_mt, mtE_bits, mtE_app, mtE_ext, mtE_pop, e_pcall, sl2E_int, augE_ref, noX_ok, e_comp, es_nil, es_cons, ifD_bl, ifD_t, ifD_f, b_ok, b_assoc, fTurn_eq, turn_eq, inT_some, inC_some, soE_app, evT_nil, evT_one, t_nm, t_tp, ts_nil, ts_cons, mkL_f, mkL_t, o_add, o_sub, c_lt, c_le, c_gt, c_ge, c_eqI, c_neI, b_int, b_intB, b_abs, b_max2, b_min2, b_gcd, b_lenT, b_lenL, b_lenS, b_tupT, b_tupL, b_lstT, b_lstL, b_isiT, b_isiI, b_isiB, revT, revL, ixT0, ixT1, ixT2, ixL0, ixL1, isI, q_vlT, q_vlL, q_vlS, q_enT, q_enL, q_zpTT, q_zpTL, q_zpLT, q_zpLL, forD_some, List.set_cons_zero, List.set_cons_succ, List.map_cons, List.map_nil, List.length_cons, List.length_nil, List.cons_append, List.nil_append, List.replicate_succ, List.replicate_zero, Nat.reduceAdd, Nat.reduceSub, Nat.reduceEqDiff, if_true, Option.bind_some, wipeD, WP_ok]
      by_cases h0 : 0 < b
      · refine .inl ⟨by simp; omega, ?_⟩
        simp only [run_eq, ss_nil, ss_cons, s_nm, s_asg, s_par, par2, par3, s_aug, augD_add, augD_sub, s_augIx, augX_add, augX_sub, s_expr, s_ret, s_retN, s_pass, s_brk, s_cont, s_ite, s_for, s_while, seqF_nx, seqF_rt, seqF_bk, seqF_ct, fnD_rt, fnD_nx, g_nm, g_tp, g_ix, gs_nil, gs_cons, e_int, e_bl, e_non, e_str, e_var, getV_0, getV_s, e_gl, opt_some, e_bin, e_neg, negD_int, e_not, notD_bl, e_and, e_or, bE_app, bolD_bl, okM_app, e_cmp, e_chain, chE_app, e_ite, e_tup, e_lst, e_ix, e_rev, e_slA, e_slL, e_slH, e_slLH, sl1_L, sl1_H, sl2_LH, e_call, e_bi, e_mt, mtE_bits, mtE_app, mtE_ext, mtE_pop, e_pcall, sl2E_int, augE_ref, noX_ok, e_comp, es_nil, es_cons, ifD_bl, ifD_t, ifD_f, b_ok, b_assoc, fTurn_eq, turn_eq, inT_some, inC_some, soE_app, evT_nil, evT_one, t_nm, t_tp, ts_nil, ts_cons, mkL_f, mkL_t, o_add, o_sub, c_lt, c_le, c_gt, c_ge, c_eqI, c_neI, b_int, b_intB, b_abs, b_max2, b_min2, b_gcd, b_lenT, b_lenL, b_lenS, b_tupT, b_tupL, b_lstT, b_lstL, b_isiT, b_isiI, b_isiB, revT, revL, ixT0, ixT1, ixT2, ixL0, ixL1, isI, q_vlT, q_vlL, q_vlS, q_enT, q_enL, q_zpTT, q_zpTL, q_zpLT, q_zpLL, forD_some, List.set_cons_zero, List.set_cons_succ, List.map_cons, List.map_nil, List.length_cons, List.length_nil, List.cons_append, List.nil_append, List.replicate_succ, List.replicate_zero, Nat.reduceAdd, Nat.reduceSub, Nat.reduceEqDiff, if_true, Option.bind_some, wipeD, o_mod h0, WP_ok]
        have h1 := Int.emod_nonneg a (show b ≠ 0 by omega)
        have h2 := Int.emod_lt_of_pos a h0
        exact ⟨(a % b).natAbs, by omega, b, a % b, rfl, hb, h1, by rw [gcd_step a b h0 ha]; exact hg, by simp⟩
      · have hb0 : b = 0 := by omega
        subst hb0
        refine .inr ⟨by simp, ?_⟩
        have : (Int.gcd x y : Int) = a := by rw [← hg]; simp [Int.gcd]; omega
        rw [this]
        simp
  obtain ⟨f, S', e, rfl, rfl⟩ := w.get
  rw [e]
  simp only [run_eq, ss_nil, ss_cons, s_nm, s_asg, s_par, par2, par3, s_aug, augD_add, augD_sub, s_augIx, augX_add, augX_sub, s_expr, s_ret, s_retN, s_pass, s_brk, s_cont, s_ite, s_for, s_while, seqF_nx, seqF_rt, seqF_bk, seqF_ct, fnD_rt, fnD_nx, g_nm, g_tp, g_ix, gs_nil, gs_cons, e_int, e_bl, e_non, e_str, e_var, getV_0, getV_s, e_gl, opt_some, e_bin, e_neg, negD_int, e_not, notD_bl, e_and, e_or, bE_app, bolD_bl, okM_app, e_cmp, e_chain, chE_app, e_ite, e_tup, e_lst, e_ix, e_rev, e_slA, e_slL, e_slH, e_slLH, sl1_L, sl1_H, sl2_LH, e_call, e_bi, e_mt, mtE_bits, mtE_app, mtE_ext, mtE_pop, e_pcall, sl2E_int, augE_ref, noX_ok, e_comp, es_nil, es_cons, ifD_bl, ifD_t, ifD_f, b_ok, b_assoc, fTurn_eq, turn_eq, inT_some, inC_some, soE_app, evT_nil, evT_one, t_nm, t_tp, ts_nil, ts_cons, mkL_f, mkL_t, o_add, o_sub, c_lt, c_le, c_gt, c_ge, c_eqI, c_neI, b_int, b_intB, b_abs, b_max2, b_min2, b_gcd, b_lenT, b_lenL, b_lenS, b_tupT, b_tupL, b_lstT, b_lstL, b_isiT, b_isiI, b_isiB, revT, revL, ixT0, ixT1, ixT2, ixL0, ixL1, isI, q_vlT, q_vlL, q_vlS, q_enT, q_enL, q_zpTT, q_zpTL, q_zpLT, q_zpLL, forD_some, List.set_cons_zero, List.set_cons_succ, List.map_cons, List.map_nil, List.length_cons, List.length_nil, List.cons_append, List.nil_append, List.replicate_succ, List.replicate_zero, Nat.reduceAdd, Nat.reduceSub, Nat.reduceEqDiff, if_true, Option.bind_some, wipeD]
theorem gcd_pos (t b : Int) (h : 0 < b) : (0 : Int) < (Int.gcd t b : Int) := by
  have := Int.gcd_pos_of_ne_zero_right t (show b ≠ 0 by omega)
  omega
theorem gcd_le (t b : Int) (h : 0 < b) : (Int.gcd t b : Int) ≤ b := Int.le_of_dvd h (Int.gcd_dvd_right t b)
/-- what tells fractions in lowest terms -/
def FrOk (f : List D → M D) : Prop := ∀ (S : Store) (t b : Int), 0 < b → b < 2 ^ 8000 → f [.int t, .int b] S = .ok (frD (fq t b)) S
/-- what tells shared divisors -/
def ShOk (f : List D → M D) : Prop := ∀ (S : Store) (x y : Int), f [.int x, .int y] S = .ok (.int (Int.gcd x y : Int)) S
theorem frac_spec {C : Ev.Ctx} {S : Store} {t b : Int} (hc : ShOk (pureC (C.cl 35))) (hb : 0 < b) (hb2 : b < 2 ^ 8000) : runF C fd_law_wb_frac [.int t, .int b] S = .ok (frD (fq t b)) S := by
  have hg := gcd_pos t b hb
  have hl := gcd_le t b hb
  rw [← frD_mk t b hb]
  simp only [run_eq, ss_nil, ss_cons, s_nm, s_asg, s_par, par2, par3, s_aug, augD_add, augD_sub, s_augIx, augX_add, augX_sub, s_expr, s_ret, s_retN, s_pass, s_brk, s_cont, s_ite, s_for, s_while, seqF_nx, seqF_rt, seqF_bk, seqF_ct, fnD_rt, fnD_nx, g_nm, g_tp, g_ix, gs_nil, gs_cons, e_int, e_bl, e_non, e_str, e_var, getV_0, getV_s, e_gl, opt_some, e_bin, e_neg, negD_int, e_not, notD_bl, e_and, e_or, bE_app, bolD_bl, okM_app, e_cmp, e_chain, chE_app, e_ite, e_tup, e_lst, e_ix, e_rev, e_slA, e_slL, e_slH, e_slLH, sl1_L, sl1_H, sl2_LH, e_call, e_bi, e_mt, mtE_bits, mtE_app, mtE_ext, mtE_pop, e_pcall, sl2E_int, augE_ref, noX_ok, e_comp, es_nil, es_cons, ifD_bl, ifD_t, ifD_f, b_ok, b_assoc, fTurn_eq, turn_eq, inT_some, inC_some, soE_app, evT_nil, evT_one, t_nm, t_tp, ts_nil, ts_cons, mkL_f, mkL_t, o_add, o_sub, c_lt, c_le, c_gt, c_ge, c_eqI, c_neI, b_int, b_intB, b_abs, b_max2, b_min2, b_gcd, b_lenT, b_lenL, b_lenS, b_tupT, b_tupL, b_lstT, b_lstL, b_isiT, b_isiI, b_isiB, revT, revL, ixT0, ixT1, ixT2, ixL0, ixL1, isI, q_vlT, q_vlL, q_vlS, q_enT, q_enL, q_zpTT, q_zpTL, q_zpLT, q_zpLL, forD_some, List.set_cons_zero, List.set_cons_succ, List.map_cons, List.map_nil, List.length_cons, List.length_nil, List.cons_append, List.nil_append, List.replicate_succ, List.replicate_zero, Nat.reduceAdd, Nat.reduceSub, Nat.reduceEqDiff, if_true, Option.bind_some, wipeD, fd_law_wb_frac, hc S]
  generalize (Int.gcd t b : Int) = g at hg hl
  have hd : divOk g = true := divOk_of (a := 8000) hg (by omega) (by decide)
  simp only [run_eq, ss_nil, ss_cons, s_nm, s_asg, s_par, par2, par3, s_aug, augD_add, augD_sub, s_augIx, augX_add, augX_sub, s_expr, s_ret, s_retN, s_pass, s_brk, s_cont, s_ite, s_for, s_while, seqF_nx, seqF_rt, seqF_bk, seqF_ct, fnD_rt, fnD_nx, g_nm, g_tp, g_ix, gs_nil, gs_cons, e_int, e_bl, e_non, e_str, e_var, getV_0, getV_s, e_gl, opt_some, e_bin, e_neg, negD_int, e_not, notD_bl, e_and, e_or, bE_app, bolD_bl, okM_app, e_cmp, e_chain, chE_app, e_ite, e_tup, e_lst, e_ix, e_rev, e_slA, e_slL, e_slH, e_slLH, sl1_L, sl1_H, sl2_LH, e_call, e_bi, e_mt, mtE_bits, mtE_app, mtE_ext, mtE_pop, e_pcall, sl2E_int, augE_ref, noX_ok, e_comp, es_nil, es_cons, ifD_bl, ifD_t, ifD_f, b_ok, b_assoc, fTurn_eq, turn_eq, inT_some, inC_some, soE_app, evT_nil, evT_one, t_nm, t_tp, ts_nil, ts_cons, mkL_f, mkL_t, o_add, o_sub, c_lt, c_le, c_gt, c_ge, c_eqI, c_neI, b_int, b_intB, b_abs, b_max2, b_min2, b_gcd, b_lenT, b_lenL, b_lenS, b_tupT, b_tupL, b_lstT, b_lstL, b_isiT, b_isiI, b_isiB, revT, revL, ixT0, ixT1, ixT2, ixL0, ixL1, isI, q_vlT, q_vlL, q_vlS, q_enT, q_enL, q_zpTT, q_zpTL, q_zpLT, q_zpLL, forD_some, List.set_cons_zero, List.set_cons_succ, List.map_cons, List.map_nil, List.length_cons, List.length_nil, List.cons_append, List.nil_append, List.replicate_succ, List.replicate_zero, Nat.reduceAdd, Nat.reduceSub, Nat.reduceEqDiff, if_true, Option.bind_some, wipeD, o_fdiv hd hg]
theorem fracin_spec {C : Ev.Ctx} {S : Store} {t b : Int} (hb : 0 < b) (hb2 : b < 2 ^ 8000) : runF C fd_fraction_in [.int t, .int b] S = .ok (frD (fq t b)) S := by
  have hg := gcd_pos t b hb
  have hl := gcd_le t b hb
  rw [← frD_mk t b hb]
  have e : (Nat.gcd t.natAbs b.natAbs : Int) = (Int.gcd t b : Int) := rfl
  simp only [run_eq, ss_nil, ss_cons, s_nm, s_asg, s_par, par2, par3, s_aug, augD_add, augD_sub, s_augIx, augX_add, augX_sub, s_expr, s_ret, s_retN, s_pass, s_brk, s_cont, s_ite, s_for, s_while, seqF_nx, seqF_rt, seqF_bk, seqF_ct, fnD_rt, fnD_nx, g_nm, g_tp, g_ix, gs_nil, gs_cons, e_int, e_bl, e_non, e_str, e_var, getV_0, getV_s, e_gl, opt_some, e_bin, e_neg, negD_int, e_not, notD_bl, e_and, e_or, bE_app, bolD_bl, okM_app, e_cmp, e_chain, chE_app, e_ite, e_tup, e_lst, e_ix, e_rev, e_slA, e_slL, e_slH, e_slLH, sl1_L, sl1_H, sl2_LH, e_call, e_bi, e_mt, mtE_bits, mtE_app, mtE_ext, mtE_pop, e_pcall, sl2E_int, augE_ref, noX_ok, e_comp, es_nil, es_cons, ifD_bl, ifD_t, ifD_f, b_ok, b_assoc, fTurn_eq, turn_eq, inT_some, inC_some, soE_app, evT_nil, evT_one, t_nm, t_tp, ts_nil, ts_cons, mkL_f, mkL_t, o_add, o_sub, c_lt, c_le, c_gt, c_ge, c_eqI, c_neI, b_int, b_intB, b_abs, b_max2, b_min2, b_gcd, b_lenT, b_lenL, b_lenS, b_tupT, b_tupL, b_lstT, b_lstL, b_isiT, b_isiI, b_isiB, revT, revL, ixT0, ixT1, ixT2, ixL0, ixL1, isI, q_vlT, q_vlL, q_vlS, q_enT, q_enL, q_zpTT, q_zpTL, q_zpLT, q_zpLL, forD_some, List.set_cons_zero, List.set_cons_succ, List.map_cons, List.map_nil, List.length_cons, List.length_nil, List.cons_append, List.nil_append, List.replicate_succ, List.replicate_zero, Nat.reduceAdd, Nat.reduceSub, Nat.reduceEqDiff, if_true, Option.bind_some, wipeD, fd_fraction_in, hb, decide_true, e]
  generalize (Int.gcd t b : Int) = g at hg hl
  have hd : divOk g = true := divOk_of (a := 8000) hg (by omega) (by decide)
  simp only [run_eq, ss_nil, ss_cons, s_nm, s_asg, s_par, par2, par3, s_aug, augD_add, augD_sub, s_augIx, augX_add, augX_sub, s_expr, s_ret, s_retN, s_pass, s_brk, s_cont, s_ite, s_for, s_while, seqF_nx, seqF_rt, seqF_bk, seqF_ct, fnD_rt, fnD_nx, g_nm, g_tp, g_ix, gs_nil, gs_cons, e_int, e_bl, e_non, e_str, e_var, getV_0, getV_s, e_gl, opt_some, e_bin, e_neg, negD_int, e_not, notD_bl, e_and, e_or, bE_app, bolD_bl, okM_app, e_cmp, e_chain, chE_app, e_ite, e_tup, e_lst, e_ix, e_rev, e_slA, e_slL, e_slH, e_slLH, sl1_L, sl1_H, sl2_LH, e_call, e_bi, e_mt, mtE_bits, mtE_app, mtE_ext, mtE_pop, e_pcall, sl2E_int, augE_ref, noX_ok, e_comp, es_nil, es_cons, ifD_bl, ifD_t, ifD_f, b_ok, b_assoc, fTurn_eq, turn_eq, inT_some, inC_some, soE_app, evT_nil, evT_one, t_nm, t_tp, ts_nil, ts_cons, mkL_f, mkL_t, o_add, o_sub, c_lt, c_le, c_gt, c_ge, c_eqI, c_neI, b_int, b_intB, b_abs, b_max2, b_min2, b_gcd, b_lenT, b_lenL, b_lenS, b_tupT, b_tupL, b_lstT, b_lstL, b_isiT, b_isiI, b_isiB, revT, revL, ixT0, ixT1, ixT2, ixL0, ixL1, isI, q_vlT, q_vlL, q_vlS, q_enT, q_enL, q_zpTT, q_zpTL, q_zpLT, q_zpLL, forD_some, List.set_cons_zero, List.set_cons_succ, List.map_cons, List.map_nil, List.length_cons, List.length_nil, List.cons_append, List.nil_append, List.replicate_succ, List.replicate_zero, Nat.reduceAdd, Nat.reduceSub, Nat.reduceEqDiff, if_true, Option.bind_some, wipeD, o_fdiv hd hg]
/-- small enough for the limits -/
def Sm (n : Nat) (q : Rat) : Prop := q.num.natAbs < 2 ^ n ∧ q.den < 2 ^ n
theorem den_pos (q : Rat) : (0 : Int) < q.den := by have := q.den_pos; omega
theorem q_eq (q : Rat) : (q.num : Rat) / ((q.den : Int) : Rat) = q := by
  rw [← Rat.divInt_eq_div]; exact Rat.num_divInt_den q
theorem den_ne (q : Rat) : ((q.den : Int) : Rat) ≠ 0 := by
  have := q.den_pos
  rw [Ne, ← Rat.intCast_zero, Rat.intCast_inj]; omega
theorem mulOk {a b : Int} (ha : a.natAbs < 2 ^ 1000) (hb : b.natAbs < 2 ^ 1000) : big2 a b = true := big2_of (a := 1000) (b := 1000) ha hb (by decide)
theorem mul_pos' {a b : Int} (ha : 0 < a) (hb : 0 < b) : 0 < a * b := Int.mul_pos ha hb
theorem mul_bd {a b : Int} {m n : Nat} (ha : a.natAbs < 2 ^ m) (hb : b.natAbs < 2 ^ n) : (a * b).natAbs < 2 ^ (m + n) := by
  rw [Int.natAbs_mul, Nat.pow_add]
  exact Nat.mul_lt_mul'' ha hb
theorem den_mul_bd {p q : Rat} (hp : Sm 1000 p) (hq : Sm 1000 q) : ((p.den : Int) * (q.den : Int)) < 2 ^ 8000 := by
  have h := mul_bd (a := (p.den : Int)) (b := (q.den : Int)) (by simpa using hp.2) (by simpa using hq.2)
  have h2 : (2 : Nat) ^ (1000 + 1000) ≤ 2 ^ 8000 := Nat.pow_le_pow_right (by decide) (by decide)
  have hpos := mul_pos' (den_pos p) (den_pos q)
  generalize (p.den : Int) * (q.den : Int) = z at h hpos
  have h3 : z.natAbs < 2 ^ 8000 := Nat.lt_of_lt_of_le h h2
  have h4 : (z.natAbs : Int) = z := by omega
  rw [← h4]
  exact_mod_cast h3
theorem Sm.n {q : Rat} (h : Sm 1000 q) : q.num.natAbs < 2 ^ 1000 := h.1
theorem Sm.d {q : Rat} (h : Sm 1000 q) : (q.den : Int).natAbs < 2 ^ 1000 := by simpa using h.2
theorem plus_eq (p q : Rat) : fq (p.num * (q.den : Int) + q.num * (p.den : Int)) ((p.den : Int) * (q.den : Int)) = p + q := by
  have h1 := q_eq p; have h2 := q_eq q; have h3 := den_ne p; have h4 := den_ne q
  unfold fq
  rw [Rat.intCast_mul, Rat.intCast_add, Rat.intCast_mul, Rat.intCast_mul]
  grind
theorem less_eq (p q : Rat) : fq (p.num * (q.den : Int) - q.num * (p.den : Int)) ((p.den : Int) * (q.den : Int)) = p - q := by
  have h1 := q_eq p; have h2 := q_eq q; have h3 := den_ne p; have h4 := den_ne q
  unfold fq
  rw [Rat.intCast_mul, Rat.intCast_sub, Rat.intCast_mul, Rat.intCast_mul]
  grind
theorem plus_spec {C : Ev.Ctx} {S : Store} {p q : Rat} (hf : FrOk (pureC (C.cl 36))) (hp : Sm 1000 p) (hq : Sm 1000 q) : runF C fd_law_wb_plus [frD p, frD q] S = .ok (frD (p + q)) S := by
  rw [← plus_eq]
  unfold frD
  simp only [run_eq, ss_nil, ss_cons, s_nm, s_asg, s_par, par2, par3, s_aug, augD_add, augD_sub, s_augIx, augX_add, augX_sub, s_expr, s_ret, s_retN, s_pass, s_brk, s_cont, s_ite, s_for, s_while, seqF_nx, seqF_rt, seqF_bk, seqF_ct, fnD_rt, fnD_nx, g_nm, g_tp, g_ix, gs_nil, gs_cons, e_int, e_bl, e_non, e_str, e_var, getV_0, getV_s, e_gl, opt_some, e_bin, e_neg, negD_int, e_not, notD_bl, e_and, e_or, bE_app, bolD_bl, okM_app, e_cmp, e_chain, chE_app, e_ite, e_tup, e_lst, e_ix, e_rev, e_slA, e_slL, e_slH, e_slLH, sl1_L, sl1_H, sl2_LH, e_call, e_bi, e_mt, mtE_bits, mtE_app, mtE_ext, mtE_pop, e_pcall, sl2E_int, augE_ref, noX_ok, e_comp, es_nil, es_cons, ifD_bl, ifD_t, ifD_f, b_ok, b_assoc, fTurn_eq, turn_eq, inT_some, inC_some, soE_app, evT_nil, evT_one, t_nm, t_tp, ts_nil, ts_cons, mkL_f, mkL_t, o_add, o_sub, c_lt, c_le, c_gt, c_ge, c_eqI, c_neI, b_int, b_intB, b_abs, b_max2, b_min2, b_gcd, b_lenT, b_lenL, b_lenS, b_tupT, b_tupL, b_lstT, b_lstL, b_isiT, b_isiI, b_isiB, revT, revL, ixT0, ixT1, ixT2, ixL0, ixL1, isI, q_vlT, q_vlL, q_vlS, q_enT, q_enL, q_zpTT, q_zpTL, q_zpLT, q_zpLL, forD_some, List.set_cons_zero, List.set_cons_succ, List.map_cons, List.map_nil, List.length_cons, List.length_nil, List.cons_append, List.nil_append, List.replicate_succ, List.replicate_zero, Nat.reduceAdd, Nat.reduceSub, Nat.reduceEqDiff, if_true, Option.bind_some, wipeD, fd_law_wb_plus, o_mul (mulOk hp.n hq.d), o_mul (mulOk hq.n hp.d), o_mul (mulOk hp.d hq.d), hf S _ _ (mul_pos' (den_pos p) (den_pos q)) (den_mul_bd hp hq)]
  rfl
theorem less_spec {C : Ev.Ctx} {S : Store} {p q : Rat} (hf : FrOk (pureC (C.cl 36))) (hp : Sm 1000 p) (hq : Sm 1000 q) : runF C fd_law_wb_less [frD p, frD q] S = .ok (frD (p - q)) S := by
  rw [← less_eq]
  unfold frD
  simp only [run_eq, ss_nil, ss_cons, s_nm, s_asg, s_par, par2, par3, s_aug, augD_add, augD_sub, s_augIx, augX_add, augX_sub, s_expr, s_ret, s_retN, s_pass, s_brk, s_cont, s_ite, s_for, s_while, seqF_nx, seqF_rt, seqF_bk, seqF_ct, fnD_rt, fnD_nx, g_nm, g_tp, g_ix, gs_nil, gs_cons, e_int, e_bl, e_non, e_str, e_var, getV_0, getV_s, e_gl, opt_some, e_bin, e_neg, negD_int, e_not, notD_bl, e_and, e_or, bE_app, bolD_bl, okM_app, e_cmp, e_chain, chE_app, e_ite, e_tup, e_lst, e_ix, e_rev, e_slA, e_slL, e_slH, e_slLH, sl1_L, sl1_H, sl2_LH, e_call, e_bi, e_mt, mtE_bits, mtE_app, mtE_ext, mtE_pop, e_pcall, sl2E_int, augE_ref, noX_ok, e_comp, es_nil, es_cons, ifD_bl, ifD_t, ifD_f, b_ok, b_assoc, fTurn_eq, turn_eq, inT_some, inC_some, soE_app, evT_nil, evT_one, t_nm, t_tp, ts_nil, ts_cons, mkL_f, mkL_t, o_add, o_sub, c_lt, c_le, c_gt, c_ge, c_eqI, c_neI, b_int, b_intB, b_abs, b_max2, b_min2, b_gcd, b_lenT, b_lenL, b_lenS, b_tupT, b_tupL, b_lstT, b_lstL, b_isiT, b_isiI, b_isiB, revT, revL, ixT0, ixT1, ixT2, ixL0, ixL1, isI, q_vlT, q_vlL, q_vlS, q_enT, q_enL, q_zpTT, q_zpTL, q_zpLT, q_zpLL, forD_some, List.set_cons_zero, List.set_cons_succ, List.map_cons, List.map_nil, List.length_cons, List.length_nil, List.cons_append, List.nil_append, List.replicate_succ, List.replicate_zero, Nat.reduceAdd, Nat.reduceSub, Nat.reduceEqDiff, if_true, Option.bind_some, wipeD, fd_law_wb_less, o_mul (mulOk hp.n hq.d), o_mul (mulOk hq.n hp.d), o_mul (mulOk hp.d hq.d), hf S _ _ (mul_pos' (den_pos p) (den_pos q)) (den_mul_bd hp hq)]
  rfl
theorem lessin_spec {C : Ev.Ctx} {S : Store} {p q : Rat} (hf : FrOk (C.cl 9)) (hp : Sm 1000 p) (hq : Sm 1000 q) : runF C fd_less_in [frD p, frD q] S = .ok (frD (p - q)) S := by
  rw [← less_eq]
  unfold frD
  simp only [run_eq, ss_nil, ss_cons, s_nm, s_asg, s_par, par2, par3, s_aug, augD_add, augD_sub, s_augIx, augX_add, augX_sub, s_expr, s_ret, s_retN, s_pass, s_brk, s_cont, s_ite, s_for, s_while, seqF_nx, seqF_rt, seqF_bk, seqF_ct, fnD_rt, fnD_nx, g_nm, g_tp, g_ix, gs_nil, gs_cons, e_int, e_bl, e_non, e_str, e_var, getV_0, getV_s, e_gl, opt_some, e_bin, e_neg, negD_int, e_not, notD_bl, e_and, e_or, bE_app, bolD_bl, okM_app, e_cmp, e_chain, chE_app, e_ite, e_tup, e_lst, e_ix, e_rev, e_slA, e_slL, e_slH, e_slLH, sl1_L, sl1_H, sl2_LH, e_call, e_bi, e_mt, mtE_bits, mtE_app, mtE_ext, mtE_pop, e_pcall, sl2E_int, augE_ref, noX_ok, e_comp, es_nil, es_cons, ifD_bl, ifD_t, ifD_f, b_ok, b_assoc, fTurn_eq, turn_eq, inT_some, inC_some, soE_app, evT_nil, evT_one, t_nm, t_tp, ts_nil, ts_cons, mkL_f, mkL_t, o_add, o_sub, c_lt, c_le, c_gt, c_ge, c_eqI, c_neI, b_int, b_intB, b_abs, b_max2, b_min2, b_gcd, b_lenT, b_lenL, b_lenS, b_tupT, b_tupL, b_lstT, b_lstL, b_isiT, b_isiI, b_isiB, revT, revL, ixT0, ixT1, ixT2, ixL0, ixL1, isI, q_vlT, q_vlL, q_vlS, q_enT, q_enL, q_zpTT, q_zpTL, q_zpLT, q_zpLL, forD_some, List.set_cons_zero, List.set_cons_succ, List.map_cons, List.map_nil, List.length_cons, List.length_nil, List.cons_append, List.nil_append, List.replicate_succ, List.replicate_zero, Nat.reduceAdd, Nat.reduceSub, Nat.reduceEqDiff, if_true, Option.bind_some, wipeD, fd_less_in, o_mul (mulOk hp.n hq.d), o_mul (mulOk hq.n hp.d), o_mul (mulOk hp.d hq.d), hf S _ _ (mul_pos' (den_pos p) (den_pos q)) (den_mul_bd hp hq)]
  rfl
end LW
namespace LW
open PySem L2 Ev
theorem for_wp {α β : Type} {f : D → EM Fl} {h : α → D} {step : β → α → β} {l : List α} {b : β} {e : Ev.Env} {S : Store} (J : β → Ev.Env → Store → Prop)
    (hs : ∀ b x e S, x ∈ l → J b e S → WP (f (h x) e S) fun r S' => ∃ e', r = .nx e' ∧ J (step b x) e' S') (hb : J b e S) : WP (forL [] f (l.map h) e S) fun r S' => ∃ e', r = .nx e' ∧ J (l.foldl step b) e' S' := by
  obtain ⟨e', S', q, j⟩ := for_fold (f := f) (h := h) (step := step) (l := l) J (fun b x e S hx hj => by
    obtain ⟨r, S', q, e', rfl, j⟩ := (hs b x e S hx hj).get
    exact ⟨e', S', q, j⟩) hb
  rw [q]
  exact ⟨e', rfl, j⟩
/-! ### rows in lowest terms -/
def DrD (B : Int) (l : List Int) : D := .tup [.int B, tI l]
def gl (B : Int) (l : List Int) : Int := l.foldl (fun g x => (Int.gcd g x : Int)) B
def lsD (B : Int) (l : List Int) : D := DrD (B / gl B l) (l.map (· / gl B l))
theorem gl_all : ∀ {l : List Int} {B : Int}, 0 < B → 0 < gl B l ∧ gl B l ∣ B ∧ ∀ x, x ∈ l → gl B l ∣ x
  | [], B, h => ⟨h, Int.dvd_refl _, fun x hx => nomatch hx⟩
  | x :: l, B, h => by
    have h0 : (0 : Int) < (Int.gcd B x : Int) := by
      have := Int.gcd_pos_of_ne_zero_left x (show B ≠ 0 by omega)
      omega
    obtain ⟨h1, h2, h3⟩ := gl_all (l := l) h0
    refine ⟨h1, Int.dvd_trans h2 (Int.gcd_dvd_left B x), fun y hy => ?_⟩
    rcases List.mem_cons.mp hy with rfl | hy
    · exact Int.dvd_trans h2 (Int.gcd_dvd_right B y)
    · exact h3 y hy
theorem gl_le {l : List Int} {B : Int} (h : 0 < B) : gl B l ≤ B := Int.le_of_dvd h (gl_all h).2.1
theorem noRef_Dr (B : Int) (l : List Int) : noRef (DrD B l) = true := by
  show (noRef (.int B) && (noRef (tI l) && noRefs [])) = true
  rw [noRef_tI]; rfl
theorem ixD0 {B : Int} {l : List Int} {S : Store} : doIx (DrD B l) (.int 0) S = .ok (.int B) S := ixT0
theorem ixD1 {B : Int} {l : List Int} {S : Store} : doIx (DrD B l) (.int 1) S = .ok (tI l) S := ixT1
theorem srcI {l : List Int} {S : Store} : srcOf .vl [tI l] S = some (l.map .int, []) := rfl
theorem limI {l : List Int} (h : l.length ≤ 1000) : (l.map D.int).length ≤ LIM := by have := lim_ge; rw [List.length_map]; omega
theorem least_spec {C : Ev.Ctx} {S : Store} {B : Int} {l : List Int} (hB : 0 < B) (hB2 : B < 2 ^ 8000) (hl : l.length ≤ 1000) : runF C fd_least_in [DrD B l] S = .ok (lsD B l) S := by
  have hg := (gl_all (l := l) hB).1
  have hle := gl_le (l := l) hB
  have e : ∀ x y : Int, (Nat.gcd x.natAbs y.natAbs : Int) = (Int.gcd x y : Int) := fun _ _ => rfl
  refine eq_of_WP ?_
  simp only [run_eq, ss_nil, ss_cons, s_nm, s_asg, s_par, par2, par3, s_aug, augD_add, augD_sub, s_augIx, augX_add, augX_sub, s_expr, s_ret, s_retN, s_pass, s_brk, s_cont, s_ite, s_for, s_while, seqF_nx, seqF_rt, seqF_bk, seqF_ct, fnD_rt, fnD_nx, g_nm, g_tp, g_ix, gs_nil, gs_cons, e_int, e_bl, e_non, e_str, e_var, getV_0, getV_s, e_gl, opt_some, e_bin, e_neg, negD_int, e_not, notD_bl, e_and, e_or, bE_app, bolD_bl, okM_app, e_cmp, e_chain, chE_app, e_ite, e_tup, e_lst, e_ix, e_rev, e_slA, e_slL, e_slH, e_slLH, sl1_L, sl1_H, sl2_LH, e_call, e_bi, e_mt, mtE_bits, mtE_app, mtE_ext, mtE_pop, e_pcall, sl2E_int, augE_ref, noX_ok, e_comp, es_nil, es_cons, ifD_bl, ifD_t, ifD_f, b_ok, b_assoc, fTurn_eq, turn_eq, inT_some, inC_some, soE_app, evT_nil, evT_one, t_nm, t_tp, ts_nil, ts_cons, mkL_f, mkL_t, o_add, o_sub, c_lt, c_le, c_gt, c_ge, c_eqI, c_neI, b_int, b_intB, b_abs, b_max2, b_min2, b_gcd, b_lenT, b_lenL, b_lenS, b_tupT, b_tupL, b_lstT, b_lstL, b_isiT, b_isiI, b_isiB, revT, revL, ixT0, ixT1, ixT2, ixL0, ixL1, isI, q_vlT, q_vlL, q_vlS, q_enT, q_enL, q_zpTT, q_zpTL, q_zpLT, q_zpLL, forD_some, List.set_cons_zero, List.set_cons_succ, List.map_cons, List.map_nil, List.length_cons, List.length_nil, List.cons_append, List.nil_append, List.replicate_succ, List.replicate_zero, Nat.reduceAdd, Nat.reduceSub, Nat.reduceEqDiff, if_true, Option.bind_some, wipeD, fd_least_in, ixD0, ixD1, srcI]
  refine WP_call (for_wp (h := D.int) (step := fun g x => (Int.gcd g x : Int)) (b := B) (fun g e S' => ∃ o, e = [some (DrD B l), some (.int g), o] ∧ S' = S) ?_ ⟨none, rfl, rfl⟩) ?_
  · rintro g x _ _ hx ⟨o, rfl, rfl⟩
    simp only [run_eq, ss_nil, ss_cons, s_nm, s_asg, s_par, par2, par3, s_aug, augD_add, augD_sub, s_augIx, augX_add, augX_sub, s_expr, s_ret, s_retN, s_pass, s_brk, s_cont, s_ite, s_for, s_while, seqF_nx, seqF_rt, seqF_bk, seqF_ct, fnD_rt, fnD_nx, g_nm, g_tp, g_ix, gs_nil, gs_cons, e_int, e_bl, e_non, e_str, e_var, getV_0, getV_s, e_gl, opt_some, e_bin, e_neg, negD_int, e_not, notD_bl, e_and, e_or, bE_app, bolD_bl, okM_app, e_cmp, e_chain, chE_app, e_ite, e_tup, e_lst, e_ix, e_rev, e_slA, e_slL, e_slH, e_slLH, sl1_L, sl1_H, sl2_LH, e_call, e_bi, e_mt, mtE_bits, mtE_app, mtE_ext, mtE_pop, e_pcall, sl2E_int, augE_ref, noX_ok, e_comp, es_nil, es_cons, ifD_bl, ifD_t, ifD_f, b_ok, b_assoc, fTurn_eq, turn_eq, inT_some, inC_some, soE_app, evT_nil, evT_one, t_nm, t_tp, ts_nil, ts_cons, mkL_f, mkL_t, o_add, o_sub, c_lt, c_le, c_gt, c_ge, c_eqI, c_neI, b_int, b_intB, b_abs, b_max2, b_min2, b_gcd, b_lenT, b_lenL, b_lenS, b_tupT, b_tupL, b_lstT, b_lstL, b_isiT, b_isiI, b_isiB, revT, revL, ixT0, ixT1, ixT2, ixL0, ixL1, isI, q_vlT, q_vlL, q_vlS, q_enT, q_enL, q_zpTT, q_zpTL, q_zpLT, q_zpLL, forD_some, List.set_cons_zero, List.set_cons_succ, List.map_cons, List.map_nil, List.length_cons, List.length_nil, List.cons_append, List.nil_append, List.replicate_succ, List.replicate_zero, Nat.reduceAdd, Nat.reduceSub, Nat.reduceEqDiff, if_true, Option.bind_some, wipeD, e, WP_ok]
    exact ⟨_, rfl, _, rfl, trivial⟩
  · rintro _ _ ⟨_, rfl, o, rfl, rfl⟩
    have hgl : l.foldl (fun g x => (Int.gcd g x : Int)) B = gl B l := rfl
    rw [hgl]
    unfold lsD
    generalize gl B l = g at hg hle
    have hd : divOk g = true := divOk_of (a := 8000) hg (by omega) (by decide)
    simp only [run_eq, ss_nil, ss_cons, s_nm, s_asg, s_par, par2, par3, s_aug, augD_add, augD_sub, s_augIx, augX_add, augX_sub, s_expr, s_ret, s_retN, s_pass, s_brk, s_cont, s_ite, s_for, s_while, seqF_nx, seqF_rt, seqF_bk, seqF_ct, fnD_rt, fnD_nx, g_nm, g_tp, g_ix, gs_nil, gs_cons, e_int, e_bl, e_non, e_str, e_var, getV_0, getV_s, e_gl, opt_some, e_bin, e_neg, negD_int, e_not, notD_bl, e_and, e_or, bE_app, bolD_bl, okM_app, e_cmp, e_chain, chE_app, e_ite, e_tup, e_lst, e_ix, e_rev, e_slA, e_slL, e_slH, e_slLH, sl1_L, sl1_H, sl2_LH, e_call, e_bi, e_mt, mtE_bits, mtE_app, mtE_ext, mtE_pop, e_pcall, sl2E_int, augE_ref, noX_ok, e_comp, es_nil, es_cons, ifD_bl, ifD_t, ifD_f, b_ok, b_assoc, fTurn_eq, turn_eq, inT_some, inC_some, soE_app, evT_nil, evT_one, t_nm, t_tp, ts_nil, ts_cons, mkL_f, mkL_t, o_add, o_sub, c_lt, c_le, c_gt, c_ge, c_eqI, c_neI, b_int, b_intB, b_abs, b_max2, b_min2, b_gcd, b_lenT, b_lenL, b_lenS, b_tupT, b_tupL, b_lstT, b_lstL, b_isiT, b_isiI, b_isiB, revT, revL, ixT0, ixT1, ixT2, ixL0, ixL1, isI, q_vlT, q_vlL, q_vlS, q_enT, q_enL, q_zpTT, q_zpTL, q_zpLT, q_zpLL, forD_some, List.set_cons_zero, List.set_cons_succ, List.map_cons, List.map_nil, List.length_cons, List.length_nil, List.cons_append, List.nil_append, List.replicate_succ, List.replicate_zero, Nat.reduceAdd, Nat.reduceSub, Nat.reduceEqDiff, if_true, Option.bind_some, wipeD, ixD0, ixD1, srcI, o_fdiv hd hg, compD_some (limI hl)]
    rw [comp_int (fun x => x / g) dep_nil fun x hx => by simp only [run_eq, ss_nil, ss_cons, s_nm, s_asg, s_par, par2, par3, s_aug, augD_add, augD_sub, s_augIx, augX_add, augX_sub, s_expr, s_ret, s_retN, s_pass, s_brk, s_cont, s_ite, s_for, s_while, seqF_nx, seqF_rt, seqF_bk, seqF_ct, fnD_rt, fnD_nx, g_nm, g_tp, g_ix, gs_nil, gs_cons, e_int, e_bl, e_non, e_str, e_var, getV_0, getV_s, e_gl, opt_some, e_bin, e_neg, negD_int, e_not, notD_bl, e_and, e_or, bE_app, bolD_bl, okM_app, e_cmp, e_chain, chE_app, e_ite, e_tup, e_lst, e_ix, e_rev, e_slA, e_slL, e_slH, e_slLH, sl1_L, sl1_H, sl2_LH, e_call, e_bi, e_mt, mtE_bits, mtE_app, mtE_ext, mtE_pop, e_pcall, sl2E_int, augE_ref, noX_ok, e_comp, es_nil, es_cons, ifD_bl, ifD_t, ifD_f, b_ok, b_assoc, fTurn_eq, turn_eq, inT_some, inC_some, soE_app, evT_nil, evT_one, t_nm, t_tp, ts_nil, ts_cons, mkL_f, mkL_t, o_add, o_sub, c_lt, c_le, c_gt, c_ge, c_eqI, c_neI, b_int, b_intB, b_abs, b_max2, b_min2, b_gcd, b_lenT, b_lenL, b_lenS, b_tupT, b_tupL, b_lstT, b_lstL, b_isiT, b_isiI, b_isiB, revT, revL, ixT0, ixT1, ixT2, ixL0, ixL1, isI, q_vlT, q_vlL, q_vlS, q_enT, q_enL, q_zpTT, q_zpTL, q_zpLT, q_zpLL, forD_some, List.set_cons_zero, List.set_cons_succ, List.map_cons, List.map_nil, List.length_cons, List.length_nil, List.cons_append, List.nil_append, List.replicate_succ, List.replicate_zero, Nat.reduceAdd, Nat.reduceSub, Nat.reduceEqDiff, if_true, Option.bind_some, wipeD, o_fdiv hd hg]]
    simp only [run_eq, ss_nil, ss_cons, s_nm, s_asg, s_par, par2, par3, s_aug, augD_add, augD_sub, s_augIx, augX_add, augX_sub, s_expr, s_ret, s_retN, s_pass, s_brk, s_cont, s_ite, s_for, s_while, seqF_nx, seqF_rt, seqF_bk, seqF_ct, fnD_rt, fnD_nx, g_nm, g_tp, g_ix, gs_nil, gs_cons, e_int, e_bl, e_non, e_str, e_var, getV_0, getV_s, e_gl, opt_some, e_bin, e_neg, negD_int, e_not, notD_bl, e_and, e_or, bE_app, bolD_bl, okM_app, e_cmp, e_chain, chE_app, e_ite, e_tup, e_lst, e_ix, e_rev, e_slA, e_slL, e_slH, e_slLH, sl1_L, sl1_H, sl2_LH, e_call, e_bi, e_mt, mtE_bits, mtE_app, mtE_ext, mtE_pop, e_pcall, sl2E_int, augE_ref, noX_ok, e_comp, es_nil, es_cons, ifD_bl, ifD_t, ifD_f, b_ok, b_assoc, fTurn_eq, turn_eq, inT_some, inC_some, soE_app, evT_nil, evT_one, t_nm, t_tp, ts_nil, ts_cons, mkL_f, mkL_t, o_add, o_sub, c_lt, c_le, c_gt, c_ge, c_eqI, c_neI, b_int, b_intB, b_abs, b_max2, b_min2, b_gcd, b_lenT, b_lenL, b_lenS, b_tupT, b_tupL, b_lstT, b_lstL, b_isiT, b_isiI, b_isiB, revT, revL, ixT0, ixT1, ixT2, ixL0, ixL1, isI, q_vlT, q_vlL, q_vlS, q_enT, q_enL, q_zpTT, q_zpTL, q_zpLT, q_zpLL, forD_some, List.set_cons_zero, List.set_cons_succ, List.map_cons, List.map_nil, List.length_cons, List.length_nil, List.cons_append, List.nil_append, List.replicate_succ, List.replicate_zero, Nat.reduceAdd, Nat.reduceSub, Nat.reduceEqDiff, if_true, Option.bind_some, wipeD, WP_ok]
    exact ⟨rfl, trivial⟩
theorem leastL_spec {C : Ev.Ctx} {S : Store} {B : Int} {l : List Int} (hc : ShOk (pureC (C.cl 35))) (hB : 0 < B) (hB2 : B < 2 ^ 8000) (hl : l.length ≤ 1000) : runF C fd_law_wb_least [DrD B l] S = .ok (lsD B l) S := by
  have hg := (gl_all (l := l) hB).1
  have hle := gl_le (l := l) hB
  refine eq_of_WP ?_
  simp only [run_eq, ss_nil, ss_cons, s_nm, s_asg, s_par, par2, par3, s_aug, augD_add, augD_sub, s_augIx, augX_add, augX_sub, s_expr, s_ret, s_retN, s_pass, s_brk, s_cont, s_ite, s_for, s_while, seqF_nx, seqF_rt, seqF_bk, seqF_ct, fnD_rt, fnD_nx, g_nm, g_tp, g_ix, gs_nil, gs_cons, e_int, e_bl, e_non, e_str, e_var, getV_0, getV_s, e_gl, opt_some, e_bin, e_neg, negD_int, e_not, notD_bl, e_and, e_or, bE_app, bolD_bl, okM_app, e_cmp, e_chain, chE_app, e_ite, e_tup, e_lst, e_ix, e_rev, e_slA, e_slL, e_slH, e_slLH, sl1_L, sl1_H, sl2_LH, e_call, e_bi, e_mt, mtE_bits, mtE_app, mtE_ext, mtE_pop, e_pcall, sl2E_int, augE_ref, noX_ok, e_comp, es_nil, es_cons, ifD_bl, ifD_t, ifD_f, b_ok, b_assoc, fTurn_eq, turn_eq, inT_some, inC_some, soE_app, evT_nil, evT_one, t_nm, t_tp, ts_nil, ts_cons, mkL_f, mkL_t, o_add, o_sub, c_lt, c_le, c_gt, c_ge, c_eqI, c_neI, b_int, b_intB, b_abs, b_max2, b_min2, b_gcd, b_lenT, b_lenL, b_lenS, b_tupT, b_tupL, b_lstT, b_lstL, b_isiT, b_isiI, b_isiB, revT, revL, ixT0, ixT1, ixT2, ixL0, ixL1, isI, q_vlT, q_vlL, q_vlS, q_enT, q_enL, q_zpTT, q_zpTL, q_zpLT, q_zpLL, forD_some, List.set_cons_zero, List.set_cons_succ, List.map_cons, List.map_nil, List.length_cons, List.length_nil, List.cons_append, List.nil_append, List.replicate_succ, List.replicate_zero, Nat.reduceAdd, Nat.reduceSub, Nat.reduceEqDiff, if_true, Option.bind_some, wipeD, fd_law_wb_least, ixD0, ixD1, srcI]
  refine WP_call (for_wp (h := D.int) (step := fun g x => (Int.gcd g x : Int)) (b := B) (fun g e S' => ∃ o, e = [some (DrD B l), some (.int g), o] ∧ S' = S) ?_ ⟨none, rfl, rfl⟩) ?_
  · rintro g x _ _ hx ⟨o, rfl, rfl⟩
    simp only [run_eq, ss_nil, ss_cons, s_nm, s_asg, s_par, par2, par3, s_aug, augD_add, augD_sub, s_augIx, augX_add, augX_sub, s_expr, s_ret, s_retN, s_pass, s_brk, s_cont, s_ite, s_for, s_while, seqF_nx, seqF_rt, seqF_bk, seqF_ct, fnD_rt, fnD_nx, g_nm, g_tp, g_ix, gs_nil, gs_cons, e_int, e_bl, e_non, e_str, e_var, getV_0, getV_s, e_gl, opt_some, e_bin, e_neg, negD_int, e_not, notD_bl, e_and, e_or, bE_app, bolD_bl, okM_app, e_cmp, e_chain, chE_app, e_ite, e_tup, e_lst, e_ix, e_rev, e_slA, e_slL, e_slH, e_slLH, sl1_L, sl1_H, sl2_LH, e_call, e_bi, e_mt, mtE_bits, mtE_app, mtE_ext, mtE_pop, e_pcall, sl2E_int, augE_ref, noX_ok, e_comp, es_nil, es_cons, ifD_bl, ifD_t, ifD_f, b_ok, b_assoc, fTurn_eq, turn_eq, inT_some, inC_some, soE_app, evT_nil, evT_one, t_nm, t_tp, ts_nil, ts_cons, mkL_f, mkL_t, o_add, o_sub, c_lt, c_le, c_gt, c_ge, c_eqI, c_neI, b_int, b_intB, b_abs, b_max2, b_min2, b_gcd, b_lenT, b_lenL, b_lenS, b_tupT, b_tupL, b_lstT, b_lstL, b_isiT, b_isiI, b_isiB, revT, revL, ixT0, ixT1, ixT2, ixL0, ixL1, isI, q_vlT, q_vlL, q_vlS, q_enT, q_enL, q_zpTT, q_zpTL, q_zpLT, q_zpLL, forD_some, List.set_cons_zero, List.set_cons_succ, List.map_cons, List.map_nil, List.length_cons, List.length_nil, List.cons_append, List.nil_append, List.replicate_succ, List.replicate_zero, Nat.reduceAdd, Nat.reduceSub, Nat.reduceEqDiff, if_true, Option.bind_some, wipeD, hc _, WP_ok]
    exact ⟨_, rfl, _, rfl, trivial⟩
  · rintro _ _ ⟨_, rfl, o, rfl, rfl⟩
    have hgl : l.foldl (fun g x => (Int.gcd g x : Int)) B = gl B l := rfl
    rw [hgl]
    unfold lsD
    generalize gl B l = g at hg hle
    have hd : divOk g = true := divOk_of (a := 8000) hg (by omega) (by decide)
    simp only [run_eq, ss_nil, ss_cons, s_nm, s_asg, s_par, par2, par3, s_aug, augD_add, augD_sub, s_augIx, augX_add, augX_sub, s_expr, s_ret, s_retN, s_pass, s_brk, s_cont, s_ite, s_for, s_while, seqF_nx, seqF_rt, seqF_bk, seqF_ct, fnD_rt, fnD_nx, g_nm, g_tp, g_ix, gs_nil, gs_cons, e_int, e_bl, e_non, e_str, e_var, getV_0, getV_s, e_gl, opt_some, e_bin, e_neg, negD_int, e_not, notD_bl, e_and, e_or, bE_app, bolD_bl, okM_app, e_cmp, e_chain, chE_app, e_ite, e_tup, e_lst, e_ix, e_rev, e_slA, e_slL, e_slH, e_slLH, sl1_L, sl1_H, sl2_LH, e_call, e_bi, e_mt, mtE_bits, mtE_app, mtE_ext, mtE_pop, e_pcall, sl2E_int, augE_ref, noX_ok, e_comp, es_nil, es_cons, ifD_bl, ifD_t, ifD_f, b_ok, b_assoc, fTurn_eq, turn_eq, inT_some, inC_some, soE_app, evT_nil, evT_one, t_nm, t_tp, ts_nil, ts_cons, mkL_f, mkL_t, o_add, o_sub, c_lt, c_le, c_gt, c_ge, c_eqI, c_neI, b_int, b_intB, b_abs, b_max2, b_min2, b_gcd, b_lenT, b_lenL, b_lenS, b_tupT, b_tupL, b_lstT, b_lstL, b_isiT, b_isiI, b_isiB, revT, revL, ixT0, ixT1, ixT2, ixL0, ixL1, isI, q_vlT, q_vlL, q_vlS, q_enT, q_enL, q_zpTT, q_zpTL, q_zpLT, q_zpLL, forD_some, List.set_cons_zero, List.set_cons_succ, List.map_cons, List.map_nil, List.length_cons, List.length_nil, List.cons_append, List.nil_append, List.replicate_succ, List.replicate_zero, Nat.reduceAdd, Nat.reduceSub, Nat.reduceEqDiff, if_true, Option.bind_some, wipeD, ixD0, ixD1, srcI, o_fdiv hd hg, compD_some (limI hl)]
    rw [comp_int (fun x => x / g) dep_nil fun x hx => by simp only [run_eq, ss_nil, ss_cons, s_nm, s_asg, s_par, par2, par3, s_aug, augD_add, augD_sub, s_augIx, augX_add, augX_sub, s_expr, s_ret, s_retN, s_pass, s_brk, s_cont, s_ite, s_for, s_while, seqF_nx, seqF_rt, seqF_bk, seqF_ct, fnD_rt, fnD_nx, g_nm, g_tp, g_ix, gs_nil, gs_cons, e_int, e_bl, e_non, e_str, e_var, getV_0, getV_s, e_gl, opt_some, e_bin, e_neg, negD_int, e_not, notD_bl, e_and, e_or, bE_app, bolD_bl, okM_app, e_cmp, e_chain, chE_app, e_ite, e_tup, e_lst, e_ix, e_rev, e_slA, e_slL, e_slH, e_slLH, sl1_L, sl1_H, sl2_LH, e_call, e_bi, e_mt, mtE_bits, mtE_app, mtE_ext, mtE_pop, e_pcall, sl2E_int, augE_ref, noX_ok, e_comp, es_nil, es_cons, ifD_bl, ifD_t, ifD_f, b_ok, b_assoc, fTurn_eq, turn_eq, inT_some, inC_some, soE_app, evT_nil, evT_one, t_nm, t_tp, ts_nil, ts_cons, mkL_f, mkL_t, o_add, o_sub, c_lt, c_le, c_gt, c_ge, c_eqI, c_neI, b_int, b_intB, b_abs, b_max2, b_min2, b_gcd, b_lenT, b_lenL, b_lenS, b_tupT, b_tupL, b_lstT, b_lstL, b_isiT, b_isiI, b_isiB, revT, revL, ixT0, ixT1, ixT2, ixL0, ixL1, isI, q_vlT, q_vlL, q_vlS, q_enT, q_enL, q_zpTT, q_zpTL, q_zpLT, q_zpLL, forD_some, List.set_cons_zero, List.set_cons_succ, List.map_cons, List.map_nil, List.length_cons, List.length_nil, List.cons_append, List.nil_append, List.replicate_succ, List.replicate_zero, Nat.reduceAdd, Nat.reduceSub, Nat.reduceEqDiff, if_true, Option.bind_some, wipeD, o_fdiv hd hg]]
    simp only [run_eq, ss_nil, ss_cons, s_nm, s_asg, s_par, par2, par3, s_aug, augD_add, augD_sub, s_augIx, augX_add, augX_sub, s_expr, s_ret, s_retN, s_pass, s_brk, s_cont, s_ite, s_for, s_while, seqF_nx, seqF_rt, seqF_bk, seqF_ct, fnD_rt, fnD_nx, g_nm, g_tp, g_ix, gs_nil, gs_cons, e_int, e_bl, e_non, e_str, e_var, getV_0, getV_s, e_gl, opt_some, e_bin, e_neg, negD_int, e_not, notD_bl, e_and, e_or, bE_app, bolD_bl, okM_app, e_cmp, e_chain, chE_app, e_ite, e_tup, e_lst, e_ix, e_rev, e_slA, e_slL, e_slH, e_slLH, sl1_L, sl1_H, sl2_LH, e_call, e_bi, e_mt, mtE_bits, mtE_app, mtE_ext, mtE_pop, e_pcall, sl2E_int, augE_ref, noX_ok, e_comp, es_nil, es_cons, ifD_bl, ifD_t, ifD_f, b_ok, b_assoc, fTurn_eq, turn_eq, inT_some, inC_some, soE_app, evT_nil, evT_one, t_nm, t_tp, ts_nil, ts_cons, mkL_f, mkL_t, o_add, o_sub, c_lt, c_le, c_gt, c_ge, c_eqI, c_neI, b_int, b_intB, b_abs, b_max2, b_min2, b_gcd, b_lenT, b_lenL, b_lenS, b_tupT, b_tupL, b_lstT, b_lstL, b_isiT, b_isiI, b_isiB, revT, revL, ixT0, ixT1, ixT2, ixL0, ixL1, isI, q_vlT, q_vlL, q_vlS, q_enT, q_enL, q_zpTT, q_zpTL, q_zpLT, q_zpLL, forD_some, List.set_cons_zero, List.set_cons_succ, List.map_cons, List.map_nil, List.length_cons, List.length_nil, List.cons_append, List.nil_append, List.replicate_succ, List.replicate_zero, Nat.reduceAdd, Nat.reduceSub, Nat.reduceEqDiff, if_true, Option.bind_some, wipeD, WP_ok]
    exact ⟨rfl, trivial⟩
/-! ### excesses -/
def metL (l t : List Int) : List Int := (l.zip t).filterMap fun p => if p.2 = 1 then some p.1 else none
def metS (l t : List Int) : Int := (metL l t).sum
def exQ (B : Int) (l t : List Int) : Rat := fq (metS l t * (t.length : Int) - t.sum * B) (B * (t.length : Int))
def Big : Int := 2 ^ 140
/-- numbers from 0 to the bound, above a bottom -/
structure Rw (B : Int) (l : List Int) (M : Nat) : Prop where
  pos : 0 < B
  bd : B ≤ Big
  len : l.length = M
  nn : ∀ x, x ∈ l → 0 ≤ x ∧ x ≤ Big
structure Bt (t : List Int) (M : Nat) : Prop where
  len : t.length = M
  bit : ∀ x, x ∈ t → x = 0 ∨ x = 1
theorem sum_bd {c : Int} : ∀ {l : List Int}, (∀ x, x ∈ l → 0 ≤ x ∧ x ≤ c) → 0 ≤ l.sum ∧ l.sum ≤ l.length * c
  | [], _ => by simp
  | x :: l, h => by
    have h1 := h x List.mem_cons_self
    have h2 := sum_bd (l := l) fun y hy => h y (List.mem_cons_of_mem _ hy)
    rw [List.sum_cons, List.length_cons]
    have e : ((l.length + 1 : Nat) : Int) * c = l.length * c + c := by push_cast; grind
    rw [e]; omega
theorem metL_mem {l t : List Int} {x : Int} (h : x ∈ metL l t) : x ∈ l := by
  unfold metL at h
  obtain ⟨p, hp, e⟩ := List.mem_filterMap.mp h
  split at e
  · cases e; exact (List.of_mem_zip hp).1
  · cases e
theorem metL_len (l t : List Int) : (metL l t).length ≤ l.length := by
  have h1 := List.length_filterMap_le (fun p : Int × Int => if p.2 = 1 then some p.1 else none) (l.zip t)
  have h2 : (l.zip t).length ≤ l.length := by rw [List.length_zip]; omega
  exact Nat.le_trans h1 h2
theorem metS_bd {B : Int} {l t : List Int} {M : Nat} (h : Rw B l M) (hM : M ≤ 64) : 0 ≤ metS l t ∧ metS l t ≤ 64 * Big := by
  have h1 := sum_bd (c := Big) (l := metL l t) fun x hx => h.nn x (metL_mem hx)
  have h2 := metL_len l t
  rw [h.len] at h2
  have h3 : ((metL l t).length : Int) * Big ≤ 64 * Big := Int.mul_le_mul_of_nonneg_right (by omega) (by decide)
  unfold metS
  omega
theorem bsum_bd {t : List Int} {M : Nat} (h : Bt t M) : 0 ≤ t.sum ∧ t.sum ≤ M := by
  have h1 := sum_bd (c := 1) (l := t) fun x hx => by rcases h.bit x hx with rfl | rfl <;> omega
  rw [h.len] at h1
  omega
theorem big_lt : 64 * Big < 2 ^ 150 := by decide
theorem ex_step {C : Ev.Ctx} {S : Store} {B : Int} {l t l' t' : List Int} :
    compL [] (turn (.tp [.nm 3, .nm 4]) (evT C [.cmp .eq (.var 4) (.int 1)]) (evE C (.var 3)) [some (DrD B l'), some (tI t'), none, none, none]) (zipD (l.map .int) (t.map .int)) [] S = .ok ((metL l t).map .int) S := by
  rw [zip_map, comp_opt (fun p : Int × Int => if p.2 = 1 then some (D.int p.1) else none) fun p hp => by
    simp only [run_eq, ss_nil, ss_cons, s_nm, s_asg, s_par, par2, par3, s_aug, augD_add, augD_sub, s_augIx, augX_add, augX_sub, s_expr, s_ret, s_retN, s_pass, s_brk, s_cont, s_ite, s_for, s_while, seqF_nx, seqF_rt, seqF_bk, seqF_ct, fnD_rt, fnD_nx, g_nm, g_tp, g_ix, gs_nil, gs_cons, e_int, e_bl, e_non, e_str, e_var, getV_0, getV_s, e_gl, opt_some, e_bin, e_neg, negD_int, e_not, notD_bl, e_and, e_or, bE_app, bolD_bl, okM_app, e_cmp, e_chain, chE_app, e_ite, e_tup, e_lst, e_ix, e_rev, e_slA, e_slL, e_slH, e_slLH, sl1_L, sl1_H, sl2_LH, e_call, e_bi, e_mt, mtE_bits, mtE_app, mtE_ext, mtE_pop, e_pcall, sl2E_int, augE_ref, noX_ok, e_comp, es_nil, es_cons, ifD_bl, ifD_t, ifD_f, b_ok, b_assoc, fTurn_eq, turn_eq, inT_some, inC_some, soE_app, evT_nil, evT_one, t_nm, t_tp, ts_nil, ts_cons, mkL_f, mkL_t, o_add, o_sub, c_lt, c_le, c_gt, c_ge, c_eqI, c_neI, b_int, b_intB, b_abs, b_max2, b_min2, b_gcd, b_lenT, b_lenL, b_lenS, b_tupT, b_tupL, b_lstT, b_lstL, b_isiT, b_isiI, b_isiB, revT, revL, ixT0, ixT1, ixT2, ixL0, ixL1, isI, q_vlT, q_vlL, q_vlS, q_enT, q_enL, q_zpTT, q_zpTL, q_zpLT, q_zpLL, forD_some, List.set_cons_zero, List.set_cons_succ, List.map_cons, List.map_nil, List.length_cons, List.length_nil, List.cons_append, List.nil_append, List.replicate_succ, List.replicate_zero, Nat.reduceAdd, Nat.reduceSub, Nat.reduceEqDiff, if_true, Option.bind_some, wipeD]
    by_cases h : p.2 = 1
    · simp only [run_eq, ss_nil, ss_cons, s_nm, s_asg, s_par, par2, par3, s_aug, augD_add, augD_sub, s_augIx, augX_add, augX_sub, s_expr, s_ret, s_retN, s_pass, s_brk, s_cont, s_ite, s_for, s_while, seqF_nx, seqF_rt, seqF_bk, seqF_ct, fnD_rt, fnD_nx, g_nm, g_tp, g_ix, gs_nil, gs_cons, e_int, e_bl, e_non, e_str, e_var, getV_0, getV_s, e_gl, opt_some, e_bin, e_neg, negD_int, e_not, notD_bl, e_and, e_or, bE_app, bolD_bl, okM_app, e_cmp, e_chain, chE_app, e_ite, e_tup, e_lst, e_ix, e_rev, e_slA, e_slL, e_slH, e_slLH, sl1_L, sl1_H, sl2_LH, e_call, e_bi, e_mt, mtE_bits, mtE_app, mtE_ext, mtE_pop, e_pcall, sl2E_int, augE_ref, noX_ok, e_comp, es_nil, es_cons, ifD_bl, ifD_t, ifD_f, b_ok, b_assoc, fTurn_eq, turn_eq, inT_some, inC_some, soE_app, evT_nil, evT_one, t_nm, t_tp, ts_nil, ts_cons, mkL_f, mkL_t, o_add, o_sub, c_lt, c_le, c_gt, c_ge, c_eqI, c_neI, b_int, b_intB, b_abs, b_max2, b_min2, b_gcd, b_lenT, b_lenL, b_lenS, b_tupT, b_tupL, b_lstT, b_lstL, b_isiT, b_isiI, b_isiB, revT, revL, ixT0, ixT1, ixT2, ixL0, ixL1, isI, q_vlT, q_vlL, q_vlS, q_enT, q_enL, q_zpTT, q_zpTL, q_zpLT, q_zpLL, forD_some, List.set_cons_zero, List.set_cons_succ, List.map_cons, List.map_nil, List.length_cons, List.length_nil, List.cons_append, List.nil_append, List.replicate_succ, List.replicate_zero, Nat.reduceAdd, Nat.reduceSub, Nat.reduceEqDiff, if_true, Option.bind_some, wipeD, h, decide_true]
    · simp only [run_eq, ss_nil, ss_cons, s_nm, s_asg, s_par, par2, par3, s_aug, augD_add, augD_sub, s_augIx, augX_add, augX_sub, s_expr, s_ret, s_retN, s_pass, s_brk, s_cont, s_ite, s_for, s_while, seqF_nx, seqF_rt, seqF_bk, seqF_ct, fnD_rt, fnD_nx, g_nm, g_tp, g_ix, gs_nil, gs_cons, e_int, e_bl, e_non, e_str, e_var, getV_0, getV_s, e_gl, opt_some, e_bin, e_neg, negD_int, e_not, notD_bl, e_and, e_or, bE_app, bolD_bl, okM_app, e_cmp, e_chain, chE_app, e_ite, e_tup, e_lst, e_ix, e_rev, e_slA, e_slL, e_slH, e_slLH, sl1_L, sl1_H, sl2_LH, e_call, e_bi, e_mt, mtE_bits, mtE_app, mtE_ext, mtE_pop, e_pcall, sl2E_int, augE_ref, noX_ok, e_comp, es_nil, es_cons, ifD_bl, ifD_t, ifD_f, b_ok, b_assoc, fTurn_eq, turn_eq, inT_some, inC_some, soE_app, evT_nil, evT_one, t_nm, t_tp, ts_nil, ts_cons, mkL_f, mkL_t, o_add, o_sub, c_lt, c_le, c_gt, c_ge, c_eqI, c_neI, b_int, b_intB, b_abs, b_max2, b_min2, b_gcd, b_lenT, b_lenL, b_lenS, b_tupT, b_tupL, b_lstT, b_lstL, b_isiT, b_isiI, b_isiB, revT, revL, ixT0, ixT1, ixT2, ixL0, ixL1, isI, q_vlT, q_vlL, q_vlS, q_enT, q_enL, q_zpTT, q_zpTL, q_zpLT, q_zpLL, forD_some, List.set_cons_zero, List.set_cons_succ, List.map_cons, List.map_nil, List.length_cons, List.length_nil, List.cons_append, List.nil_append, List.replicate_succ, List.replicate_zero, Nat.reduceAdd, Nat.reduceSub, Nat.reduceEqDiff, if_true, Option.bind_some, wipeD, h, decide_false, Bool.false_eq_true, if_false]]
  have : ∀ q : List (Int × Int), q.filterMap (fun p : Int × Int => if p.2 = 1 then some (D.int p.1) else none) = (q.filterMap fun p => if p.2 = 1 then some p.1 else none).map D.int := fun q => by
    induction q with
    | nil => rfl
    | cons p q ih =>
      by_cases h : p.2 = 1
      · simp [List.filterMap_cons, h, ih]
      · simp [List.filterMap_cons, h, ih]
  rw [this]
  rfl
theorem zpI {l t : List Int} {S : Store} : srcOf .zp [tI l, tI t] S = some (zipD (l.map .int) (t.map .int), []) := rfl
theorem zip_lim {l t : List Int} (h : l.length ≤ 1000) : (zipD (l.map D.int) (t.map D.int)).length ≤ LIM := by
  have := lim_ge
  rw [zip_map, List.length_map, List.length_zip]; omega
theorem excess_spec {C : Ev.Ctx} {S : Store} {B : Int} {l t : List Int} {M : Nat} (hf : FrOk (C.cl 9)) (h : Rw B l M) (ht : Bt t M) (h1 : 1 ≤ M) (hM : M ≤ 64) : runF C fd_excess_in [DrD B l, tI t] S = .ok (frD (exQ B l t)) S := by
  have b1 := metS_bd (t := t) h hM
  have b2 := bsum_bd ht
  have b3 := big_lt
  have b4 := h.pos
  have b5 := h.bd
  have b6 : Big < 2 ^ 150 := by decide
  have sm : ∀ S m, doBi .sum m [tI t] S = .ok (.int t.sum) S := fun S m => b_sumT
  have sl : ∀ S m, doBi .sum m [.lst ((metL l t).map .int)] S = .ok (.int (metS l t)) S := fun S m => b_sumL
  have ln : ∀ S m, doBi .len m [tI t] S = .ok (.int (t.length : Int)) S := fun S m => lenI
  have hl2 := ht.len
  unfold exQ
  generalize hm : metS l t = w at *
  generalize hs : t.sum = s at *
  generalize hn : (t.length : Int) = n at *
  have n1 : 0 < n := by omega
  have n2 : n ≤ 64 := by omega
  have m1 : big2 w n = true := mulOk (by omega) (by omega)
  have m2 : big2 s B = true := mulOk (by omega) (by omega)
  have m3 : big2 B n = true := mulOk (by omega) (by omega)
  have bb : B * n < 2 ^ 8000 := by
    have : B * n ≤ Big * 64 := Int.mul_le_mul b5 n2 (by omega) (by decide)
    omega
  simp only [run_eq, ss_nil, ss_cons, s_nm, s_asg, s_par, par2, par3, s_aug, augD_add, augD_sub, s_augIx, augX_add, augX_sub, s_expr, s_ret, s_retN, s_pass, s_brk, s_cont, s_ite, s_for, s_while, seqF_nx, seqF_rt, seqF_bk, seqF_ct, fnD_rt, fnD_nx, g_nm, g_tp, g_ix, gs_nil, gs_cons, e_int, e_bl, e_non, e_str, e_var, getV_0, getV_s, e_gl, opt_some, e_bin, e_neg, negD_int, e_not, notD_bl, e_and, e_or, bE_app, bolD_bl, okM_app, e_cmp, e_chain, chE_app, e_ite, e_tup, e_lst, e_ix, e_rev, e_slA, e_slL, e_slH, e_slLH, sl1_L, sl1_H, sl2_LH, e_call, e_bi, e_mt, mtE_bits, mtE_app, mtE_ext, mtE_pop, e_pcall, sl2E_int, augE_ref, noX_ok, e_comp, es_nil, es_cons, ifD_bl, ifD_t, ifD_f, b_ok, b_assoc, fTurn_eq, turn_eq, inT_some, inC_some, soE_app, evT_nil, evT_one, t_nm, t_tp, ts_nil, ts_cons, mkL_f, mkL_t, o_add, o_sub, c_lt, c_le, c_gt, c_ge, c_eqI, c_neI, b_int, b_intB, b_abs, b_max2, b_min2, b_gcd, b_lenT, b_lenL, b_lenS, b_tupT, b_tupL, b_lstT, b_lstL, b_isiT, b_isiI, b_isiB, revT, revL, ixT0, ixT1, ixT2, ixL0, ixL1, isI, q_vlT, q_vlL, q_vlS, q_enT, q_enL, q_zpTT, q_zpTL, q_zpLT, q_zpLL, forD_some, List.set_cons_zero, List.set_cons_succ, List.map_cons, List.map_nil, List.length_cons, List.length_nil, List.cons_append, List.nil_append, List.replicate_succ, List.replicate_zero, Nat.reduceAdd, Nat.reduceSub, Nat.reduceEqDiff, if_true, Option.bind_some, wipeD, fd_excess_in, ixD0, ixD1, zpI, compD_some (zip_lim (l := l) (t := t) (by rw [h.len]; omega))]
  rw [ex_step]
  simp only [run_eq, ss_nil, ss_cons, s_nm, s_asg, s_par, par2, par3, s_aug, augD_add, augD_sub, s_augIx, augX_add, augX_sub, s_expr, s_ret, s_retN, s_pass, s_brk, s_cont, s_ite, s_for, s_while, seqF_nx, seqF_rt, seqF_bk, seqF_ct, fnD_rt, fnD_nx, g_nm, g_tp, g_ix, gs_nil, gs_cons, e_int, e_bl, e_non, e_str, e_var, getV_0, getV_s, e_gl, opt_some, e_bin, e_neg, negD_int, e_not, notD_bl, e_and, e_or, bE_app, bolD_bl, okM_app, e_cmp, e_chain, chE_app, e_ite, e_tup, e_lst, e_ix, e_rev, e_slA, e_slL, e_slH, e_slLH, sl1_L, sl1_H, sl2_LH, e_call, e_bi, e_mt, mtE_bits, mtE_app, mtE_ext, mtE_pop, e_pcall, sl2E_int, augE_ref, noX_ok, e_comp, es_nil, es_cons, ifD_bl, ifD_t, ifD_f, b_ok, b_assoc, fTurn_eq, turn_eq, inT_some, inC_some, soE_app, evT_nil, evT_one, t_nm, t_tp, ts_nil, ts_cons, mkL_f, mkL_t, o_add, o_sub, c_lt, c_le, c_gt, c_ge, c_eqI, c_neI, b_int, b_intB, b_abs, b_max2, b_min2, b_gcd, b_lenT, b_lenL, b_lenS, b_tupT, b_tupL, b_lstT, b_lstL, b_isiT, b_isiI, b_isiB, revT, revL, ixT0, ixT1, ixT2, ixL0, ixL1, isI, q_vlT, q_vlL, q_vlS, q_enT, q_enL, q_zpTT, q_zpTL, q_zpLT, q_zpLL, forD_some, List.set_cons_zero, List.set_cons_succ, List.map_cons, List.map_nil, List.length_cons, List.length_nil, List.cons_append, List.nil_append, List.replicate_succ, List.replicate_zero, Nat.reduceAdd, Nat.reduceSub, Nat.reduceEqDiff, if_true, Option.bind_some, wipeD, sl, ln, sm, ixD0, o_mul m1, o_mul m2, o_mul m3, hf S _ _ (Int.mul_pos b4 n1) bb]
theorem excessL_spec {C : Ev.Ctx} {S : Store} {B : Int} {l t : List Int} {M : Nat} (hf : FrOk (pureC (C.cl 36))) (h : Rw B l M) (ht : Bt t M) (h1 : 1 ≤ M) (hM : M ≤ 64) : runF C fd_law_wb_excess [DrD B l, tI t] S = .ok (frD (exQ B l t)) S := by
  have b1 := metS_bd (t := t) h hM
  have b2 := bsum_bd ht
  have b3 := big_lt
  have b4 := h.pos
  have b5 := h.bd
  have b6 : Big < 2 ^ 150 := by decide
  have sm : ∀ S m, doBi .sum m [tI t] S = .ok (.int t.sum) S := fun S m => b_sumT
  have sl : ∀ S m, doBi .sum m [.lst ((metL l t).map .int)] S = .ok (.int (metS l t)) S := fun S m => b_sumL
  have ln : ∀ S m, doBi .len m [tI t] S = .ok (.int (t.length : Int)) S := fun S m => lenI
  have hl2 := ht.len
  unfold exQ
  generalize hm : metS l t = w at *
  generalize hs : t.sum = s at *
  generalize hn : (t.length : Int) = n at *
  have n1 : 0 < n := by omega
  have n2 : n ≤ 64 := by omega
  have m1 : big2 w n = true := mulOk (by omega) (by omega)
  have m2 : big2 s B = true := mulOk (by omega) (by omega)
  have m3 : big2 B n = true := mulOk (by omega) (by omega)
  have bb : B * n < 2 ^ 8000 := by
    have : B * n ≤ Big * 64 := Int.mul_le_mul b5 n2 (by omega) (by decide)
    omega
  simp only [run_eq, ss_nil, ss_cons, s_nm, s_asg, s_par, par2, par3, s_aug, augD_add, augD_sub, s_augIx, augX_add, augX_sub, s_expr, s_ret, s_retN, s_pass, s_brk, s_cont, s_ite, s_for, s_while, seqF_nx, seqF_rt, seqF_bk, seqF_ct, fnD_rt, fnD_nx, g_nm, g_tp, g_ix, gs_nil, gs_cons, e_int, e_bl, e_non, e_str, e_var, getV_0, getV_s, e_gl, opt_some, e_bin, e_neg, negD_int, e_not, notD_bl, e_and, e_or, bE_app, bolD_bl, okM_app, e_cmp, e_chain, chE_app, e_ite, e_tup, e_lst, e_ix, e_rev, e_slA, e_slL, e_slH, e_slLH, sl1_L, sl1_H, sl2_LH, e_call, e_bi, e_mt, mtE_bits, mtE_app, mtE_ext, mtE_pop, e_pcall, sl2E_int, augE_ref, noX_ok, e_comp, es_nil, es_cons, ifD_bl, ifD_t, ifD_f, b_ok, b_assoc, fTurn_eq, turn_eq, inT_some, inC_some, soE_app, evT_nil, evT_one, t_nm, t_tp, ts_nil, ts_cons, mkL_f, mkL_t, o_add, o_sub, c_lt, c_le, c_gt, c_ge, c_eqI, c_neI, b_int, b_intB, b_abs, b_max2, b_min2, b_gcd, b_lenT, b_lenL, b_lenS, b_tupT, b_tupL, b_lstT, b_lstL, b_isiT, b_isiI, b_isiB, revT, revL, ixT0, ixT1, ixT2, ixL0, ixL1, isI, q_vlT, q_vlL, q_vlS, q_enT, q_enL, q_zpTT, q_zpTL, q_zpLT, q_zpLL, forD_some, List.set_cons_zero, List.set_cons_succ, List.map_cons, List.map_nil, List.length_cons, List.length_nil, List.cons_append, List.nil_append, List.replicate_succ, List.replicate_zero, Nat.reduceAdd, Nat.reduceSub, Nat.reduceEqDiff, if_true, Option.bind_some, wipeD, fd_law_wb_excess, ixD0, ixD1, zpI, compD_some (zip_lim (l := l) (t := t) (by rw [h.len]; omega))]
  rw [ex_step]
  simp only [run_eq, ss_nil, ss_cons, s_nm, s_asg, s_par, par2, par3, s_aug, augD_add, augD_sub, s_augIx, augX_add, augX_sub, s_expr, s_ret, s_retN, s_pass, s_brk, s_cont, s_ite, s_for, s_while, seqF_nx, seqF_rt, seqF_bk, seqF_ct, fnD_rt, fnD_nx, g_nm, g_tp, g_ix, gs_nil, gs_cons, e_int, e_bl, e_non, e_str, e_var, getV_0, getV_s, e_gl, opt_some, e_bin, e_neg, negD_int, e_not, notD_bl, e_and, e_or, bE_app, bolD_bl, okM_app, e_cmp, e_chain, chE_app, e_ite, e_tup, e_lst, e_ix, e_rev, e_slA, e_slL, e_slH, e_slLH, sl1_L, sl1_H, sl2_LH, e_call, e_bi, e_mt, mtE_bits, mtE_app, mtE_ext, mtE_pop, e_pcall, sl2E_int, augE_ref, noX_ok, e_comp, es_nil, es_cons, ifD_bl, ifD_t, ifD_f, b_ok, b_assoc, fTurn_eq, turn_eq, inT_some, inC_some, soE_app, evT_nil, evT_one, t_nm, t_tp, ts_nil, ts_cons, mkL_f, mkL_t, o_add, o_sub, c_lt, c_le, c_gt, c_ge, c_eqI, c_neI, b_int, b_intB, b_abs, b_max2, b_min2, b_gcd, b_lenT, b_lenL, b_lenS, b_tupT, b_tupL, b_lstT, b_lstL, b_isiT, b_isiI, b_isiB, revT, revL, ixT0, ixT1, ixT2, ixL0, ixL1, isI, q_vlT, q_vlL, q_vlS, q_enT, q_enL, q_zpTT, q_zpTL, q_zpLT, q_zpLL, forD_some, List.set_cons_zero, List.set_cons_succ, List.map_cons, List.map_nil, List.length_cons, List.length_nil, List.cons_append, List.nil_append, List.replicate_succ, List.replicate_zero, Nat.reduceAdd, Nat.reduceSub, Nat.reduceEqDiff, if_true, Option.bind_some, wipeD, sl, ln, sm, ixD0, o_mul m1, o_mul m2, o_mul m3, hf S _ _ (Int.mul_pos b4 n1) bb]
end LW
namespace LW
open PySem L2 Ev
/-! ### the package's own checks -/
def Sml : Int := 2 ^ 120
structure Dr (B : Int) (l : List Int) (M : Nat) : Prop where
  rw : Rw B l M
  sml : B ≤ Sml
  sum : l.sum = B
theorem le_sum : ∀ {l : List Int}, (∀ x, x ∈ l → 0 ≤ x) → ∀ x, x ∈ l → x ≤ l.sum
  | [], _, x, hx => nomatch hx
  | y :: l, h, x, hx => by
    have h1 := h y List.mem_cons_self
    have h3 : 0 ≤ l.sum := by
      have : ∀ {l : List Int}, (∀ x, x ∈ l → 0 ≤ x) → 0 ≤ l.sum := fun {l} => by
        induction l with
        | nil => intro _; simp
        | cons z l ih =>
          intro h
          have a := h z List.mem_cons_self
          have b := ih fun y hy => h y (List.mem_cons_of_mem _ hy)
          rw [List.sum_cons]; omega
      exact this fun y hy => h y (List.mem_cons_of_mem _ hy)
    rw [List.sum_cons]
    rcases List.mem_cons.mp hx with rfl | hx
    · omega
    · have := le_sum (l := l) (fun y hy => h y (List.mem_cons_of_mem _ hy)) x hx
      omega
theorem Dr.le {B : Int} {l : List Int} {M : Nat} (h : Dr B l M) {x : Int} (hx : x ∈ l) : x ≤ B := by
  rw [← h.sum]; exact le_sum (fun y hy => (h.rw.nn y hy).1) x hx
def WOk (cl : Nat → List D → M D) : Prop := ∀ (S : Store) (i : Int), cl 2 [.int i] S = .ok (.bl true) S
theorem whole_spec {C : Ev.Ctx} {S : Store} {i : Int} : runF C fd_is_whole [.int i] S = .ok (.bl true) S := by
  simp only [run_eq, ss_nil, ss_cons, s_nm, s_asg, s_par, par2, par3, s_aug, augD_add, augD_sub, s_augIx, augX_add, augX_sub, s_expr, s_ret, s_retN, s_pass, s_brk, s_cont, s_ite, s_for, s_while, seqF_nx, seqF_rt, seqF_bk, seqF_ct, fnD_rt, fnD_nx, g_nm, g_tp, g_ix, gs_nil, gs_cons, e_int, e_bl, e_non, e_str, e_var, getV_0, getV_s, e_gl, opt_some, e_bin, e_neg, negD_int, e_not, notD_bl, e_and, e_or, bE_app, bolD_bl, okM_app, e_cmp, e_chain, chE_app, e_ite, e_tup, e_lst, e_ix, e_rev, e_slA, e_slL, e_slH, e_slLH, sl1_L, sl1_H, sl2_LH, e_call, e_bi, e_mt, mtE_bits, mtE_app, mtE_ext, mtE_pop, e_pcall, sl2E_int, augE_ref, noX_ok, e_comp, es_nil, es_cons, ifD_bl, ifD_t, ifD_f, b_ok, b_assoc, fTurn_eq, turn_eq, inT_some, inC_some, soE_app, evT_nil, evT_one, t_nm, t_tp, ts_nil, ts_cons, mkL_f, mkL_t, o_add, o_sub, c_lt, c_le, c_gt, c_ge, c_eqI, c_neI, b_int, b_intB, b_abs, b_max2, b_min2, b_gcd, b_lenT, b_lenL, b_lenS, b_tupT, b_tupL, b_lstT, b_lstL, b_isiT, b_isiI, b_isiB, revT, revL, ixT0, ixT1, ixT2, ixL0, ixL1, isI, q_vlT, q_vlL, q_vlS, q_enT, q_enL, q_zpTT, q_zpTL, q_zpLT, q_zpLL, forD_some, List.set_cons_zero, List.set_cons_succ, List.map_cons, List.map_nil, List.length_cons, List.length_nil, List.cons_append, List.nil_append, List.replicate_succ, List.replicate_zero, Nat.reduceAdd, Nat.reduceSub, Nat.reduceEqDiff, if_true, Option.bind_some, wipeD, decide_true, decide_false, not_true_eq_false, not_false_eq_true, Bool.false_eq_true, if_false, Bool.not_true, Bool.not_false, ne_eq, fd_is_whole]
def IgOk (cl : Nat → List D → M D) : Prop := ∀ (S : Store) (i : Int), 0 ≤ i → i < 1000000000 → cl 3 [.int i] S = .ok (.bl true) S
theorem integer_spec {C : Ev.Ctx} {S : Store} {i : Int} (hg : C.gv 0 = some (.int 1000000000)) (hw : WOk C.cl) (h1 : 0 ≤ i) (h2 : i < 1000000000) : runF C fd_is_integer [.int i] S = .ok (.bl true) S := by
  have a : (-1000000000 : Int) < i := by omega
  simp only [run_eq, ss_nil, ss_cons, s_nm, s_asg, s_par, par2, par3, s_aug, augD_add, augD_sub, s_augIx, augX_add, augX_sub, s_expr, s_ret, s_retN, s_pass, s_brk, s_cont, s_ite, s_for, s_while, seqF_nx, seqF_rt, seqF_bk, seqF_ct, fnD_rt, fnD_nx, g_nm, g_tp, g_ix, gs_nil, gs_cons, e_int, e_bl, e_non, e_str, e_var, getV_0, getV_s, e_gl, opt_some, e_bin, e_neg, negD_int, e_not, notD_bl, e_and, e_or, bE_app, bolD_bl, okM_app, e_cmp, e_chain, chE_app, e_ite, e_tup, e_lst, e_ix, e_rev, e_slA, e_slL, e_slH, e_slLH, sl1_L, sl1_H, sl2_LH, e_call, e_bi, e_mt, mtE_bits, mtE_app, mtE_ext, mtE_pop, e_pcall, sl2E_int, augE_ref, noX_ok, e_comp, es_nil, es_cons, ifD_bl, ifD_t, ifD_f, b_ok, b_assoc, fTurn_eq, turn_eq, inT_some, inC_some, soE_app, evT_nil, evT_one, t_nm, t_tp, ts_nil, ts_cons, mkL_f, mkL_t, o_add, o_sub, c_lt, c_le, c_gt, c_ge, c_eqI, c_neI, b_int, b_intB, b_abs, b_max2, b_min2, b_gcd, b_lenT, b_lenL, b_lenS, b_tupT, b_tupL, b_lstT, b_lstL, b_isiT, b_isiI, b_isiB, revT, revL, ixT0, ixT1, ixT2, ixL0, ixL1, isI, q_vlT, q_vlL, q_vlS, q_enT, q_enL, q_zpTT, q_zpTL, q_zpLT, q_zpLL, forD_some, List.set_cons_zero, List.set_cons_succ, List.map_cons, List.map_nil, List.length_cons, List.length_nil, List.cons_append, List.nil_append, List.replicate_succ, List.replicate_zero, Nat.reduceAdd, Nat.reduceSub, Nat.reduceEqDiff, if_true, Option.bind_some, wipeD, decide_true, decide_false, not_true_eq_false, not_false_eq_true, Bool.false_eq_true, if_false, Bool.not_true, Bool.not_false, ne_eq, fd_is_integer, hw S, hg, a, h2]
def WiOk (cl : Nat → List D → M D) : Prop := ∀ (S : Store) (x lo hi : Int), lo ≤ x → x ≤ hi → cl 4 [.int x, .int lo, .int hi] S = .ok (.bl true) S
theorem within_spec {C : Ev.Ctx} {S : Store} {x lo hi : Int} (hw : WOk C.cl) (h1 : lo ≤ x) (h2 : x ≤ hi) : runF C fd_is_within [.int x, .int lo, .int hi] S = .ok (.bl true) S := by
  simp only [run_eq, ss_nil, ss_cons, s_nm, s_asg, s_par, par2, par3, s_aug, augD_add, augD_sub, s_augIx, augX_add, augX_sub, s_expr, s_ret, s_retN, s_pass, s_brk, s_cont, s_ite, s_for, s_while, seqF_nx, seqF_rt, seqF_bk, seqF_ct, fnD_rt, fnD_nx, g_nm, g_tp, g_ix, gs_nil, gs_cons, e_int, e_bl, e_non, e_str, e_var, getV_0, getV_s, e_gl, opt_some, e_bin, e_neg, negD_int, e_not, notD_bl, e_and, e_or, bE_app, bolD_bl, okM_app, e_cmp, e_chain, chE_app, e_ite, e_tup, e_lst, e_ix, e_rev, e_slA, e_slL, e_slH, e_slLH, sl1_L, sl1_H, sl2_LH, e_call, e_bi, e_mt, mtE_bits, mtE_app, mtE_ext, mtE_pop, e_pcall, sl2E_int, augE_ref, noX_ok, e_comp, es_nil, es_cons, ifD_bl, ifD_t, ifD_f, b_ok, b_assoc, fTurn_eq, turn_eq, inT_some, inC_some, soE_app, evT_nil, evT_one, t_nm, t_tp, ts_nil, ts_cons, mkL_f, mkL_t, o_add, o_sub, c_lt, c_le, c_gt, c_ge, c_eqI, c_neI, b_int, b_intB, b_abs, b_max2, b_min2, b_gcd, b_lenT, b_lenL, b_lenS, b_tupT, b_tupL, b_lstT, b_lstL, b_isiT, b_isiI, b_isiB, revT, revL, ixT0, ixT1, ixT2, ixL0, ixL1, isI, q_vlT, q_vlL, q_vlS, q_enT, q_enL, q_zpTT, q_zpTL, q_zpLT, q_zpLL, forD_some, List.set_cons_zero, List.set_cons_succ, List.map_cons, List.map_nil, List.length_cons, List.length_nil, List.cons_append, List.nil_append, List.replicate_succ, List.replicate_zero, Nat.reduceAdd, Nat.reduceSub, Nat.reduceEqDiff, if_true, Option.bind_some, wipeD, decide_true, decide_false, not_true_eq_false, not_false_eq_true, Bool.false_eq_true, if_false, Bool.not_true, Bool.not_false, ne_eq, fd_is_within, hw S, h1, h2]
def BiOk (cl : Nat → List D → M D) : Prop := ∀ (S : Store) (x : Int), x = 0 ∨ x = 1 → cl 5 [.int x] S = .ok (.bl true) S
theorem bit_spec {C : Ev.Ctx} {S : Store} {x : Int} (hw : WiOk C.cl) (h : x = 0 ∨ x = 1) : runF C fd_is_bit [.int x] S = .ok (.bl true) S := by
  simp only [run_eq, ss_nil, ss_cons, s_nm, s_asg, s_par, par2, par3, s_aug, augD_add, augD_sub, s_augIx, augX_add, augX_sub, s_expr, s_ret, s_retN, s_pass, s_brk, s_cont, s_ite, s_for, s_while, seqF_nx, seqF_rt, seqF_bk, seqF_ct, fnD_rt, fnD_nx, g_nm, g_tp, g_ix, gs_nil, gs_cons, e_int, e_bl, e_non, e_str, e_var, getV_0, getV_s, e_gl, opt_some, e_bin, e_neg, negD_int, e_not, notD_bl, e_and, e_or, bE_app, bolD_bl, okM_app, e_cmp, e_chain, chE_app, e_ite, e_tup, e_lst, e_ix, e_rev, e_slA, e_slL, e_slH, e_slLH, sl1_L, sl1_H, sl2_LH, e_call, e_bi, e_mt, mtE_bits, mtE_app, mtE_ext, mtE_pop, e_pcall, sl2E_int, augE_ref, noX_ok, e_comp, es_nil, es_cons, ifD_bl, ifD_t, ifD_f, b_ok, b_assoc, fTurn_eq, turn_eq, inT_some, inC_some, soE_app, evT_nil, evT_one, t_nm, t_tp, ts_nil, ts_cons, mkL_f, mkL_t, o_add, o_sub, c_lt, c_le, c_gt, c_ge, c_eqI, c_neI, b_int, b_intB, b_abs, b_max2, b_min2, b_gcd, b_lenT, b_lenL, b_lenS, b_tupT, b_tupL, b_lstT, b_lstL, b_isiT, b_isiI, b_isiB, revT, revL, ixT0, ixT1, ixT2, ixL0, ixL1, isI, q_vlT, q_vlL, q_vlS, q_enT, q_enL, q_zpTT, q_zpTL, q_zpLT, q_zpLL, forD_some, List.set_cons_zero, List.set_cons_succ, List.map_cons, List.map_nil, List.length_cons, List.length_nil, List.cons_append, List.nil_append, List.replicate_succ, List.replicate_zero, Nat.reduceAdd, Nat.reduceSub, Nat.reduceEqDiff, if_true, Option.bind_some, wipeD, decide_true, decide_false, not_true_eq_false, not_false_eq_true, Bool.false_eq_true, if_false, Bool.not_true, Bool.not_false, ne_eq, fd_is_bit, hw S x 0 1 (by omega) (by omega)]
def ABOk (cl : Nat → List D → M D) : Prop := ∀ (S : Store) (t : List Int) (M : Nat) (ni : Int), Bt t M → ni = (M : Int) → M ≤ 64 → cl 6 [tI t, .int ni] S = .ok (.bl true) S
theorem areb_spec {C : Ev.Ctx} {S : Store} {t : List Int} {M : Nat} {ni : Int} (hb : BiOk C.cl) (ht : Bt t M) (hn : ni = (M : Int)) (hM : M ≤ 64) : runF C fd_are_bits [tI t, .int ni] S = .ok (.bl true) S := by
  have ti : ∀ m, doBi (.isinst .tTuple) m [tI t] S = .ok (.bl true) S := fun m => b_isiT
  have ln : ∀ m, doBi .len m [tI t] S = .ok (.int ni) S := fun m => by rw [lenI, ht.len, hn]
  simp only [run_eq, ss_nil, ss_cons, s_nm, s_asg, s_par, par2, par3, s_aug, augD_add, augD_sub, s_augIx, augX_add, augX_sub, s_expr, s_ret, s_retN, s_pass, s_brk, s_cont, s_ite, s_for, s_while, seqF_nx, seqF_rt, seqF_bk, seqF_ct, fnD_rt, fnD_nx, g_nm, g_tp, g_ix, gs_nil, gs_cons, e_int, e_bl, e_non, e_str, e_var, getV_0, getV_s, e_gl, opt_some, e_bin, e_neg, negD_int, e_not, notD_bl, e_and, e_or, bE_app, bolD_bl, okM_app, e_cmp, e_chain, chE_app, e_ite, e_tup, e_lst, e_ix, e_rev, e_slA, e_slL, e_slH, e_slLH, sl1_L, sl1_H, sl2_LH, e_call, e_bi, e_mt, mtE_bits, mtE_app, mtE_ext, mtE_pop, e_pcall, sl2E_int, augE_ref, noX_ok, e_comp, es_nil, es_cons, ifD_bl, ifD_t, ifD_f, b_ok, b_assoc, fTurn_eq, turn_eq, inT_some, inC_some, soE_app, evT_nil, evT_one, t_nm, t_tp, ts_nil, ts_cons, mkL_f, mkL_t, o_add, o_sub, c_lt, c_le, c_gt, c_ge, c_eqI, c_neI, b_int, b_intB, b_abs, b_max2, b_min2, b_gcd, b_lenT, b_lenL, b_lenS, b_tupT, b_tupL, b_lstT, b_lstL, b_isiT, b_isiI, b_isiB, revT, revL, ixT0, ixT1, ixT2, ixL0, ixL1, isI, q_vlT, q_vlL, q_vlS, q_enT, q_enL, q_zpTT, q_zpTL, q_zpLT, q_zpLL, forD_some, List.set_cons_zero, List.set_cons_succ, List.map_cons, List.map_nil, List.length_cons, List.length_nil, List.cons_append, List.nil_append, List.replicate_succ, List.replicate_zero, Nat.reduceAdd, Nat.reduceSub, Nat.reduceEqDiff, if_true, Option.bind_some, wipeD, decide_true, decide_false, not_true_eq_false, not_false_eq_true, Bool.false_eq_true, if_false, Bool.not_true, Bool.not_false, ne_eq, fd_are_bits, ti, ln, srcI, compD_some (limI (l := t) (by rw [ht.len]; omega))]
  rw [comp_map (h := D.int) (fun _ => D.bl true) fun x hx => by simp only [run_eq, ss_nil, ss_cons, s_nm, s_asg, s_par, par2, par3, s_aug, augD_add, augD_sub, s_augIx, augX_add, augX_sub, s_expr, s_ret, s_retN, s_pass, s_brk, s_cont, s_ite, s_for, s_while, seqF_nx, seqF_rt, seqF_bk, seqF_ct, fnD_rt, fnD_nx, g_nm, g_tp, g_ix, gs_nil, gs_cons, e_int, e_bl, e_non, e_str, e_var, getV_0, getV_s, e_gl, opt_some, e_bin, e_neg, negD_int, e_not, notD_bl, e_and, e_or, bE_app, bolD_bl, okM_app, e_cmp, e_chain, chE_app, e_ite, e_tup, e_lst, e_ix, e_rev, e_slA, e_slL, e_slH, e_slLH, sl1_L, sl1_H, sl2_LH, e_call, e_bi, e_mt, mtE_bits, mtE_app, mtE_ext, mtE_pop, e_pcall, sl2E_int, augE_ref, noX_ok, e_comp, es_nil, es_cons, ifD_bl, ifD_t, ifD_f, b_ok, b_assoc, fTurn_eq, turn_eq, inT_some, inC_some, soE_app, evT_nil, evT_one, t_nm, t_tp, ts_nil, ts_cons, mkL_f, mkL_t, o_add, o_sub, c_lt, c_le, c_gt, c_ge, c_eqI, c_neI, b_int, b_intB, b_abs, b_max2, b_min2, b_gcd, b_lenT, b_lenL, b_lenS, b_tupT, b_tupL, b_lstT, b_lstL, b_isiT, b_isiI, b_isiB, revT, revL, ixT0, ixT1, ixT2, ixL0, ixL1, isI, q_vlT, q_vlL, q_vlS, q_enT, q_enL, q_zpTT, q_zpTL, q_zpLT, q_zpLL, forD_some, List.set_cons_zero, List.set_cons_succ, List.map_cons, List.map_nil, List.length_cons, List.length_nil, List.cons_append, List.nil_append, List.replicate_succ, List.replicate_zero, Nat.reduceAdd, Nat.reduceSub, Nat.reduceEqDiff, if_true, Option.bind_some, wipeD, decide_true, decide_false, not_true_eq_false, not_false_eq_true, Bool.false_eq_true, if_false, Bool.not_true, Bool.not_false, ne_eq, hb S x (ht.bit x hx)]]
  simp only [run_eq, ss_nil, ss_cons, s_nm, s_asg, s_par, par2, par3, s_aug, augD_add, augD_sub, s_augIx, augX_add, augX_sub, s_expr, s_ret, s_retN, s_pass, s_brk, s_cont, s_ite, s_for, s_while, seqF_nx, seqF_rt, seqF_bk, seqF_ct, fnD_rt, fnD_nx, g_nm, g_tp, g_ix, gs_nil, gs_cons, e_int, e_bl, e_non, e_str, e_var, getV_0, getV_s, e_gl, opt_some, e_bin, e_neg, negD_int, e_not, notD_bl, e_and, e_or, bE_app, bolD_bl, okM_app, e_cmp, e_chain, chE_app, e_ite, e_tup, e_lst, e_ix, e_rev, e_slA, e_slL, e_slH, e_slLH, sl1_L, sl1_H, sl2_LH, e_call, e_bi, e_mt, mtE_bits, mtE_app, mtE_ext, mtE_pop, e_pcall, sl2E_int, augE_ref, noX_ok, e_comp, es_nil, es_cons, ifD_bl, ifD_t, ifD_f, b_ok, b_assoc, fTurn_eq, turn_eq, inT_some, inC_some, soE_app, evT_nil, evT_one, t_nm, t_tp, ts_nil, ts_cons, mkL_f, mkL_t, o_add, o_sub, c_lt, c_le, c_gt, c_ge, c_eqI, c_neI, b_int, b_intB, b_abs, b_max2, b_min2, b_gcd, b_lenT, b_lenL, b_lenS, b_tupT, b_tupL, b_lstT, b_lstL, b_isiT, b_isiI, b_isiB, revT, revL, ixT0, ixT1, ixT2, ixL0, ixL1, isI, q_vlT, q_vlL, q_vlS, q_enT, q_enL, q_zpTT, q_zpTL, q_zpLT, q_zpLL, forD_some, List.set_cons_zero, List.set_cons_succ, List.map_cons, List.map_nil, List.length_cons, List.length_nil, List.cons_append, List.nil_append, List.replicate_succ, List.replicate_zero, Nat.reduceAdd, Nat.reduceSub, Nat.reduceEqDiff, if_true, Option.bind_some, wipeD, decide_true, decide_false, not_true_eq_false, not_false_eq_true, Bool.false_eq_true, if_false, Bool.not_true, Bool.not_false, ne_eq, all_true]
def RqWOk (cl : Nat → List D → M D) : Prop := ∀ (S : Store) (x lo hi : Int), lo ≤ x → x ≤ hi → cl 11 [.int x, .int lo, .int hi] S = .ok .non S
theorem reqw_spec {C : Ev.Ctx} {S : Store} {x lo hi : Int} (hw : WiOk C.cl) (h1 : lo ≤ x) (h2 : x ≤ hi) : runF C fd_require_within [.int x, .int lo, .int hi] S = .ok .non S := by
  simp only [run_eq, ss_nil, ss_cons, s_nm, s_asg, s_par, par2, par3, s_aug, augD_add, augD_sub, s_augIx, augX_add, augX_sub, s_expr, s_ret, s_retN, s_pass, s_brk, s_cont, s_ite, s_for, s_while, seqF_nx, seqF_rt, seqF_bk, seqF_ct, fnD_rt, fnD_nx, g_nm, g_tp, g_ix, gs_nil, gs_cons, e_int, e_bl, e_non, e_str, e_var, getV_0, getV_s, e_gl, opt_some, e_bin, e_neg, negD_int, e_not, notD_bl, e_and, e_or, bE_app, bolD_bl, okM_app, e_cmp, e_chain, chE_app, e_ite, e_tup, e_lst, e_ix, e_rev, e_slA, e_slL, e_slH, e_slLH, sl1_L, sl1_H, sl2_LH, e_call, e_bi, e_mt, mtE_bits, mtE_app, mtE_ext, mtE_pop, e_pcall, sl2E_int, augE_ref, noX_ok, e_comp, es_nil, es_cons, ifD_bl, ifD_t, ifD_f, b_ok, b_assoc, fTurn_eq, turn_eq, inT_some, inC_some, soE_app, evT_nil, evT_one, t_nm, t_tp, ts_nil, ts_cons, mkL_f, mkL_t, o_add, o_sub, c_lt, c_le, c_gt, c_ge, c_eqI, c_neI, b_int, b_intB, b_abs, b_max2, b_min2, b_gcd, b_lenT, b_lenL, b_lenS, b_tupT, b_tupL, b_lstT, b_lstL, b_isiT, b_isiI, b_isiB, revT, revL, ixT0, ixT1, ixT2, ixL0, ixL1, isI, q_vlT, q_vlL, q_vlS, q_enT, q_enL, q_zpTT, q_zpTL, q_zpLT, q_zpLL, forD_some, List.set_cons_zero, List.set_cons_succ, List.map_cons, List.map_nil, List.length_cons, List.length_nil, List.cons_append, List.nil_append, List.replicate_succ, List.replicate_zero, Nat.reduceAdd, Nat.reduceSub, Nat.reduceEqDiff, if_true, Option.bind_some, wipeD, decide_true, decide_false, not_true_eq_false, not_false_eq_true, Bool.false_eq_true, if_false, Bool.not_true, Bool.not_false, ne_eq, fd_require_within, hw S x lo hi h1 h2]
def RowOk (cl : Nat → List D → M D) : Prop := ∀ (S : Store) (B : Int) (l : List Int) (M : Nat) (mi : Int), mi = (M : Int) → M ≤ 64 → Rw B l M → cl 13 [.int mi, DrD B l] S = .ok (.bl true) S
theorem row_spec {C : Ev.Ctx} {S : Store} {B : Int} {l : List Int} {M : Nat} {mi : Int} (hg : C.gv 1 = some (.int 2)) (hw : WOk C.cl) (h1 : mi = (M : Int)) (hM : M ≤ 64) (h : Rw B l M) : runF C fd_is_row_in [.int mi, DrD B l] S = .ok (.bl true) S := by
  have e2 : ((2 : Nat) : Int) = 2 := rfl
  have hpos : ¬ B < 1 := by have := h.pos; omega
  have ti : ∀ m, doBi (.isinst .tTuple) m [tI l] S = .ok (.bl true) S := fun m => b_isiT
  have tt : ∀ m, doBi (.isinst .tTuple) m [DrD B l] S = .ok (.bl true) S := fun m => b_isiT
  have l2 : ∀ m, doBi .len m [DrD B l] S = .ok (.int 2) S := fun m => b_lenT
  have ln : ∀ m, doBi .len m [tI l] S = .ok (.int mi) S := fun m => by rw [lenI, h.len, h1]
  simp only [run_eq, ss_nil, ss_cons, s_nm, s_asg, s_par, par2, par3, s_aug, augD_add, augD_sub, s_augIx, augX_add, augX_sub, s_expr, s_ret, s_retN, s_pass, s_brk, s_cont, s_ite, s_for, s_while, seqF_nx, seqF_rt, seqF_bk, seqF_ct, fnD_rt, fnD_nx, g_nm, g_tp, g_ix, gs_nil, gs_cons, e_int, e_bl, e_non, e_str, e_var, getV_0, getV_s, e_gl, opt_some, e_bin, e_neg, negD_int, e_not, notD_bl, e_and, e_or, bE_app, bolD_bl, okM_app, e_cmp, e_chain, chE_app, e_ite, e_tup, e_lst, e_ix, e_rev, e_slA, e_slL, e_slH, e_slLH, sl1_L, sl1_H, sl2_LH, e_call, e_bi, e_mt, mtE_bits, mtE_app, mtE_ext, mtE_pop, e_pcall, sl2E_int, augE_ref, noX_ok, e_comp, es_nil, es_cons, ifD_bl, ifD_t, ifD_f, b_ok, b_assoc, fTurn_eq, turn_eq, inT_some, inC_some, soE_app, evT_nil, evT_one, t_nm, t_tp, ts_nil, ts_cons, mkL_f, mkL_t, o_add, o_sub, c_lt, c_le, c_gt, c_ge, c_eqI, c_neI, b_int, b_intB, b_abs, b_max2, b_min2, b_gcd, b_lenT, b_lenL, b_lenS, b_tupT, b_tupL, b_lstT, b_lstL, b_isiT, b_isiI, b_isiB, revT, revL, ixT0, ixT1, ixT2, ixL0, ixL1, isI, q_vlT, q_vlL, q_vlS, q_enT, q_enL, q_zpTT, q_zpTL, q_zpLT, q_zpLL, forD_some, List.set_cons_zero, List.set_cons_succ, List.map_cons, List.map_nil, List.length_cons, List.length_nil, List.cons_append, List.nil_append, List.replicate_succ, List.replicate_zero, Nat.reduceAdd, Nat.reduceSub, Nat.reduceEqDiff, if_true, Option.bind_some, wipeD, decide_true, decide_false, not_true_eq_false, not_false_eq_true, Bool.false_eq_true, if_false, Bool.not_true, Bool.not_false, ne_eq, fd_is_row_in, hg, hw S, ti, tt, l2, ln, ixD0, ixD1, hpos, e2, srcI, compD_some (limI (l := l) (by rw [h.len]; omega))]
  rw [comp_map (h := D.int) (fun _ => D.bl true) fun x hx => by simp only [run_eq, ss_nil, ss_cons, s_nm, s_asg, s_par, par2, par3, s_aug, augD_add, augD_sub, s_augIx, augX_add, augX_sub, s_expr, s_ret, s_retN, s_pass, s_brk, s_cont, s_ite, s_for, s_while, seqF_nx, seqF_rt, seqF_bk, seqF_ct, fnD_rt, fnD_nx, g_nm, g_tp, g_ix, gs_nil, gs_cons, e_int, e_bl, e_non, e_str, e_var, getV_0, getV_s, e_gl, opt_some, e_bin, e_neg, negD_int, e_not, notD_bl, e_and, e_or, bE_app, bolD_bl, okM_app, e_cmp, e_chain, chE_app, e_ite, e_tup, e_lst, e_ix, e_rev, e_slA, e_slL, e_slH, e_slLH, sl1_L, sl1_H, sl2_LH, e_call, e_bi, e_mt, mtE_bits, mtE_app, mtE_ext, mtE_pop, e_pcall, sl2E_int, augE_ref, noX_ok, e_comp, es_nil, es_cons, ifD_bl, ifD_t, ifD_f, b_ok, b_assoc, fTurn_eq, turn_eq, inT_some, inC_some, soE_app, evT_nil, evT_one, t_nm, t_tp, ts_nil, ts_cons, mkL_f, mkL_t, o_add, o_sub, c_lt, c_le, c_gt, c_ge, c_eqI, c_neI, b_int, b_intB, b_abs, b_max2, b_min2, b_gcd, b_lenT, b_lenL, b_lenS, b_tupT, b_tupL, b_lstT, b_lstL, b_isiT, b_isiI, b_isiB, revT, revL, ixT0, ixT1, ixT2, ixL0, ixL1, isI, q_vlT, q_vlL, q_vlS, q_enT, q_enL, q_zpTT, q_zpTL, q_zpLT, q_zpLL, forD_some, List.set_cons_zero, List.set_cons_succ, List.map_cons, List.map_nil, List.length_cons, List.length_nil, List.cons_append, List.nil_append, List.replicate_succ, List.replicate_zero, Nat.reduceAdd, Nat.reduceSub, Nat.reduceEqDiff, if_true, Option.bind_some, wipeD, decide_true, decide_false, not_true_eq_false, not_false_eq_true, Bool.false_eq_true, if_false, Bool.not_true, Bool.not_false, ne_eq, hw S]]
  simp only [run_eq, ss_nil, ss_cons, s_nm, s_asg, s_par, par2, par3, s_aug, augD_add, augD_sub, s_augIx, augX_add, augX_sub, s_expr, s_ret, s_retN, s_pass, s_brk, s_cont, s_ite, s_for, s_while, seqF_nx, seqF_rt, seqF_bk, seqF_ct, fnD_rt, fnD_nx, g_nm, g_tp, g_ix, gs_nil, gs_cons, e_int, e_bl, e_non, e_str, e_var, getV_0, getV_s, e_gl, opt_some, e_bin, e_neg, negD_int, e_not, notD_bl, e_and, e_or, bE_app, bolD_bl, okM_app, e_cmp, e_chain, chE_app, e_ite, e_tup, e_lst, e_ix, e_rev, e_slA, e_slL, e_slH, e_slLH, sl1_L, sl1_H, sl2_LH, e_call, e_bi, e_mt, mtE_bits, mtE_app, mtE_ext, mtE_pop, e_pcall, sl2E_int, augE_ref, noX_ok, e_comp, es_nil, es_cons, ifD_bl, ifD_t, ifD_f, b_ok, b_assoc, fTurn_eq, turn_eq, inT_some, inC_some, soE_app, evT_nil, evT_one, t_nm, t_tp, ts_nil, ts_cons, mkL_f, mkL_t, o_add, o_sub, c_lt, c_le, c_gt, c_ge, c_eqI, c_neI, b_int, b_intB, b_abs, b_max2, b_min2, b_gcd, b_lenT, b_lenL, b_lenS, b_tupT, b_tupL, b_lstT, b_lstL, b_isiT, b_isiI, b_isiB, revT, revL, ixT0, ixT1, ixT2, ixL0, ixL1, isI, q_vlT, q_vlL, q_vlS, q_enT, q_enL, q_zpTT, q_zpTL, q_zpLT, q_zpLL, forD_some, List.set_cons_zero, List.set_cons_succ, List.map_cons, List.map_nil, List.length_cons, List.length_nil, List.cons_append, List.nil_append, List.replicate_succ, List.replicate_zero, Nat.reduceAdd, Nat.reduceSub, Nat.reduceEqDiff, if_true, Option.bind_some, wipeD, decide_true, decide_false, not_true_eq_false, not_false_eq_true, Bool.false_eq_true, if_false, Bool.not_true, Bool.not_false, ne_eq, all_true]
def PartOk (cl : Nat → List D → M D) : Prop := ∀ (S : Store) (B : Int) (l : List Int) (M : Nat) (mi : Int), mi = (M : Int) → M ≤ 64 → Dr B l M → cl 14 [.int mi, DrD B l] S = .ok (.bl true) S
theorem part_spec {C : Ev.Ctx} {S : Store} {B : Int} {l : List Int} {M : Nat} {mi : Int} (hr : RowOk C.cl) (h1 : mi = (M : Int)) (hM : M ≤ 64) (h : Dr B l M) : runF C fd_is_part_in [.int mi, DrD B l] S = .ok (.bl true) S := by
  simp only [run_eq, ss_nil, ss_cons, s_nm, s_asg, s_par, par2, par3, s_aug, augD_add, augD_sub, s_augIx, augX_add, augX_sub, s_expr, s_ret, s_retN, s_pass, s_brk, s_cont, s_ite, s_for, s_while, seqF_nx, seqF_rt, seqF_bk, seqF_ct, fnD_rt, fnD_nx, g_nm, g_tp, g_ix, gs_nil, gs_cons, e_int, e_bl, e_non, e_str, e_var, getV_0, getV_s, e_gl, opt_some, e_bin, e_neg, negD_int, e_not, notD_bl, e_and, e_or, bE_app, bolD_bl, okM_app, e_cmp, e_chain, chE_app, e_ite, e_tup, e_lst, e_ix, e_rev, e_slA, e_slL, e_slH, e_slLH, sl1_L, sl1_H, sl2_LH, e_call, e_bi, e_mt, mtE_bits, mtE_app, mtE_ext, mtE_pop, e_pcall, sl2E_int, augE_ref, noX_ok, e_comp, es_nil, es_cons, ifD_bl, ifD_t, ifD_f, b_ok, b_assoc, fTurn_eq, turn_eq, inT_some, inC_some, soE_app, evT_nil, evT_one, t_nm, t_tp, ts_nil, ts_cons, mkL_f, mkL_t, o_add, o_sub, c_lt, c_le, c_gt, c_ge, c_eqI, c_neI, b_int, b_intB, b_abs, b_max2, b_min2, b_gcd, b_lenT, b_lenL, b_lenS, b_tupT, b_tupL, b_lstT, b_lstL, b_isiT, b_isiI, b_isiB, revT, revL, ixT0, ixT1, ixT2, ixL0, ixL1, isI, q_vlT, q_vlL, q_vlS, q_enT, q_enL, q_zpTT, q_zpTL, q_zpLT, q_zpLL, forD_some, List.set_cons_zero, List.set_cons_succ, List.map_cons, List.map_nil, List.length_cons, List.length_nil, List.cons_append, List.nil_append, List.replicate_succ, List.replicate_zero, Nat.reduceAdd, Nat.reduceSub, Nat.reduceEqDiff, if_true, Option.bind_some, wipeD, decide_true, decide_false, not_true_eq_false, not_false_eq_true, Bool.false_eq_true, if_false, Bool.not_true, Bool.not_false, ne_eq, fd_is_part_in, hr S B l M mi h1 hM h.rw, ixD1, srcI, compD_some (limI (l := l) (by rw [h.rw.len]; omega))]
  rw [comp_map (h := D.int) (fun _ => D.bl true) fun x hx => by
    have a := (h.rw.nn x hx).1
    have b := h.le hx
    simp only [run_eq, ss_nil, ss_cons, s_nm, s_asg, s_par, par2, par3, s_aug, augD_add, augD_sub, s_augIx, augX_add, augX_sub, s_expr, s_ret, s_retN, s_pass, s_brk, s_cont, s_ite, s_for, s_while, seqF_nx, seqF_rt, seqF_bk, seqF_ct, fnD_rt, fnD_nx, g_nm, g_tp, g_ix, gs_nil, gs_cons, e_int, e_bl, e_non, e_str, e_var, getV_0, getV_s, e_gl, opt_some, e_bin, e_neg, negD_int, e_not, notD_bl, e_and, e_or, bE_app, bolD_bl, okM_app, e_cmp, e_chain, chE_app, e_ite, e_tup, e_lst, e_ix, e_rev, e_slA, e_slL, e_slH, e_slLH, sl1_L, sl1_H, sl2_LH, e_call, e_bi, e_mt, mtE_bits, mtE_app, mtE_ext, mtE_pop, e_pcall, sl2E_int, augE_ref, noX_ok, e_comp, es_nil, es_cons, ifD_bl, ifD_t, ifD_f, b_ok, b_assoc, fTurn_eq, turn_eq, inT_some, inC_some, soE_app, evT_nil, evT_one, t_nm, t_tp, ts_nil, ts_cons, mkL_f, mkL_t, o_add, o_sub, c_lt, c_le, c_gt, c_ge, c_eqI, c_neI, b_int, b_intB, b_abs, b_max2, b_min2, b_gcd, b_lenT, b_lenL, b_lenS, b_tupT, b_tupL, b_lstT, b_lstL, b_isiT, b_isiI, b_isiB, revT, revL, ixT0, ixT1, ixT2, ixL0, ixL1, isI, q_vlT, q_vlL, q_vlS, q_enT, q_enL, q_zpTT, q_zpTL, q_zpLT, q_zpLL, forD_some, List.set_cons_zero, List.set_cons_succ, List.map_cons, List.map_nil, List.length_cons, List.length_nil, List.cons_append, List.nil_append, List.replicate_succ, List.replicate_zero, Nat.reduceAdd, Nat.reduceSub, Nat.reduceEqDiff, if_true, Option.bind_some, wipeD, decide_true, decide_false, not_true_eq_false, not_false_eq_true, Bool.false_eq_true, if_false, Bool.not_true, Bool.not_false, ne_eq, ixD0, a, b]]
  simp only [run_eq, ss_nil, ss_cons, s_nm, s_asg, s_par, par2, par3, s_aug, augD_add, augD_sub, s_augIx, augX_add, augX_sub, s_expr, s_ret, s_retN, s_pass, s_brk, s_cont, s_ite, s_for, s_while, seqF_nx, seqF_rt, seqF_bk, seqF_ct, fnD_rt, fnD_nx, g_nm, g_tp, g_ix, gs_nil, gs_cons, e_int, e_bl, e_non, e_str, e_var, getV_0, getV_s, e_gl, opt_some, e_bin, e_neg, negD_int, e_not, notD_bl, e_and, e_or, bE_app, bolD_bl, okM_app, e_cmp, e_chain, chE_app, e_ite, e_tup, e_lst, e_ix, e_rev, e_slA, e_slL, e_slH, e_slLH, sl1_L, sl1_H, sl2_LH, e_call, e_bi, e_mt, mtE_bits, mtE_app, mtE_ext, mtE_pop, e_pcall, sl2E_int, augE_ref, noX_ok, e_comp, es_nil, es_cons, ifD_bl, ifD_t, ifD_f, b_ok, b_assoc, fTurn_eq, turn_eq, inT_some, inC_some, soE_app, evT_nil, evT_one, t_nm, t_tp, ts_nil, ts_cons, mkL_f, mkL_t, o_add, o_sub, c_lt, c_le, c_gt, c_ge, c_eqI, c_neI, b_int, b_intB, b_abs, b_max2, b_min2, b_gcd, b_lenT, b_lenL, b_lenS, b_tupT, b_tupL, b_lstT, b_lstL, b_isiT, b_isiI, b_isiB, revT, revL, ixT0, ixT1, ixT2, ixL0, ixL1, isI, q_vlT, q_vlL, q_vlS, q_enT, q_enL, q_zpTT, q_zpTL, q_zpLT, q_zpLL, forD_some, List.set_cons_zero, List.set_cons_succ, List.map_cons, List.map_nil, List.length_cons, List.length_nil, List.cons_append, List.nil_append, List.replicate_succ, List.replicate_zero, Nat.reduceAdd, Nat.reduceSub, Nat.reduceEqDiff, if_true, Option.bind_some, wipeD, decide_true, decide_false, not_true_eq_false, not_false_eq_true, Bool.false_eq_true, if_false, Bool.not_true, Bool.not_false, ne_eq, all_true]
def MixOk (cl : Nat → List D → M D) : Prop := ∀ (S : Store) (B : Int) (l : List Int) (M : Nat) (mi : Int), mi = (M : Int) → M ≤ 64 → Dr B l M → cl 15 [.int mi, DrD B l] S = .ok (.bl true) S
theorem mix_spec {C : Ev.Ctx} {S : Store} {B : Int} {l : List Int} {M : Nat} {mi : Int} (hr : PartOk C.cl) (h1 : mi = (M : Int)) (hM : M ≤ 64) (h : Dr B l M) : runF C fd_is_mix_in [.int mi, DrD B l] S = .ok (.bl true) S := by
  have sm : ∀ m, doBi .sum m [tI l] S = .ok (.int B) S := fun m => by rw [← h.sum]; exact b_sumT
  simp only [run_eq, ss_nil, ss_cons, s_nm, s_asg, s_par, par2, par3, s_aug, augD_add, augD_sub, s_augIx, augX_add, augX_sub, s_expr, s_ret, s_retN, s_pass, s_brk, s_cont, s_ite, s_for, s_while, seqF_nx, seqF_rt, seqF_bk, seqF_ct, fnD_rt, fnD_nx, g_nm, g_tp, g_ix, gs_nil, gs_cons, e_int, e_bl, e_non, e_str, e_var, getV_0, getV_s, e_gl, opt_some, e_bin, e_neg, negD_int, e_not, notD_bl, e_and, e_or, bE_app, bolD_bl, okM_app, e_cmp, e_chain, chE_app, e_ite, e_tup, e_lst, e_ix, e_rev, e_slA, e_slL, e_slH, e_slLH, sl1_L, sl1_H, sl2_LH, e_call, e_bi, e_mt, mtE_bits, mtE_app, mtE_ext, mtE_pop, e_pcall, sl2E_int, augE_ref, noX_ok, e_comp, es_nil, es_cons, ifD_bl, ifD_t, ifD_f, b_ok, b_assoc, fTurn_eq, turn_eq, inT_some, inC_some, soE_app, evT_nil, evT_one, t_nm, t_tp, ts_nil, ts_cons, mkL_f, mkL_t, o_add, o_sub, c_lt, c_le, c_gt, c_ge, c_eqI, c_neI, b_int, b_intB, b_abs, b_max2, b_min2, b_gcd, b_lenT, b_lenL, b_lenS, b_tupT, b_tupL, b_lstT, b_lstL, b_isiT, b_isiI, b_isiB, revT, revL, ixT0, ixT1, ixT2, ixL0, ixL1, isI, q_vlT, q_vlL, q_vlS, q_enT, q_enL, q_zpTT, q_zpTL, q_zpLT, q_zpLL, forD_some, List.set_cons_zero, List.set_cons_succ, List.map_cons, List.map_nil, List.length_cons, List.length_nil, List.cons_append, List.nil_append, List.replicate_succ, List.replicate_zero, Nat.reduceAdd, Nat.reduceSub, Nat.reduceEqDiff, if_true, Option.bind_some, wipeD, decide_true, decide_false, not_true_eq_false, not_false_eq_true, Bool.false_eq_true, if_false, Bool.not_true, Bool.not_false, ne_eq, fd_is_mix_in, hr S B l M mi h1 hM h, ixD1, ixD0, sm]
def RqDOk (cl : Nat → List D → M D) : Prop := ∀ (S : Store) (B : Int) (l : List Int) (M : Nat) (mi : Int), mi = (M : Int) → M ≤ 64 → Dr B l M → cl 16 [.int mi, DrD B l] S = .ok .non S
theorem reqd_spec {C : Ev.Ctx} {S : Store} {B : Int} {l : List Int} {M : Nat} {mi : Int} (hr : MixOk C.cl) (h1 : mi = (M : Int)) (hM : M ≤ 64) (h : Dr B l M) : runF C fd_require_draw [.int mi, DrD B l] S = .ok .non S := by
  simp only [run_eq, ss_nil, ss_cons, s_nm, s_asg, s_par, par2, par3, s_aug, augD_add, augD_sub, s_augIx, augX_add, augX_sub, s_expr, s_ret, s_retN, s_pass, s_brk, s_cont, s_ite, s_for, s_while, seqF_nx, seqF_rt, seqF_bk, seqF_ct, fnD_rt, fnD_nx, g_nm, g_tp, g_ix, gs_nil, gs_cons, e_int, e_bl, e_non, e_str, e_var, getV_0, getV_s, e_gl, opt_some, e_bin, e_neg, negD_int, e_not, notD_bl, e_and, e_or, bE_app, bolD_bl, okM_app, e_cmp, e_chain, chE_app, e_ite, e_tup, e_lst, e_ix, e_rev, e_slA, e_slL, e_slH, e_slLH, sl1_L, sl1_H, sl2_LH, e_call, e_bi, e_mt, mtE_bits, mtE_app, mtE_ext, mtE_pop, e_pcall, sl2E_int, augE_ref, noX_ok, e_comp, es_nil, es_cons, ifD_bl, ifD_t, ifD_f, b_ok, b_assoc, fTurn_eq, turn_eq, inT_some, inC_some, soE_app, evT_nil, evT_one, t_nm, t_tp, ts_nil, ts_cons, mkL_f, mkL_t, o_add, o_sub, c_lt, c_le, c_gt, c_ge, c_eqI, c_neI, b_int, b_intB, b_abs, b_max2, b_min2, b_gcd, b_lenT, b_lenL, b_lenS, b_tupT, b_tupL, b_lstT, b_lstL, b_isiT, b_isiI, b_isiB, revT, revL, ixT0, ixT1, ixT2, ixL0, ixL1, isI, q_vlT, q_vlL, q_vlS, q_enT, q_enL, q_zpTT, q_zpTL, q_zpLT, q_zpLL, forD_some, List.set_cons_zero, List.set_cons_succ, List.map_cons, List.map_nil, List.length_cons, List.length_nil, List.cons_append, List.nil_append, List.replicate_succ, List.replicate_zero, Nat.reduceAdd, Nat.reduceSub, Nat.reduceEqDiff, if_true, Option.bind_some, wipeD, decide_true, decide_false, not_true_eq_false, not_false_eq_true, Bool.false_eq_true, if_false, Bool.not_true, Bool.not_false, ne_eq, fd_require_draw, hr S B l M mi h1 hM h]
theorem shl1 {m : Nat} {mi : Int} {b : Bool} {S : Store} (h : mi = (m : Int)) (h2 : m ≤ 6) : doOp .shl b (.int 1) (.int mi) S = .ok (.int ((2 ^ m : Nat) : Int)) S := by
  have e : m = 0 ∨ m = 1 ∨ m = 2 ∨ m = 3 ∨ m = 4 ∨ m = 5 ∨ m = 6 := by omega
  subst h
  rcases e with rfl | rfl | rfl | rfl | rfl | rfl | rfl <;> simp [doOp, op2, oInt]
theorem pow_le {m : Nat} (h : m ≤ 4) : 2 ^ m ≤ 16 := by
  have : 2 ^ m ≤ 2 ^ 4 := Nat.pow_le_pow_right (by decide) h
  omega
def RqWsOk (cl : Nat → List D → M D) : Prop := ∀ (S : Store) (B : Int) (l : List Int) (m : Nat) (mi : Int), mi = (m : Int) → 1 ≤ m → m ≤ 4 → Dr B l (2 ^ m) → cl 22 [.int mi, DrD B l] S = .ok .non S
theorem reqws_spec {C : Ev.Ctx} {S : Store} {B : Int} {l : List Int} {m : Nat} {mi : Int} (hg : C.gv 17 = some (.int 6)) (hr : RqDOk C.cl) (hw : RqWOk C.cl) (h1 : mi = (m : Int)) (h2 : 1 ≤ m) (h3 : m ≤ 4) (h : Dr B l (2 ^ m)) : runF C fd_require_words [.int mi, DrD B l] S = .ok .non S := by
  have p := pow_le h3
  have q := hr S B l (2 ^ m) _ rfl (by omega) h
  have s := fun b S => shl1 (b := b) (S := S) h1 (show m ≤ 6 by omega)
  generalize ((2 ^ m : Nat) : Int) = z at q s
  simp only [run_eq, ss_nil, ss_cons, s_nm, s_asg, s_par, par2, par3, s_aug, augD_add, augD_sub, s_augIx, augX_add, augX_sub, s_expr, s_ret, s_retN, s_pass, s_brk, s_cont, s_ite, s_for, s_while, seqF_nx, seqF_rt, seqF_bk, seqF_ct, fnD_rt, fnD_nx, g_nm, g_tp, g_ix, gs_nil, gs_cons, e_int, e_bl, e_non, e_str, e_var, getV_0, getV_s, e_gl, opt_some, e_bin, e_neg, negD_int, e_not, notD_bl, e_and, e_or, bE_app, bolD_bl, okM_app, e_cmp, e_chain, chE_app, e_ite, e_tup, e_lst, e_ix, e_rev, e_slA, e_slL, e_slH, e_slLH, sl1_L, sl1_H, sl2_LH, e_call, e_bi, e_mt, mtE_bits, mtE_app, mtE_ext, mtE_pop, e_pcall, sl2E_int, augE_ref, noX_ok, e_comp, es_nil, es_cons, ifD_bl, ifD_t, ifD_f, b_ok, b_assoc, fTurn_eq, turn_eq, inT_some, inC_some, soE_app, evT_nil, evT_one, t_nm, t_tp, ts_nil, ts_cons, mkL_f, mkL_t, o_add, o_sub, c_lt, c_le, c_gt, c_ge, c_eqI, c_neI, b_int, b_intB, b_abs, b_max2, b_min2, b_gcd, b_lenT, b_lenL, b_lenS, b_tupT, b_tupL, b_lstT, b_lstL, b_isiT, b_isiI, b_isiB, revT, revL, ixT0, ixT1, ixT2, ixL0, ixL1, isI, q_vlT, q_vlL, q_vlS, q_enT, q_enL, q_zpTT, q_zpTL, q_zpLT, q_zpLL, forD_some, List.set_cons_zero, List.set_cons_succ, List.map_cons, List.map_nil, List.length_cons, List.length_nil, List.cons_append, List.nil_append, List.replicate_succ, List.replicate_zero, Nat.reduceAdd, Nat.reduceSub, Nat.reduceEqDiff, if_true, Option.bind_some, wipeD, decide_true, decide_false, not_true_eq_false, not_false_eq_true, Bool.false_eq_true, if_false, Bool.not_true, Bool.not_false, ne_eq, fd_require_words, hg, hw S mi 1 6 (by omega) (by omega), s, q]
def RqBOk (cl : Nat → List D → M D) : Prop := ∀ (S : Store) (t : List Int) (M : Nat) (ni : Int), Bt t M → ni = (M : Int) → M ≤ 64 → cl 23 [tI t, .int ni] S = .ok .non S
theorem reqb_spec {C : Ev.Ctx} {S : Store} {t : List Int} {M : Nat} {ni : Int} (hb : ABOk C.cl) (ht : Bt t M) (hn : ni = (M : Int)) (hM : M ≤ 64) : runF C fd_require_bits [tI t, .int ni] S = .ok .non S := by
  simp only [run_eq, ss_nil, ss_cons, s_nm, s_asg, s_par, par2, par3, s_aug, augD_add, augD_sub, s_augIx, augX_add, augX_sub, s_expr, s_ret, s_retN, s_pass, s_brk, s_cont, s_ite, s_for, s_while, seqF_nx, seqF_rt, seqF_bk, seqF_ct, fnD_rt, fnD_nx, g_nm, g_tp, g_ix, gs_nil, gs_cons, e_int, e_bl, e_non, e_str, e_var, getV_0, getV_s, e_gl, opt_some, e_bin, e_neg, negD_int, e_not, notD_bl, e_and, e_or, bE_app, bolD_bl, okM_app, e_cmp, e_chain, chE_app, e_ite, e_tup, e_lst, e_ix, e_rev, e_slA, e_slL, e_slH, e_slLH, sl1_L, sl1_H, sl2_LH, e_call, e_bi, e_mt, mtE_bits, mtE_app, mtE_ext, mtE_pop, e_pcall, sl2E_int, augE_ref, noX_ok, e_comp, es_nil, es_cons, ifD_bl, ifD_t, ifD_f, b_ok, b_assoc, fTurn_eq, turn_eq, inT_some, inC_some, soE_app, evT_nil, evT_one, t_nm, t_tp, ts_nil, ts_cons, mkL_f, mkL_t, o_add, o_sub, c_lt, c_le, c_gt, c_ge, c_eqI, c_neI, b_int, b_intB, b_abs, b_max2, b_min2, b_gcd, b_lenT, b_lenL, b_lenS, b_tupT, b_tupL, b_lstT, b_lstL, b_isiT, b_isiI, b_isiB, revT, revL, ixT0, ixT1, ixT2, ixL0, ixL1, isI, q_vlT, q_vlL, q_vlS, q_enT, q_enL, q_zpTT, q_zpTL, q_zpLT, q_zpLL, forD_some, List.set_cons_zero, List.set_cons_succ, List.map_cons, List.map_nil, List.length_cons, List.length_nil, List.cons_append, List.nil_append, List.replicate_succ, List.replicate_zero, Nat.reduceAdd, Nat.reduceSub, Nat.reduceEqDiff, if_true, Option.bind_some, wipeD, decide_true, decide_false, not_true_eq_false, not_false_eq_true, Bool.false_eq_true, if_false, Bool.not_true, Bool.not_false, ne_eq, fd_require_bits, hb S t M ni ht hn hM]
/-- what tells rows in lowest terms -/
def LsOk (f : List D → M D) : Prop := ∀ (S : Store) (B : Int) (l : List Int), 0 < B → B < 2 ^ 8000 → l.length ≤ 1000 → f [.tup [.int B, tI l]] S = .ok (lsD B l) S
theorem drawof_spec {C : Ev.Ctx} {S : Store} {l : List Int} {m : Nat} {mi : Int} (hg : C.gv 17 = some (.int 6)) (hi : IgOk C.cl) (hw : RqWOk C.cl) (hl : LsOk (C.cl 12)) (h1 : mi = (m : Int)) (h2 : 1 ≤ m) (h3 : m ≤ 4) (hn : l.length = 2 ^ m)
    (hb : ∀ x, x ∈ l → 0 ≤ x ∧ x < 1000000000) (hs : 0 < l.sum) (hs2 : l.sum < 2 ^ 8000) : runF C fd_draw_of [.int mi, tI l] S = .ok (lsD l.sum l) S := by
  have p := pow_le h3
  have ti : ∀ m, doBi (.isinst .tTuple) m [tI l] S = .ok (.bl true) S := fun m => b_isiT
  have ln : ∀ b, doBi .len b [tI l] S = .ok (.int ((2 ^ m : Nat) : Int)) S := fun b => by rw [lenI, hn]
  have s := fun b S => shl1 (b := b) (S := S) h1 (show m ≤ 6 by omega)
  have sm : ∀ m, doBi .sum m [tI l] S = .ok (.int l.sum) S := fun m => b_sumT
  have q := hl S l.sum l hs hs2 (by omega)
  have ne : ¬ l.sum = 0 := by omega
  generalize ((2 ^ m : Nat) : Int) = z at ln s
  simp only [run_eq, ss_nil, ss_cons, s_nm, s_asg, s_par, par2, par3, s_aug, augD_add, augD_sub, s_augIx, augX_add, augX_sub, s_expr, s_ret, s_retN, s_pass, s_brk, s_cont, s_ite, s_for, s_while, seqF_nx, seqF_rt, seqF_bk, seqF_ct, fnD_rt, fnD_nx, g_nm, g_tp, g_ix, gs_nil, gs_cons, e_int, e_bl, e_non, e_str, e_var, getV_0, getV_s, e_gl, opt_some, e_bin, e_neg, negD_int, e_not, notD_bl, e_and, e_or, bE_app, bolD_bl, okM_app, e_cmp, e_chain, chE_app, e_ite, e_tup, e_lst, e_ix, e_rev, e_slA, e_slL, e_slH, e_slLH, sl1_L, sl1_H, sl2_LH, e_call, e_bi, e_mt, mtE_bits, mtE_app, mtE_ext, mtE_pop, e_pcall, sl2E_int, augE_ref, noX_ok, e_comp, es_nil, es_cons, ifD_bl, ifD_t, ifD_f, b_ok, b_assoc, fTurn_eq, turn_eq, inT_some, inC_some, soE_app, evT_nil, evT_one, t_nm, t_tp, ts_nil, ts_cons, mkL_f, mkL_t, o_add, o_sub, c_lt, c_le, c_gt, c_ge, c_eqI, c_neI, b_int, b_intB, b_abs, b_max2, b_min2, b_gcd, b_lenT, b_lenL, b_lenS, b_tupT, b_tupL, b_lstT, b_lstL, b_isiT, b_isiI, b_isiB, revT, revL, ixT0, ixT1, ixT2, ixL0, ixL1, isI, q_vlT, q_vlL, q_vlS, q_enT, q_enL, q_zpTT, q_zpTL, q_zpLT, q_zpLL, forD_some, List.set_cons_zero, List.set_cons_succ, List.map_cons, List.map_nil, List.length_cons, List.length_nil, List.cons_append, List.nil_append, List.replicate_succ, List.replicate_zero, Nat.reduceAdd, Nat.reduceSub, Nat.reduceEqDiff, if_true, Option.bind_some, wipeD, decide_true, decide_false, not_true_eq_false, not_false_eq_true, Bool.false_eq_true, if_false, Bool.not_true, Bool.not_false, ne_eq, fd_draw_of, hg, hw S mi 1 6 (by omega) (by omega), ti, ln, s, srcI, compD_some (limI (l := l) (by omega))]
  rw [comp_map (h := D.int) (fun _ => D.bl true) fun x hx => by
    have a := (hb x hx).1
    have b := (hb x hx).2
    simp only [run_eq, ss_nil, ss_cons, s_nm, s_asg, s_par, par2, par3, s_aug, augD_add, augD_sub, s_augIx, augX_add, augX_sub, s_expr, s_ret, s_retN, s_pass, s_brk, s_cont, s_ite, s_for, s_while, seqF_nx, seqF_rt, seqF_bk, seqF_ct, fnD_rt, fnD_nx, g_nm, g_tp, g_ix, gs_nil, gs_cons, e_int, e_bl, e_non, e_str, e_var, getV_0, getV_s, e_gl, opt_some, e_bin, e_neg, negD_int, e_not, notD_bl, e_and, e_or, bE_app, bolD_bl, okM_app, e_cmp, e_chain, chE_app, e_ite, e_tup, e_lst, e_ix, e_rev, e_slA, e_slL, e_slH, e_slLH, sl1_L, sl1_H, sl2_LH, e_call, e_bi, e_mt, mtE_bits, mtE_app, mtE_ext, mtE_pop, e_pcall, sl2E_int, augE_ref, noX_ok, e_comp, es_nil, es_cons, ifD_bl, ifD_t, ifD_f, b_ok, b_assoc, fTurn_eq, turn_eq, inT_some, inC_some, soE_app, evT_nil, evT_one, t_nm, t_tp, ts_nil, ts_cons, mkL_f, mkL_t, o_add, o_sub, c_lt, c_le, c_gt, c_ge, c_eqI, c_neI, b_int, b_intB, b_abs, b_max2, b_min2, b_gcd, b_lenT, b_lenL, b_lenS, b_tupT, b_tupL, b_lstT, b_lstL, b_isiT, b_isiI, b_isiB, revT, revL, ixT0, ixT1, ixT2, ixL0, ixL1, isI, q_vlT, q_vlL, q_vlS, q_enT, q_enL, q_zpTT, q_zpTL, q_zpLT, q_zpLL, forD_some, List.set_cons_zero, List.set_cons_succ, List.map_cons, List.map_nil, List.length_cons, List.length_nil, List.cons_append, List.nil_append, List.replicate_succ, List.replicate_zero, Nat.reduceAdd, Nat.reduceSub, Nat.reduceEqDiff, if_true, Option.bind_some, wipeD, decide_true, decide_false, not_true_eq_false, not_false_eq_true, Bool.false_eq_true, if_false, Bool.not_true, Bool.not_false, ne_eq, hi S x a b, a]]
  simp only [run_eq, ss_nil, ss_cons, s_nm, s_asg, s_par, par2, par3, s_aug, augD_add, augD_sub, s_augIx, augX_add, augX_sub, s_expr, s_ret, s_retN, s_pass, s_brk, s_cont, s_ite, s_for, s_while, seqF_nx, seqF_rt, seqF_bk, seqF_ct, fnD_rt, fnD_nx, g_nm, g_tp, g_ix, gs_nil, gs_cons, e_int, e_bl, e_non, e_str, e_var, getV_0, getV_s, e_gl, opt_some, e_bin, e_neg, negD_int, e_not, notD_bl, e_and, e_or, bE_app, bolD_bl, okM_app, e_cmp, e_chain, chE_app, e_ite, e_tup, e_lst, e_ix, e_rev, e_slA, e_slL, e_slH, e_slLH, sl1_L, sl1_H, sl2_LH, e_call, e_bi, e_mt, mtE_bits, mtE_app, mtE_ext, mtE_pop, e_pcall, sl2E_int, augE_ref, noX_ok, e_comp, es_nil, es_cons, ifD_bl, ifD_t, ifD_f, b_ok, b_assoc, fTurn_eq, turn_eq, inT_some, inC_some, soE_app, evT_nil, evT_one, t_nm, t_tp, ts_nil, ts_cons, mkL_f, mkL_t, o_add, o_sub, c_lt, c_le, c_gt, c_ge, c_eqI, c_neI, b_int, b_intB, b_abs, b_max2, b_min2, b_gcd, b_lenT, b_lenL, b_lenS, b_tupT, b_tupL, b_lstT, b_lstL, b_isiT, b_isiI, b_isiB, revT, revL, ixT0, ixT1, ixT2, ixL0, ixL1, isI, q_vlT, q_vlL, q_vlS, q_enT, q_enL, q_zpTT, q_zpTL, q_zpLT, q_zpLL, forD_some, List.set_cons_zero, List.set_cons_succ, List.map_cons, List.map_nil, List.length_cons, List.length_nil, List.cons_append, List.nil_append, List.replicate_succ, List.replicate_zero, Nat.reduceAdd, Nat.reduceSub, Nat.reduceEqDiff, if_true, Option.bind_some, wipeD, decide_true, decide_false, not_true_eq_false, not_false_eq_true, Bool.false_eq_true, if_false, Bool.not_true, Bool.not_false, ne_eq, all_true, sm, ne, q]
end LW
namespace LW
open PySem L2 Ev
/-! ### sums over places -/
def sz : Nat → (Nat → Int) → Int
  | 0, _ => 0
  | n + 1, f => sz n f + f n
theorem sz_congr {f g : Nat → Int} : ∀ {n : Nat}, (∀ i, i < n → f i = g i) → sz n f = sz n g
  | 0, _ => rfl
  | n + 1, h => by rw [sz, sz, sz_congr fun i hi => h i (by omega), h n (by omega)]
/-- of the first k places, those that leave y over K -/
def bs (l : List Int) (K y k : Nat) : Int := sz k fun x => if x % K = y then l.getD x 0 else 0
def hyb (l : List Int) (K M : Nat) : List Int := (List.range M).map fun x => bs l K (x % K) M
theorem enum_get {l : List Int} {i : Nat} {x : D} (h : (enumD (l.map D.int) 0)[i]? = some x) : ∃ v, l[i]? = some v ∧ x = .tup [.int (i : Int), .int v] := by
  rw [enum_map, List.getElem?_map, List.getElem?_zipIdx] at h
  cases e : l[i]? with
  | none => rw [e] at h; cases h
  | some v => rw [e] at h; cases h; exact ⟨v, rfl, by simp⟩
theorem enum_len (l : List Int) : (enumD (l.map D.int) 0).length = l.length := by rw [enum_map]; simp
def bsL (l : List Int) (K k : Nat) : List D := (List.range K).map fun y => D.int (bs l K y k)
theorem bsL_len {l : List Int} {K k : Nat} : (bsL l K k).length = K := by simp [bsL]
theorem bsL_get {l : List Int} {K k y : Nat} (h : y < K) : (bsL l K k)[y]? = some (.int (bs l K y k)) := by simp [bsL, h]
theorem bsL_step {l : List Int} {K k : Nat} {v : Int} (hK : 0 < K) (h : l[k]? = some v) : (bsL l K k).set (k % K) (.int (bs l K (k % K) k + v)) = bsL l K (k + 1) := by
  refine List.ext_getElem? fun y => ?_
  by_cases hy : y < K
  · rw [bsL_get hy]
    have hd : l.getD k 0 = v := by rw [List.getD_eq_getElem?_getD, h]; rfl
    by_cases e : k % K = y
    · subst e
      rw [List.getElem?_set_self (by rw [bsL_len]; exact hy)]
      unfold bs; rw [sz, if_pos rfl, hd]
    · rw [List.getElem?_set_ne e, bsL_get hy]
      unfold bs; rw [sz, if_neg e, Int.add_zero]
  · rw [List.getElem?_eq_none (by rw [List.length_set, bsL_len]; omega), List.getElem?_eq_none (by rw [bsL_len]; omega)]
theorem srcE {l : List Int} {S : Store} : srcOf .en [tI l] S = some (enumD (l.map .int) 0, []) := rfl
theorem get_app {S : Store} {c : Cell} : (S ++ [c])[S.length]? = some c := by simp
theorem set_app {S : Store} {c d : Cell} : (S ++ [c]).set S.length d = S ++ [d] := by simp
theorem rep0 : ∀ K : Nat, (List.replicate K [D.int 0]).flatten = (List.range K).map fun _ => D.int 0
  | 0 => rfl
  | K + 1 => by rw [List.replicate_succ', List.flatten_append, rep0 K, List.range_succ, List.map_append]; rfl
theorem begins_spec {C : Ev.Ctx} {S : Store} {B : Int} {l : List Int} {M i : Nat} {ii : Int} (h : Rw B l M) (hM : M ≤ 64) (hi : ii = (i : Int)) (hi6 : i ≤ 6) :
    runF C fd_begins_in [DrD B l, .int ii] S = .ok (.ref S.length) (S ++ [.lst (bsL l (2 ^ i) M)]) := by
  have lg := lim_ge
  obtain ⟨K, hK⟩ : ∃ K, K = 2 ^ i := ⟨_, rfl⟩
  have K1 : 0 < K := by rw [hK]; exact Nat.pow_pos (by decide)
  have K2 : K ≤ 64 := by
    rw [hK]
    have : 2 ^ i ≤ 2 ^ 6 := Nat.pow_le_pow_right (by decide) hi6
    omega
  obtain ⟨Ki, hKi⟩ : ∃ Ki : Int, Ki = (K : Int) := ⟨_, rfl⟩
  have s : ∀ b S, doOp .shl b (.int 1) (.int ii) S = .ok (.int Ki) S := fun b S => by rw [shl1 hi hi6, hKi, hK]
  have hp : 0 < Ki := by omega
  obtain ⟨n0, hn0⟩ : ∃ n0, n0 = S.length := ⟨_, rfl⟩
  refine eq_of_WP ?_
  rw [← hK]
  simp only [run_eq, ss_nil, ss_cons, s_nm, s_asg, s_par, par2, par3, s_aug, augD_add, augD_sub, s_augIx, augX_add, augX_sub, s_expr, s_ret, s_retN, s_pass, s_brk, s_cont, s_ite, s_for, s_while, seqF_nx, seqF_rt, seqF_bk, seqF_ct, fnD_rt, fnD_nx, g_nm, g_tp, g_ix, gs_nil, gs_cons, e_int, e_bl, e_non, e_str, e_var, getV_0, getV_s, e_gl, opt_some, e_bin, e_neg, negD_int, e_not, notD_bl, e_and, e_or, bE_app, bolD_bl, okM_app, e_cmp, e_chain, chE_app, e_ite, e_tup, e_lst, e_ix, e_rev, e_slA, e_slL, e_slH, e_slLH, sl1_L, sl1_H, sl2_LH, e_call, e_bi, e_mt, mtE_bits, mtE_app, mtE_ext, mtE_pop, e_pcall, sl2E_int, augE_ref, noX_ok, e_comp, es_nil, es_cons, ifD_bl, ifD_t, ifD_f, b_ok, b_assoc, fTurn_eq, turn_eq, inT_some, inC_some, soE_app, evT_nil, evT_one, t_nm, t_tp, ts_nil, ts_cons, mkL_f, mkL_t, o_add, o_sub, c_lt, c_le, c_gt, c_ge, c_eqI, c_neI, b_int, b_intB, b_abs, b_max2, b_min2, b_gcd, b_lenT, b_lenL, b_lenS, b_tupT, b_tupL, b_lstT, b_lstL, b_isiT, b_isiI, b_isiB, revT, revL, ixT0, ixT1, ixT2, ixL0, ixL1, isI, q_vlT, q_vlL, q_vlS, q_enT, q_enL, q_zpTT, q_zpTL, q_zpLT, q_zpLL, forD_some, List.set_cons_zero, List.set_cons_succ, List.map_cons, List.map_nil, List.length_cons, List.length_nil, List.cons_append, List.nil_append, List.replicate_succ, List.replicate_zero, Nat.reduceAdd, Nat.reduceSub, Nat.reduceEqDiff, if_true, Option.bind_some, wipeD, fd_begins_in, s, o_mulL' (xs := [D.int 0]) K hKi (by simp; omega) (by omega), rep0, ixD1, srcE]
  rw [← hn0]
  refine WP_call (for_inv (P := fun f S' => ∃ e3 e4, f = Fl.nx [some (DrD B l), some (.int ii), some (.ref n0), e3, e4] ∧ S' = S ++ [.lst (bsL l K M)])
    (fun k env S' => ∃ e3 e4, env = [some (DrD B l), some (.int ii), some (.ref n0), e3, e4] ∧ S' = S ++ [.lst (bsL l K k)]) 0 ⟨none, none, rfl, rfl⟩ ?_ ?_) ?_
  · rintro k env S' x ⟨e3, e4, rfl, rfl⟩ hk _ hx
    rw [Nat.sub_zero] at hx
    obtain ⟨v, hv, rfl⟩ := enum_get hx
    refine ⟨dep_nil, ?_⟩
    obtain ⟨ki, hki⟩ : ∃ ki : Int, ki = (k : Int) := ⟨_, rfl⟩
    have hS : (S ++ [Cell.lst (bsL l K k)])[n0]? = some (.lst (bsL l K k)) := by rw [hn0]; exact get_app
    have hm : ki % Ki = ((k % K : Nat) : Int) := by rw [hki, hKi]; rfl
    have hlt : k % K < K := Nat.mod_lt _ K1
    have hln : ∀ m, doBi .len m [.ref n0] (S ++ [Cell.lst (bsL l K k)]) = .ok (.int Ki) (S ++ [Cell.lst (bsL l K k)]) := fun m => by rw [b_lenR hS, bsL_len, hKi]
    have hix := ixR' (S := S ++ [Cell.lst (bsL l K k)]) hm hS (bsL_get hlt)
    have hset : ∀ d, setIx (.ref n0) (.int (ki % Ki)) d (S ++ [Cell.lst (bsL l K k)]) = .ok () (S ++ [Cell.lst ((bsL l K k).set (k % K) d)]) := fun d => by
      rw [setR' hm hS (by rw [bsL_len]; exact hlt), hn0, set_app]
    rw [← hki]
    simp only [run_eq, ss_nil, ss_cons, s_nm, s_asg, s_par, par2, par3, s_aug, augD_add, augD_sub, s_augIx, augX_add, augX_sub, s_expr, s_ret, s_retN, s_pass, s_brk, s_cont, s_ite, s_for, s_while, seqF_nx, seqF_rt, seqF_bk, seqF_ct, fnD_rt, fnD_nx, g_nm, g_tp, g_ix, gs_nil, gs_cons, e_int, e_bl, e_non, e_str, e_var, getV_0, getV_s, e_gl, opt_some, e_bin, e_neg, negD_int, e_not, notD_bl, e_and, e_or, bE_app, bolD_bl, okM_app, e_cmp, e_chain, chE_app, e_ite, e_tup, e_lst, e_ix, e_rev, e_slA, e_slL, e_slH, e_slLH, sl1_L, sl1_H, sl2_LH, e_call, e_bi, e_mt, mtE_bits, mtE_app, mtE_ext, mtE_pop, e_pcall, sl2E_int, augE_ref, noX_ok, e_comp, es_nil, es_cons, ifD_bl, ifD_t, ifD_f, b_ok, b_assoc, fTurn_eq, turn_eq, inT_some, inC_some, soE_app, evT_nil, evT_one, t_nm, t_tp, ts_nil, ts_cons, mkL_f, mkL_t, o_add, o_sub, c_lt, c_le, c_gt, c_ge, c_eqI, c_neI, b_int, b_intB, b_abs, b_max2, b_min2, b_gcd, b_lenT, b_lenL, b_lenS, b_tupT, b_tupL, b_lstT, b_lstL, b_isiT, b_isiI, b_isiB, revT, revL, ixT0, ixT1, ixT2, ixL0, ixL1, isI, q_vlT, q_vlL, q_vlS, q_enT, q_enL, q_zpTT, q_zpTL, q_zpLT, q_zpLL, forD_some, List.set_cons_zero, List.set_cons_succ, List.map_cons, List.map_nil, List.length_cons, List.length_nil, List.cons_append, List.nil_append, List.replicate_succ, List.replicate_zero, Nat.reduceAdd, Nat.reduceSub, Nat.reduceEqDiff, if_true, Option.bind_some, wipeD, hln, o_mod hp, hix, hset, WP_ok]
    exact ⟨_, _, rfl, by rw [bsL_step K1 hv]⟩
  · rintro env S' ⟨e3, e4, rfl, rfl⟩
    rw [enum_len, h.len, Nat.zero_add]
    exact ⟨dep_nil, _, _, rfl, rfl⟩
  · rintro f S' ⟨e3, e4, rfl, rfl⟩
    simp only [run_eq, ss_nil, ss_cons, s_nm, s_asg, s_par, par2, par3, s_aug, augD_add, augD_sub, s_augIx, augX_add, augX_sub, s_expr, s_ret, s_retN, s_pass, s_brk, s_cont, s_ite, s_for, s_while, seqF_nx, seqF_rt, seqF_bk, seqF_ct, fnD_rt, fnD_nx, g_nm, g_tp, g_ix, gs_nil, gs_cons, e_int, e_bl, e_non, e_str, e_var, getV_0, getV_s, e_gl, opt_some, e_bin, e_neg, negD_int, e_not, notD_bl, e_and, e_or, bE_app, bolD_bl, okM_app, e_cmp, e_chain, chE_app, e_ite, e_tup, e_lst, e_ix, e_rev, e_slA, e_slL, e_slH, e_slLH, sl1_L, sl1_H, sl2_LH, e_call, e_bi, e_mt, mtE_bits, mtE_app, mtE_ext, mtE_pop, e_pcall, sl2E_int, augE_ref, noX_ok, e_comp, es_nil, es_cons, ifD_bl, ifD_t, ifD_f, b_ok, b_assoc, fTurn_eq, turn_eq, inT_some, inC_some, soE_app, evT_nil, evT_one, t_nm, t_tp, ts_nil, ts_cons, mkL_f, mkL_t, o_add, o_sub, c_lt, c_le, c_gt, c_ge, c_eqI, c_neI, b_int, b_intB, b_abs, b_max2, b_min2, b_gcd, b_lenT, b_lenL, b_lenS, b_tupT, b_tupL, b_lstT, b_lstL, b_isiT, b_isiI, b_isiB, revT, revL, ixT0, ixT1, ixT2, ixL0, ixL1, isI, q_vlT, q_vlL, q_vlS, q_enT, q_enL, q_zpTT, q_zpTL, q_zpLT, q_zpLL, forD_some, List.set_cons_zero, List.set_cons_succ, List.map_cons, List.map_nil, List.length_cons, List.length_nil, List.cons_append, List.nil_append, List.replicate_succ, List.replicate_zero, Nat.reduceAdd, Nat.reduceSub, Nat.reduceEqDiff, if_true, Option.bind_some, wipeD, WP_ok]
    first
    | exact ⟨trivial, trivial⟩
    | exact ⟨trivial, rfl⟩
    | exact ⟨rfl, rfl⟩
def BgOk (cl : Nat → List D → M D) : Prop := ∀ (S : Store) (B : Int) (l : List Int) (M i : Nat) (ii : Int), Rw B l M → M ≤ 64 → ii = (i : Int) → i ≤ 6 → cl 19 [DrD B l, .int ii] S = .ok (.ref S.length) (S ++ [.lst (bsL l (2 ^ i) M)])
theorem div_pow {m i : Nat} (h : i ≤ m) : 2 ^ m / 2 ^ i = 2 ^ (m - i) := by
  rw [Nat.div_eq_of_eq_mul_left (Nat.pow_pos (by decide))]
  rw [← Nat.pow_add]; congr 1; omega
theorem hybrid_spec {C : Ev.Ctx} {S : Store} {B : Int} {l : List Int} {m i : Nat} {ii : Int} (hb : BgOk C.cl) (hl : LsOk (C.cl 12)) (h : Rw B l (2 ^ m)) (hm : m ≤ 4) (hi : ii = (i : Int)) (him : i ≤ m) :
    runF C fd_hybrid_in [DrD B l, .int ii] S = .ok (lsD (B * ((2 ^ (m - i) : Nat) : Int)) (hyb l (2 ^ i) (2 ^ m))) (S ++ [.lst (bsL l (2 ^ i) (2 ^ m))]) := by
  have lg := lim_ge
  have p := pow_le hm
  have b4 := h.pos
  have b5 := h.bd
  have b6 : Big < 2 ^ 150 := by decide
  have e := div_pow him
  have q := hb S B l (2 ^ m) i ii h (by omega) hi (by omega)
  have K1 : 0 < 2 ^ i := Nat.pow_pos (by decide)
  have J1 : 0 < 2 ^ (m - i) := Nat.pow_pos (by decide)
  have J2 : 2 ^ (m - i) ≤ 16 := pow_le (by omega)
  have K3 : 2 ^ i ≤ 16 := pow_le (by omega)
  generalize hK : 2 ^ i = K at *
  generalize hMM : 2 ^ m = M at *
  generalize hJ : 2 ^ (m - i) = J at *
  obtain ⟨Ki, hKi⟩ : ∃ Ki : Int, Ki = (K : Int) := ⟨_, rfl⟩
  obtain ⟨Mi, hMi⟩ : ∃ Mi : Int, Mi = (M : Int) := ⟨_, rfl⟩
  obtain ⟨Ji, hJi⟩ : ∃ Ji : Int, Ji = (J : Int) := ⟨_, rfl⟩
  have hdv : Mi / Ki = Ji := by rw [hMi, hKi, hJi, ← e]; rfl
  obtain ⟨n0, hn0⟩ : ∃ n0, n0 = S.length := ⟨_, rfl⟩
  obtain ⟨S2, hS2⟩ : ∃ S2, S2 = S ++ [Cell.lst (bsL l K M)] := ⟨_, rfl⟩
  have hS : S2[n0]? = some (.lst (bsL l K M)) := by rw [hn0, hS2]; exact get_app
  have hln : ∀ m, doBi .len m [.ref n0] S2 = .ok (.int Ki) S2 := fun m => by rw [b_lenR hS, bsL_len, hKi]
  have ln : ∀ S b, doBi .len b [tI l] S = .ok (.int Mi) S := fun S b => by rw [lenI, h.len, hMi]
  have hKp : 0 < Ki := by omega
  rw [← hn0, ← hS2] at q
  rw [← hS2, ← hJi]
  simp only [run_eq, ss_nil, ss_cons, s_nm, s_asg, s_par, par2, par3, s_aug, augD_add, augD_sub, s_augIx, augX_add, augX_sub, s_expr, s_ret, s_retN, s_pass, s_brk, s_cont, s_ite, s_for, s_while, seqF_nx, seqF_rt, seqF_bk, seqF_ct, fnD_rt, fnD_nx, g_nm, g_tp, g_ix, gs_nil, gs_cons, e_int, e_bl, e_non, e_str, e_var, getV_0, getV_s, e_gl, opt_some, e_bin, e_neg, negD_int, e_not, notD_bl, e_and, e_or, bE_app, bolD_bl, okM_app, e_cmp, e_chain, chE_app, e_ite, e_tup, e_lst, e_ix, e_rev, e_slA, e_slL, e_slH, e_slLH, sl1_L, sl1_H, sl2_LH, e_call, e_bi, e_mt, mtE_bits, mtE_app, mtE_ext, mtE_pop, e_pcall, sl2E_int, augE_ref, noX_ok, e_comp, es_nil, es_cons, ifD_bl, ifD_t, ifD_f, b_ok, b_assoc, fTurn_eq, turn_eq, inT_some, inC_some, soE_app, evT_nil, evT_one, t_nm, t_tp, ts_nil, ts_cons, mkL_f, mkL_t, o_add, o_sub, c_lt, c_le, c_gt, c_ge, c_eqI, c_neI, b_int, b_intB, b_abs, b_max2, b_min2, b_gcd, b_lenT, b_lenL, b_lenS, b_tupT, b_tupL, b_lstT, b_lstL, b_isiT, b_isiI, b_isiB, revT, revL, ixT0, ixT1, ixT2, ixL0, ixL1, isI, q_vlT, q_vlL, q_vlS, q_enT, q_enL, q_zpTT, q_zpTL, q_zpLT, q_zpLL, forD_some, List.set_cons_zero, List.set_cons_succ, List.map_cons, List.map_nil, List.length_cons, List.length_nil, List.cons_append, List.nil_append, List.replicate_succ, List.replicate_zero, Nat.reduceAdd, Nat.reduceSub, Nat.reduceEqDiff, if_true, Option.bind_some, wipeD, fd_hybrid_in, q, ixD1, ln, q_rg1' hMi (show M ≤ LIM by omega), compD_some (show (natsD M).length ≤ LIM by rw [natsD_len]; omega)]
  rw [comp_nat (fun x => D.int (bs l K (x % K) M)) dep_nil fun x hx => by
    obtain ⟨xi, hxi⟩ : ∃ xi : Int, xi = (x : Int) := ⟨_, rfl⟩
    have hmod : xi % Ki = ((x % K : Nat) : Int) := by rw [hxi, hKi]; rfl
    have hix := ixR' (S := S2) hmod hS (bsL_get (Nat.mod_lt x K1))
    rw [← hxi]
    simp only [run_eq, ss_nil, ss_cons, s_nm, s_asg, s_par, par2, par3, s_aug, augD_add, augD_sub, s_augIx, augX_add, augX_sub, s_expr, s_ret, s_retN, s_pass, s_brk, s_cont, s_ite, s_for, s_while, seqF_nx, seqF_rt, seqF_bk, seqF_ct, fnD_rt, fnD_nx, g_nm, g_tp, g_ix, gs_nil, gs_cons, e_int, e_bl, e_non, e_str, e_var, getV_0, getV_s, e_gl, opt_some, e_bin, e_neg, negD_int, e_not, notD_bl, e_and, e_or, bE_app, bolD_bl, okM_app, e_cmp, e_chain, chE_app, e_ite, e_tup, e_lst, e_ix, e_rev, e_slA, e_slL, e_slH, e_slLH, sl1_L, sl1_H, sl2_LH, e_call, e_bi, e_mt, mtE_bits, mtE_app, mtE_ext, mtE_pop, e_pcall, sl2E_int, augE_ref, noX_ok, e_comp, es_nil, es_cons, ifD_bl, ifD_t, ifD_f, b_ok, b_assoc, fTurn_eq, turn_eq, inT_some, inC_some, soE_app, evT_nil, evT_one, t_nm, t_tp, ts_nil, ts_cons, mkL_f, mkL_t, o_add, o_sub, c_lt, c_le, c_gt, c_ge, c_eqI, c_neI, b_int, b_intB, b_abs, b_max2, b_min2, b_gcd, b_lenT, b_lenL, b_lenS, b_tupT, b_tupL, b_lstT, b_lstL, b_isiT, b_isiI, b_isiB, revT, revL, ixT0, ixT1, ixT2, ixL0, ixL1, isI, q_vlT, q_vlL, q_vlS, q_enT, q_enL, q_zpTT, q_zpTL, q_zpLT, q_zpLL, forD_some, List.set_cons_zero, List.set_cons_succ, List.map_cons, List.map_nil, List.length_cons, List.length_nil, List.cons_append, List.nil_append, List.replicate_succ, List.replicate_zero, Nat.reduceAdd, Nat.reduceSub, Nat.reduceEqDiff, if_true, Option.bind_some, wipeD, hln, o_mod hKp, hix]]
  have hd : divOk Ki = true := divOk_of (a := 20) hKp (by omega) (by decide)
  have m1 : big2 B Ji = true := mulOk (by omega) (by omega)
  have hy : D.tup ((List.range M).map fun x => D.int (bs l K (x % K) M)) = tI (hyb l K M) := by unfold tI hyb; rw [List.map_map]; rfl
  have bp : 0 < B * Ji := Int.mul_pos b4 (by omega)
  have bb : B * Ji < 2 ^ 8000 := by
    have : B * Ji ≤ Big * 16 := Int.mul_le_mul b5 (by omega) (by omega) (by decide)
    omega
  simp only [run_eq, ss_nil, ss_cons, s_nm, s_asg, s_par, par2, par3, s_aug, augD_add, augD_sub, s_augIx, augX_add, augX_sub, s_expr, s_ret, s_retN, s_pass, s_brk, s_cont, s_ite, s_for, s_while, seqF_nx, seqF_rt, seqF_bk, seqF_ct, fnD_rt, fnD_nx, g_nm, g_tp, g_ix, gs_nil, gs_cons, e_int, e_bl, e_non, e_str, e_var, getV_0, getV_s, e_gl, opt_some, e_bin, e_neg, negD_int, e_not, notD_bl, e_and, e_or, bE_app, bolD_bl, okM_app, e_cmp, e_chain, chE_app, e_ite, e_tup, e_lst, e_ix, e_rev, e_slA, e_slL, e_slH, e_slLH, sl1_L, sl1_H, sl2_LH, e_call, e_bi, e_mt, mtE_bits, mtE_app, mtE_ext, mtE_pop, e_pcall, sl2E_int, augE_ref, noX_ok, e_comp, es_nil, es_cons, ifD_bl, ifD_t, ifD_f, b_ok, b_assoc, fTurn_eq, turn_eq, inT_some, inC_some, soE_app, evT_nil, evT_one, t_nm, t_tp, ts_nil, ts_cons, mkL_f, mkL_t, o_add, o_sub, c_lt, c_le, c_gt, c_ge, c_eqI, c_neI, b_int, b_intB, b_abs, b_max2, b_min2, b_gcd, b_lenT, b_lenL, b_lenS, b_tupT, b_tupL, b_lstT, b_lstL, b_isiT, b_isiI, b_isiB, revT, revL, ixT0, ixT1, ixT2, ixL0, ixL1, isI, q_vlT, q_vlL, q_vlS, q_enT, q_enL, q_zpTT, q_zpTL, q_zpLT, q_zpLL, forD_some, List.set_cons_zero, List.set_cons_succ, List.map_cons, List.map_nil, List.length_cons, List.length_nil, List.cons_append, List.nil_append, List.replicate_succ, List.replicate_zero, Nat.reduceAdd, Nat.reduceSub, Nat.reduceEqDiff, if_true, Option.bind_some, wipeD, ixD0, hln, o_fdiv hd hKp, hdv, o_mul m1, hy, hl S2 (B * Ji) (hyb l K M) bp bb (by simp [hyb]; omega)]
end LW
namespace LW
open PySem L2 Ev
/-! ### the law's words, begins, hybrids -/
def wd (m x : Nat) : List Int := (List.range m).map fun j => ((x / 2 ^ j % 2 : Nat) : Int)
theorem wd_len (m x : Nat) : (wd m x).length = m := by simp [wd]
theorem wd_snoc (m x : Nat) : wd (m + 1) x = wd m x ++ [((x / 2 ^ m % 2 : Nat) : Int)] := by unfold wd; rw [List.range_succ, List.map_append]; rfl
theorem wd_eq : ∀ {m x y : Nat}, (wd m x = wd m y ↔ x % 2 ^ m = y % 2 ^ m)
  | 0, x, y => by simp [wd, Nat.mod_one]
  | m + 1, x, y => by
    rw [wd_snoc, wd_snoc, Nat.mod_pow_succ, Nat.mod_pow_succ]
    have h1 := @wd_eq m x y
    have a1 := Nat.mod_lt x (show 0 < 2 ^ m from Nat.pow_pos (by decide))
    have a2 := Nat.mod_lt y (show 0 < 2 ^ m from Nat.pow_pos (by decide))
    have b1 := Nat.mod_lt (x / 2 ^ m) (show 0 < 2 by decide)
    have b2 := Nat.mod_lt (y / 2 ^ m) (show 0 < 2 by decide)
    generalize x / 2 ^ m % 2 = p at *
    generalize y / 2 ^ m % 2 = q at *
    constructor
    · intro h
      have := List.append_inj' h rfl
      have e1 := h1.mp this.1
      have e2 : (p : Int) = q := by simpa using this.2
      rw [e1, show p = q by omega]
    · intro h
      generalize x % 2 ^ m = u at *
      generalize y % 2 ^ m = v at *
      generalize 2 ^ m = z at *
      have hp : p = 0 ∨ p = 1 := by omega
      have hq : q = 0 ∨ q = 1 := by omega
      have e : p = q ∧ u = v := by
        rcases hp with rfl | rfl <;> rcases hq with rfl | rfl <;> simp at h ⊢ <;> omega
      rw [h1.mpr e.2, e.1]
theorem wd_take {m i x : Nat} (h : i ≤ m) : (wd m x).take i = wd i x := by
  unfold wd
  rw [← List.map_take, List.take_range, Nat.min_eq_left h]
theorem two_spec {C : Ev.Ctx} {S : Store} {t : Nat} {ti : Int} (h : ti = (t : Int)) (ht : t ≤ 10) : runF C fd_law_wb_two [.int ti] S = .ok (.int ((2 ^ t : Nat) : Int)) S := by
  have lg := lim_ge
  refine eq_of_WP ?_
  simp only [run_eq, ss_nil, ss_cons, s_nm, s_asg, s_par, par2, par3, s_aug, augD_add, augD_sub, s_augIx, augX_add, augX_sub, s_expr, s_ret, s_retN, s_pass, s_brk, s_cont, s_ite, s_for, s_while, seqF_nx, seqF_rt, seqF_bk, seqF_ct, fnD_rt, fnD_nx, g_nm, g_tp, g_ix, gs_nil, gs_cons, e_int, e_bl, e_non, e_str, e_var, getV_0, getV_s, e_gl, opt_some, e_bin, e_neg, negD_int, e_not, notD_bl, e_and, e_or, bE_app, bolD_bl, okM_app, e_cmp, e_chain, chE_app, e_ite, e_tup, e_lst, e_ix, e_rev, e_slA, e_slL, e_slH, e_slLH, sl1_L, sl1_H, sl2_LH, e_call, e_bi, e_mt, mtE_bits, mtE_app, mtE_ext, mtE_pop, e_pcall, sl2E_int, augE_ref, noX_ok, e_comp, es_nil, es_cons, ifD_bl, ifD_t, ifD_f, b_ok, b_assoc, fTurn_eq, turn_eq, inT_some, inC_some, soE_app, evT_nil, evT_one, t_nm, t_tp, ts_nil, ts_cons, mkL_f, mkL_t, o_add, o_sub, c_lt, c_le, c_gt, c_ge, c_eqI, c_neI, b_int, b_intB, b_abs, b_max2, b_min2, b_gcd, b_lenT, b_lenL, b_lenS, b_tupT, b_tupL, b_lstT, b_lstL, b_isiT, b_isiI, b_isiB, revT, revL, ixT0, ixT1, ixT2, ixL0, ixL1, isI, q_vlT, q_vlL, q_vlS, q_enT, q_enL, q_zpTT, q_zpTL, q_zpLT, q_zpLL, forD_some, List.set_cons_zero, List.set_cons_succ, List.map_cons, List.map_nil, List.length_cons, List.length_nil, List.cons_append, List.nil_append, List.replicate_succ, List.replicate_zero, Nat.reduceAdd, Nat.reduceSub, Nat.reduceEqDiff, if_true, Option.bind_some, wipeD, fd_law_wb_two, q_rg1' h (show t ≤ LIM by omega)]
  refine WP_call (for_inv (P := fun f S' => ∃ e3 p, f = Fl.nx [some (.int ti), some (.int p), e3] ∧ p = ((2 ^ t : Nat) : Int) ∧ S' = S)
    (fun i env S' => ∃ e3 p, env = [some (.int ti), some (.int p), e3] ∧ p = ((2 ^ i : Nat) : Int) ∧ S' = S) 0 ⟨none, 1, rfl, rfl, rfl⟩ ?_ ?_) ?_
  · rintro i env S' x ⟨e3, p, rfl, hp, rfl⟩ hi _ hx
    obtain ⟨rfl, hi2⟩ := natsD_get hx
    have hb : 2 ^ i ≤ 2 ^ 10 := Nat.pow_le_pow_right (by decide) (by omega)
    have hz : ((2 ^ (i + 1) : Nat) : Int) = 2 * p := by rw [hp, Nat.pow_succ]; push_cast; omega
    have hpb : big2 2 p = true := by
      rw [hp]
      generalize 2 ^ i = z at hb
      exact big2_of (a := 20) (b := 20) (by decide) (by omega) (by decide)
    refine ⟨dep_nil, ?_⟩
    simp only [run_eq, ss_nil, ss_cons, s_nm, s_asg, s_par, par2, par3, s_aug, augD_add, augD_sub, s_augIx, augX_add, augX_sub, s_expr, s_ret, s_retN, s_pass, s_brk, s_cont, s_ite, s_for, s_while, seqF_nx, seqF_rt, seqF_bk, seqF_ct, fnD_rt, fnD_nx, g_nm, g_tp, g_ix, gs_nil, gs_cons, e_int, e_bl, e_non, e_str, e_var, getV_0, getV_s, e_gl, opt_some, e_bin, e_neg, negD_int, e_not, notD_bl, e_and, e_or, bE_app, bolD_bl, okM_app, e_cmp, e_chain, chE_app, e_ite, e_tup, e_lst, e_ix, e_rev, e_slA, e_slL, e_slH, e_slLH, sl1_L, sl1_H, sl2_LH, e_call, e_bi, e_mt, mtE_bits, mtE_app, mtE_ext, mtE_pop, e_pcall, sl2E_int, augE_ref, noX_ok, e_comp, es_nil, es_cons, ifD_bl, ifD_t, ifD_f, b_ok, b_assoc, fTurn_eq, turn_eq, inT_some, inC_some, soE_app, evT_nil, evT_one, t_nm, t_tp, ts_nil, ts_cons, mkL_f, mkL_t, o_add, o_sub, c_lt, c_le, c_gt, c_ge, c_eqI, c_neI, b_int, b_intB, b_abs, b_max2, b_min2, b_gcd, b_lenT, b_lenL, b_lenS, b_tupT, b_tupL, b_lstT, b_lstL, b_isiT, b_isiI, b_isiB, revT, revL, ixT0, ixT1, ixT2, ixL0, ixL1, isI, q_vlT, q_vlL, q_vlS, q_enT, q_enL, q_zpTT, q_zpTL, q_zpLT, q_zpLL, forD_some, List.set_cons_zero, List.set_cons_succ, List.map_cons, List.map_nil, List.length_cons, List.length_nil, List.cons_append, List.nil_append, List.replicate_succ, List.replicate_zero, Nat.reduceAdd, Nat.reduceSub, Nat.reduceEqDiff, if_true, Option.bind_some, wipeD, o_mul hpb, WP_ok]
    exact ⟨_, _, rfl, by rw [hz], by first | rfl | trivial⟩
  · rintro env S' ⟨e3, p, rfl, hp, rfl⟩
    rw [natsD_len, Nat.zero_add] at hp
    exact ⟨dep_nil, e3, p, rfl, hp, rfl⟩
  · rintro f S' ⟨e3, p, rfl, hp, rfl⟩
    simp only [run_eq, ss_nil, ss_cons, s_nm, s_asg, s_par, par2, par3, s_aug, augD_add, augD_sub, s_augIx, augX_add, augX_sub, s_expr, s_ret, s_retN, s_pass, s_brk, s_cont, s_ite, s_for, s_while, seqF_nx, seqF_rt, seqF_bk, seqF_ct, fnD_rt, fnD_nx, g_nm, g_tp, g_ix, gs_nil, gs_cons, e_int, e_bl, e_non, e_str, e_var, getV_0, getV_s, e_gl, opt_some, e_bin, e_neg, negD_int, e_not, notD_bl, e_and, e_or, bE_app, bolD_bl, okM_app, e_cmp, e_chain, chE_app, e_ite, e_tup, e_lst, e_ix, e_rev, e_slA, e_slL, e_slH, e_slLH, sl1_L, sl1_H, sl2_LH, e_call, e_bi, e_mt, mtE_bits, mtE_app, mtE_ext, mtE_pop, e_pcall, sl2E_int, augE_ref, noX_ok, e_comp, es_nil, es_cons, ifD_bl, ifD_t, ifD_f, b_ok, b_assoc, fTurn_eq, turn_eq, inT_some, inC_some, soE_app, evT_nil, evT_one, t_nm, t_tp, ts_nil, ts_cons, mkL_f, mkL_t, o_add, o_sub, c_lt, c_le, c_gt, c_ge, c_eqI, c_neI, b_int, b_intB, b_abs, b_max2, b_min2, b_gcd, b_lenT, b_lenL, b_lenS, b_tupT, b_tupL, b_lstT, b_lstL, b_isiT, b_isiI, b_isiB, revT, revL, ixT0, ixT1, ixT2, ixL0, ixL1, isI, q_vlT, q_vlL, q_vlS, q_enT, q_enL, q_zpTT, q_zpTL, q_zpLT, q_zpLL, forD_some, List.set_cons_zero, List.set_cons_succ, List.map_cons, List.map_nil, List.length_cons, List.length_nil, List.cons_append, List.nil_append, List.replicate_succ, List.replicate_zero, Nat.reduceAdd, Nat.reduceSub, Nat.reduceEqDiff, if_true, Option.bind_some, wipeD, WP_ok]
    exact ⟨by rw [hp], trivial⟩
theorem word_spec {C : Ev.Ctx} {S : Store} {m x : Nat} {mi xi : Int} (h : mi = (m : Int)) (hx : xi = (x : Int)) (hm : m ≤ 10) : WP (runF C fd_law_wb_word [.int mi, .int xi] S) fun d _ => d = tI (wd m x) := by
  have lg := lim_ge
  have d2 : divOk 2 = true := by decide
  have p2 : (0 : Int) < 2 := by decide
  obtain ⟨n0, hn0⟩ : ∃ n0, n0 = S.length := ⟨_, rfl⟩
  simp only [run_eq, ss_nil, ss_cons, s_nm, s_asg, s_par, par2, par3, s_aug, augD_add, augD_sub, s_augIx, augX_add, augX_sub, s_expr, s_ret, s_retN, s_pass, s_brk, s_cont, s_ite, s_for, s_while, seqF_nx, seqF_rt, seqF_bk, seqF_ct, fnD_rt, fnD_nx, g_nm, g_tp, g_ix, gs_nil, gs_cons, e_int, e_bl, e_non, e_str, e_var, getV_0, getV_s, e_gl, opt_some, e_bin, e_neg, negD_int, e_not, notD_bl, e_and, e_or, bE_app, bolD_bl, okM_app, e_cmp, e_chain, chE_app, e_ite, e_tup, e_lst, e_ix, e_rev, e_slA, e_slL, e_slH, e_slLH, sl1_L, sl1_H, sl2_LH, e_call, e_bi, e_mt, mtE_bits, mtE_app, mtE_ext, mtE_pop, e_pcall, sl2E_int, augE_ref, noX_ok, e_comp, es_nil, es_cons, ifD_bl, ifD_t, ifD_f, b_ok, b_assoc, fTurn_eq, turn_eq, inT_some, inC_some, soE_app, evT_nil, evT_one, t_nm, t_tp, ts_nil, ts_cons, mkL_f, mkL_t, o_add, o_sub, c_lt, c_le, c_gt, c_ge, c_eqI, c_neI, b_int, b_intB, b_abs, b_max2, b_min2, b_gcd, b_lenT, b_lenL, b_lenS, b_tupT, b_tupL, b_lstT, b_lstL, b_isiT, b_isiI, b_isiB, revT, revL, ixT0, ixT1, ixT2, ixL0, ixL1, isI, q_vlT, q_vlL, q_vlS, q_enT, q_enL, q_zpTT, q_zpTL, q_zpLT, q_zpLL, forD_some, List.set_cons_zero, List.set_cons_succ, List.map_cons, List.map_nil, List.length_cons, List.length_nil, List.cons_append, List.nil_append, List.replicate_succ, List.replicate_zero, Nat.reduceAdd, Nat.reduceSub, Nat.reduceEqDiff, if_true, Option.bind_some, wipeD, fd_law_wb_word, q_rg1' h (show m ≤ LIM by omega)]
  rw [← hn0]
  refine WP_call (for_inv (P := fun f S' => ∃ e3 p, f = Fl.nx [some (.int mi), some (.int p), some (.ref n0), e3] ∧ S' = S ++ [.lst ((wd m x).map .int)])
    (fun i env S' => ∃ e3 p, env = [some (.int mi), some (.int p), some (.ref n0), e3] ∧ p = ((x / 2 ^ i : Nat) : Int) ∧ S' = S ++ [.lst ((wd i x).map .int)]) 0 ⟨none, xi, rfl, by simpa using hx, rfl⟩ ?_ ?_) ?_
  · rintro i env S' y ⟨e3, p, rfl, hp, rfl⟩ hi _ hy
    obtain ⟨rfl, hi2⟩ := natsD_get hy
    refine ⟨dep_nil, ?_⟩
    have hS : (S ++ [Cell.lst ((wd i x).map D.int)])[n0]? = some (.lst ((wd i x).map .int)) := by rw [hn0]; exact get_app
    have ap : doMt .append (.ref n0) [.int (p % 2)] (S ++ [Cell.lst ((wd i x).map D.int)]) = .ok .non (S ++ [Cell.lst ((wd (i + 1) x).map D.int)]) := by
      rw [m_append hS (by rw [List.length_map, wd_len]; omega), hn0, set_app, wd_snoc, List.map_append]
      have : p % 2 = ((x / 2 ^ i % 2 : Nat) : Int) := by rw [hp]; rfl
      rw [this]; rfl
    simp only [run_eq, ss_nil, ss_cons, s_nm, s_asg, s_par, par2, par3, s_aug, augD_add, augD_sub, s_augIx, augX_add, augX_sub, s_expr, s_ret, s_retN, s_pass, s_brk, s_cont, s_ite, s_for, s_while, seqF_nx, seqF_rt, seqF_bk, seqF_ct, fnD_rt, fnD_nx, g_nm, g_tp, g_ix, gs_nil, gs_cons, e_int, e_bl, e_non, e_str, e_var, getV_0, getV_s, e_gl, opt_some, e_bin, e_neg, negD_int, e_not, notD_bl, e_and, e_or, bE_app, bolD_bl, okM_app, e_cmp, e_chain, chE_app, e_ite, e_tup, e_lst, e_ix, e_rev, e_slA, e_slL, e_slH, e_slLH, sl1_L, sl1_H, sl2_LH, e_call, e_bi, e_mt, mtE_bits, mtE_app, mtE_ext, mtE_pop, e_pcall, sl2E_int, augE_ref, noX_ok, e_comp, es_nil, es_cons, ifD_bl, ifD_t, ifD_f, b_ok, b_assoc, fTurn_eq, turn_eq, inT_some, inC_some, soE_app, evT_nil, evT_one, t_nm, t_tp, ts_nil, ts_cons, mkL_f, mkL_t, o_add, o_sub, c_lt, c_le, c_gt, c_ge, c_eqI, c_neI, b_int, b_intB, b_abs, b_max2, b_min2, b_gcd, b_lenT, b_lenL, b_lenS, b_tupT, b_tupL, b_lstT, b_lstL, b_isiT, b_isiI, b_isiB, revT, revL, ixT0, ixT1, ixT2, ixL0, ixL1, isI, q_vlT, q_vlL, q_vlS, q_enT, q_enL, q_zpTT, q_zpTL, q_zpLT, q_zpLL, forD_some, List.set_cons_zero, List.set_cons_succ, List.map_cons, List.map_nil, List.length_cons, List.length_nil, List.cons_append, List.nil_append, List.replicate_succ, List.replicate_zero, Nat.reduceAdd, Nat.reduceSub, Nat.reduceEqDiff, if_true, Option.bind_some, wipeD, o_mod p2, ap, o_fdiv d2 p2, WP_ok]
    refine ⟨_, _, rfl, ?_, by first | rfl | trivial⟩
    rw [hp, Nat.pow_succ, ← Nat.div_div_eq_div_mul]
    rfl
  · rintro env S' ⟨e3, p, rfl, hp, rfl⟩
    rw [natsD_len, Nat.zero_add]
    exact ⟨dep_nil, e3, p, by first | rfl | trivial, by first | rfl | trivial⟩
  · rintro f S' ⟨e3, p, rfl, rfl⟩
    have hS : (S ++ [Cell.lst ((wd m x).map D.int)])[n0]? = some (.lst ((wd m x).map .int)) := by rw [hn0]; exact get_app
    simp only [run_eq, ss_nil, ss_cons, s_nm, s_asg, s_par, par2, par3, s_aug, augD_add, augD_sub, s_augIx, augX_add, augX_sub, s_expr, s_ret, s_retN, s_pass, s_brk, s_cont, s_ite, s_for, s_while, seqF_nx, seqF_rt, seqF_bk, seqF_ct, fnD_rt, fnD_nx, g_nm, g_tp, g_ix, gs_nil, gs_cons, e_int, e_bl, e_non, e_str, e_var, getV_0, getV_s, e_gl, opt_some, e_bin, e_neg, negD_int, e_not, notD_bl, e_and, e_or, bE_app, bolD_bl, okM_app, e_cmp, e_chain, chE_app, e_ite, e_tup, e_lst, e_ix, e_rev, e_slA, e_slL, e_slH, e_slLH, sl1_L, sl1_H, sl2_LH, e_call, e_bi, e_mt, mtE_bits, mtE_app, mtE_ext, mtE_pop, e_pcall, sl2E_int, augE_ref, noX_ok, e_comp, es_nil, es_cons, ifD_bl, ifD_t, ifD_f, b_ok, b_assoc, fTurn_eq, turn_eq, inT_some, inC_some, soE_app, evT_nil, evT_one, t_nm, t_tp, ts_nil, ts_cons, mkL_f, mkL_t, o_add, o_sub, c_lt, c_le, c_gt, c_ge, c_eqI, c_neI, b_int, b_intB, b_abs, b_max2, b_min2, b_gcd, b_lenT, b_lenL, b_lenS, b_tupT, b_tupL, b_lstT, b_lstL, b_isiT, b_isiI, b_isiB, revT, revL, ixT0, ixT1, ixT2, ixL0, ixL1, isI, q_vlT, q_vlL, q_vlS, q_enT, q_enL, q_zpTT, q_zpTL, q_zpLT, q_zpLL, forD_some, List.set_cons_zero, List.set_cons_succ, List.map_cons, List.map_nil, List.length_cons, List.length_nil, List.cons_append, List.nil_append, List.replicate_succ, List.replicate_zero, Nat.reduceAdd, Nat.reduceSub, Nat.reduceEqDiff, if_true, Option.bind_some, wipeD, b_tupR hS, WP_ok]
    rfl
def WdOk (f : List D → M D) : Prop := ∀ (S : Store) (m x : Nat) (mi xi : Int), mi = (m : Int) → xi = (x : Int) → m ≤ 10 → f [.int mi, .int xi] S = .ok (tI (wd m x)) S
theorem slH_wd {m i x : Nat} {ii : Int} {b : Bool} {S : Store} (hi : ii = (i : Int)) (h : i ≤ m) : doSl b (tI (wd m x)) none (some ii) S = .ok (tI (wd i x)) S := by
  have e : cutD ((wd m x).map D.int) none (some ii) = (wd i x).map D.int := by
    unfold cutD
    have h1 : sB ((wd m x).map D.int).length 0 none = 0 := rfl
    have h2 : sB ((wd m x).map D.int).length ((wd m x).map D.int).length (some ii) = i := by
      rw [List.length_map, wd_len]
      show (if ii < 0 then _ else min ii.toNat m) = i
      rw [if_neg (by omega)]
      omega
    rw [h1, h2, List.drop_zero, Nat.sub_zero, ← List.map_take, wd_take h]
  show lsK (cutD ((wd m x).map D.int) none (some ii)) (fun ys => Rs.ok (D.tup ys) S) = _
  rw [e]
  simp [lsK_eq]
  rfl
theorem begin_spec {C : Ev.Ctx} {S : Store} {B : Int} {l : List Int} {m i x : Nat} {mi : Int} (hw : WdOk (pureC (C.cl 40))) (h : l.length = 2 ^ m) (hm : m ≤ 4) (h1 : mi = (m : Int)) (him : i ≤ m) :
    runF C fd_law_wb_begin [DrD B l, .int mi, tI (wd i x)] S = .ok (.int (bs l (2 ^ i) (x % 2 ^ i) (2 ^ m))) S := by
  obtain ⟨ii, hii⟩ : ∃ ii : Int, ii = (i : Int) := ⟨_, rfl⟩
  have ln : ∀ S b, doBi .len b [tI (wd i x)] S = .ok (.int ii) S := fun S b => by rw [lenI, wd_len, hii]
  refine eq_of_WP ?_
  simp only [run_eq, ss_nil, ss_cons, s_nm, s_asg, s_par, par2, par3, s_aug, augD_add, augD_sub, s_augIx, augX_add, augX_sub, s_expr, s_ret, s_retN, s_pass, s_brk, s_cont, s_ite, s_for, s_while, seqF_nx, seqF_rt, seqF_bk, seqF_ct, fnD_rt, fnD_nx, g_nm, g_tp, g_ix, gs_nil, gs_cons, e_int, e_bl, e_non, e_str, e_var, getV_0, getV_s, e_gl, opt_some, e_bin, e_neg, negD_int, e_not, notD_bl, e_and, e_or, bE_app, bolD_bl, okM_app, e_cmp, e_chain, chE_app, e_ite, e_tup, e_lst, e_ix, e_rev, e_slA, e_slL, e_slH, e_slLH, sl1_L, sl1_H, sl2_LH, e_call, e_bi, e_mt, mtE_bits, mtE_app, mtE_ext, mtE_pop, e_pcall, sl2E_int, augE_ref, noX_ok, e_comp, es_nil, es_cons, ifD_bl, ifD_t, ifD_f, b_ok, b_assoc, fTurn_eq, turn_eq, inT_some, inC_some, soE_app, evT_nil, evT_one, t_nm, t_tp, ts_nil, ts_cons, mkL_f, mkL_t, o_add, o_sub, c_lt, c_le, c_gt, c_ge, c_eqI, c_neI, b_int, b_intB, b_abs, b_max2, b_min2, b_gcd, b_lenT, b_lenL, b_lenS, b_tupT, b_tupL, b_lstT, b_lstL, b_isiT, b_isiI, b_isiB, revT, revL, ixT0, ixT1, ixT2, ixL0, ixL1, isI, q_vlT, q_vlL, q_vlS, q_enT, q_enL, q_zpTT, q_zpTL, q_zpLT, q_zpLL, forD_some, List.set_cons_zero, List.set_cons_succ, List.map_cons, List.map_nil, List.length_cons, List.length_nil, List.cons_append, List.nil_append, List.replicate_succ, List.replicate_zero, Nat.reduceAdd, Nat.reduceSub, Nat.reduceEqDiff, if_true, Option.bind_some, wipeD, fd_law_wb_begin, ixD1, srcE]
  refine WP_call (for_inv (P := fun f S' => ∃ e4 e5, f = Fl.nx [some (DrD B l), some (.int mi), some (tI (wd i x)), some (.int (bs l (2 ^ i) (x % 2 ^ i) (2 ^ m))), e4, e5] ∧ S' = S)
    (fun k env S' => ∃ e4 e5, env = [some (DrD B l), some (.int mi), some (tI (wd i x)), some (.int (bs l (2 ^ i) (x % 2 ^ i) k)), e4, e5] ∧ S' = S) 0 ⟨none, none, rfl, rfl⟩ ?_ ?_) ?_
  · rintro k env S' y ⟨e4, e5, rfl, rfl⟩ hk _ hy
    rw [Nat.sub_zero] at hy
    obtain ⟨v, hv, rfl⟩ := enum_get hy
    refine ⟨dep_nil, ?_⟩
    obtain ⟨ki, hki⟩ : ∃ ki : Int, ki = (k : Int) := ⟨_, rfl⟩
    have hd : l.getD k 0 = v := by rw [List.getD_eq_getElem?_getD, hv]; rfl
    have st : bs l (2 ^ i) (x % 2 ^ i) (k + 1) = bs l (2 ^ i) (x % 2 ^ i) k + if k % 2 ^ i = x % 2 ^ i then v else 0 := by
      show sz (k + 1) _ = _
      rw [sz, hd]; rfl
    rw [← hki]
    simp only [run_eq, ss_nil, ss_cons, s_nm, s_asg, s_par, par2, par3, s_aug, augD_add, augD_sub, s_augIx, augX_add, augX_sub, s_expr, s_ret, s_retN, s_pass, s_brk, s_cont, s_ite, s_for, s_while, seqF_nx, seqF_rt, seqF_bk, seqF_ct, fnD_rt, fnD_nx, g_nm, g_tp, g_ix, gs_nil, gs_cons, e_int, e_bl, e_non, e_str, e_var, getV_0, getV_s, e_gl, opt_some, e_bin, e_neg, negD_int, e_not, notD_bl, e_and, e_or, bE_app, bolD_bl, okM_app, e_cmp, e_chain, chE_app, e_ite, e_tup, e_lst, e_ix, e_rev, e_slA, e_slL, e_slH, e_slLH, sl1_L, sl1_H, sl2_LH, e_call, e_bi, e_mt, mtE_bits, mtE_app, mtE_ext, mtE_pop, e_pcall, sl2E_int, augE_ref, noX_ok, e_comp, es_nil, es_cons, ifD_bl, ifD_t, ifD_f, b_ok, b_assoc, fTurn_eq, turn_eq, inT_some, inC_some, soE_app, evT_nil, evT_one, t_nm, t_tp, ts_nil, ts_cons, mkL_f, mkL_t, o_add, o_sub, c_lt, c_le, c_gt, c_ge, c_eqI, c_neI, b_int, b_intB, b_abs, b_max2, b_min2, b_gcd, b_lenT, b_lenL, b_lenS, b_tupT, b_tupL, b_lstT, b_lstL, b_isiT, b_isiI, b_isiB, revT, revL, ixT0, ixT1, ixT2, ixL0, ixL1, isI, q_vlT, q_vlL, q_vlS, q_enT, q_enL, q_zpTT, q_zpTL, q_zpLT, q_zpLL, forD_some, List.set_cons_zero, List.set_cons_succ, List.map_cons, List.map_nil, List.length_cons, List.length_nil, List.cons_append, List.nil_append, List.replicate_succ, List.replicate_zero, Nat.reduceAdd, Nat.reduceSub, Nat.reduceEqDiff, if_true, Option.bind_some, wipeD, hw _ m k mi ki h1 hki (by omega), ln, slH_wd hii him, c_eqT]
    by_cases e : wd i k = wd i x
    · rw [if_pos (wd_eq.mp e)] at st
      simp only [run_eq, ss_nil, ss_cons, s_nm, s_asg, s_par, par2, par3, s_aug, augD_add, augD_sub, s_augIx, augX_add, augX_sub, s_expr, s_ret, s_retN, s_pass, s_brk, s_cont, s_ite, s_for, s_while, seqF_nx, seqF_rt, seqF_bk, seqF_ct, fnD_rt, fnD_nx, g_nm, g_tp, g_ix, gs_nil, gs_cons, e_int, e_bl, e_non, e_str, e_var, getV_0, getV_s, e_gl, opt_some, e_bin, e_neg, negD_int, e_not, notD_bl, e_and, e_or, bE_app, bolD_bl, okM_app, e_cmp, e_chain, chE_app, e_ite, e_tup, e_lst, e_ix, e_rev, e_slA, e_slL, e_slH, e_slLH, sl1_L, sl1_H, sl2_LH, e_call, e_bi, e_mt, mtE_bits, mtE_app, mtE_ext, mtE_pop, e_pcall, sl2E_int, augE_ref, noX_ok, e_comp, es_nil, es_cons, ifD_bl, ifD_t, ifD_f, b_ok, b_assoc, fTurn_eq, turn_eq, inT_some, inC_some, soE_app, evT_nil, evT_one, t_nm, t_tp, ts_nil, ts_cons, mkL_f, mkL_t, o_add, o_sub, c_lt, c_le, c_gt, c_ge, c_eqI, c_neI, b_int, b_intB, b_abs, b_max2, b_min2, b_gcd, b_lenT, b_lenL, b_lenS, b_tupT, b_tupL, b_lstT, b_lstL, b_isiT, b_isiI, b_isiB, revT, revL, ixT0, ixT1, ixT2, ixL0, ixL1, isI, q_vlT, q_vlL, q_vlS, q_enT, q_enL, q_zpTT, q_zpTL, q_zpLT, q_zpLL, forD_some, List.set_cons_zero, List.set_cons_succ, List.map_cons, List.map_nil, List.length_cons, List.length_nil, List.cons_append, List.nil_append, List.replicate_succ, List.replicate_zero, Nat.reduceAdd, Nat.reduceSub, Nat.reduceEqDiff, if_true, Option.bind_some, wipeD, e, decide_true, WP_ok]
      exact ⟨_, _, by rw [st], trivial⟩
    · rw [if_neg (fun z => e (wd_eq.mpr z)), Int.add_zero] at st
      simp only [run_eq, ss_nil, ss_cons, s_nm, s_asg, s_par, par2, par3, s_aug, augD_add, augD_sub, s_augIx, augX_add, augX_sub, s_expr, s_ret, s_retN, s_pass, s_brk, s_cont, s_ite, s_for, s_while, seqF_nx, seqF_rt, seqF_bk, seqF_ct, fnD_rt, fnD_nx, g_nm, g_tp, g_ix, gs_nil, gs_cons, e_int, e_bl, e_non, e_str, e_var, getV_0, getV_s, e_gl, opt_some, e_bin, e_neg, negD_int, e_not, notD_bl, e_and, e_or, bE_app, bolD_bl, okM_app, e_cmp, e_chain, chE_app, e_ite, e_tup, e_lst, e_ix, e_rev, e_slA, e_slL, e_slH, e_slLH, sl1_L, sl1_H, sl2_LH, e_call, e_bi, e_mt, mtE_bits, mtE_app, mtE_ext, mtE_pop, e_pcall, sl2E_int, augE_ref, noX_ok, e_comp, es_nil, es_cons, ifD_bl, ifD_t, ifD_f, b_ok, b_assoc, fTurn_eq, turn_eq, inT_some, inC_some, soE_app, evT_nil, evT_one, t_nm, t_tp, ts_nil, ts_cons, mkL_f, mkL_t, o_add, o_sub, c_lt, c_le, c_gt, c_ge, c_eqI, c_neI, b_int, b_intB, b_abs, b_max2, b_min2, b_gcd, b_lenT, b_lenL, b_lenS, b_tupT, b_tupL, b_lstT, b_lstL, b_isiT, b_isiI, b_isiB, revT, revL, ixT0, ixT1, ixT2, ixL0, ixL1, isI, q_vlT, q_vlL, q_vlS, q_enT, q_enL, q_zpTT, q_zpTL, q_zpLT, q_zpLL, forD_some, List.set_cons_zero, List.set_cons_succ, List.map_cons, List.map_nil, List.length_cons, List.length_nil, List.cons_append, List.nil_append, List.replicate_succ, List.replicate_zero, Nat.reduceAdd, Nat.reduceSub, Nat.reduceEqDiff, if_true, Option.bind_some, wipeD, e, decide_false, Bool.false_eq_true, if_false, WP_ok]
      exact ⟨_, _, by rw [st], trivial⟩
  · rintro env S' ⟨e4, e5, rfl, rfl⟩
    rw [enum_len, h, Nat.zero_add]
    exact ⟨dep_nil, _, _, by first | rfl | trivial, by first | rfl | trivial⟩
  · rintro f S' ⟨e4, e5, rfl, rfl⟩
    simp only [run_eq, ss_nil, ss_cons, s_nm, s_asg, s_par, par2, par3, s_aug, augD_add, augD_sub, s_augIx, augX_add, augX_sub, s_expr, s_ret, s_retN, s_pass, s_brk, s_cont, s_ite, s_for, s_while, seqF_nx, seqF_rt, seqF_bk, seqF_ct, fnD_rt, fnD_nx, g_nm, g_tp, g_ix, gs_nil, gs_cons, e_int, e_bl, e_non, e_str, e_var, getV_0, getV_s, e_gl, opt_some, e_bin, e_neg, negD_int, e_not, notD_bl, e_and, e_or, bE_app, bolD_bl, okM_app, e_cmp, e_chain, chE_app, e_ite, e_tup, e_lst, e_ix, e_rev, e_slA, e_slL, e_slH, e_slLH, sl1_L, sl1_H, sl2_LH, e_call, e_bi, e_mt, mtE_bits, mtE_app, mtE_ext, mtE_pop, e_pcall, sl2E_int, augE_ref, noX_ok, e_comp, es_nil, es_cons, ifD_bl, ifD_t, ifD_f, b_ok, b_assoc, fTurn_eq, turn_eq, inT_some, inC_some, soE_app, evT_nil, evT_one, t_nm, t_tp, ts_nil, ts_cons, mkL_f, mkL_t, o_add, o_sub, c_lt, c_le, c_gt, c_ge, c_eqI, c_neI, b_int, b_intB, b_abs, b_max2, b_min2, b_gcd, b_lenT, b_lenL, b_lenS, b_tupT, b_tupL, b_lstT, b_lstL, b_isiT, b_isiI, b_isiB, revT, revL, ixT0, ixT1, ixT2, ixL0, ixL1, isI, q_vlT, q_vlL, q_vlS, q_enT, q_enL, q_zpTT, q_zpTL, q_zpLT, q_zpLL, forD_some, List.set_cons_zero, List.set_cons_succ, List.map_cons, List.map_nil, List.length_cons, List.length_nil, List.cons_append, List.nil_append, List.replicate_succ, List.replicate_zero, Nat.reduceAdd, Nat.reduceSub, Nat.reduceEqDiff, if_true, Option.bind_some, wipeD, WP_ok]
    first
    | exact ⟨trivial, trivial⟩
    | exact ⟨trivial, rfl⟩
    | exact ⟨rfl, rfl⟩
def BeOk (f : List D → M D) : Prop := ∀ (S : Store) (B : Int) (l : List Int) (m i x : Nat) (mi : Int), l.length = 2 ^ m → m ≤ 4 → mi = (m : Int) → i ≤ m → f [DrD B l, .int mi, tI (wd i x)] S = .ok (.int (bs l (2 ^ i) (x % 2 ^ i) (2 ^ m))) S
def TwOk (f : List D → M D) : Prop := ∀ (S : Store) (t : Nat) (ti : Int), ti = (t : Int) → t ≤ 10 → f [.int ti] S = .ok (.int ((2 ^ t : Nat) : Int)) S
def hyT (l : List Int) (K M k : Nat) : List D := (List.range k).map fun x => D.int (bs l K (x % K) M)
theorem hyT_snoc (l : List Int) (K M k : Nat) : hyT l K M (k + 1) = hyT l K M k ++ [.int (bs l K (k % K) M)] := by unfold hyT; rw [List.range_succ, List.map_append]; rfl
theorem hybridL_spec {C : Ev.Ctx} {S : Store} {B : Int} {l : List Int} {m i : Nat} {mi ii : Int} (hw : WdOk (pureC (C.cl 40))) (hb : BeOk (pureC (C.cl 44))) (ht : TwOk (pureC (C.cl 33))) (hl : LsOk (pureC (C.cl 39))) (h : Rw B l (2 ^ m)) (hm : m ≤ 4) (h1 : mi = (m : Int)) (hi : ii = (i : Int)) (him : i ≤ m) :
    WP (runF C fd_law_wb_hybrid [DrD B l, .int mi, .int ii] S) fun d _ => d = lsD (B * ((2 ^ (m - i) : Nat) : Int)) (hyb l (2 ^ i) (2 ^ m)) := by
  have lg := lim_ge
  have p := pow_le hm
  have b4 := h.pos
  have b5 := h.bd
  have b6 : Big < 2 ^ 150 := by decide
  obtain ⟨Mi, hMi⟩ : ∃ Mi : Int, Mi = ((2 ^ m : Nat) : Int) := ⟨_, rfl⟩
  have ln : ∀ S b, doBi .len b [tI l] S = .ok (.int Mi) S := fun S b => by rw [lenI, h.len, hMi]
  have tw := fun S => ht S (m - i) (mi - ii) (by omega) (by omega)
  have J1 : 0 < 2 ^ (m - i) := Nat.pow_pos (by decide)
  have J2 : 2 ^ (m - i) ≤ 16 := pow_le (by omega)
  obtain ⟨Ji, hJi⟩ : ∃ Ji : Int, Ji = ((2 ^ (m - i) : Nat) : Int) := ⟨_, rfl⟩
  rw [← hJi] at tw
  have m1 : big2 B Ji = true := mulOk (by omega) (by omega)
  have bp : 0 < B * Ji := Int.mul_pos b4 (by omega)
  have bb : B * Ji < 2 ^ 8000 := by
    have : B * Ji ≤ Big * 16 := Int.mul_le_mul b5 (by omega) (by omega) (by decide)
    omega
  obtain ⟨n0, hn0⟩ : ∃ n0, n0 = S.length := ⟨_, rfl⟩
  simp only [run_eq, ss_nil, ss_cons, s_nm, s_asg, s_par, par2, par3, s_aug, augD_add, augD_sub, s_augIx, augX_add, augX_sub, s_expr, s_ret, s_retN, s_pass, s_brk, s_cont, s_ite, s_for, s_while, seqF_nx, seqF_rt, seqF_bk, seqF_ct, fnD_rt, fnD_nx, g_nm, g_tp, g_ix, gs_nil, gs_cons, e_int, e_bl, e_non, e_str, e_var, getV_0, getV_s, e_gl, opt_some, e_bin, e_neg, negD_int, e_not, notD_bl, e_and, e_or, bE_app, bolD_bl, okM_app, e_cmp, e_chain, chE_app, e_ite, e_tup, e_lst, e_ix, e_rev, e_slA, e_slL, e_slH, e_slLH, sl1_L, sl1_H, sl2_LH, e_call, e_bi, e_mt, mtE_bits, mtE_app, mtE_ext, mtE_pop, e_pcall, sl2E_int, augE_ref, noX_ok, e_comp, es_nil, es_cons, ifD_bl, ifD_t, ifD_f, b_ok, b_assoc, fTurn_eq, turn_eq, inT_some, inC_some, soE_app, evT_nil, evT_one, t_nm, t_tp, ts_nil, ts_cons, mkL_f, mkL_t, o_add, o_sub, c_lt, c_le, c_gt, c_ge, c_eqI, c_neI, b_int, b_intB, b_abs, b_max2, b_min2, b_gcd, b_lenT, b_lenL, b_lenS, b_tupT, b_tupL, b_lstT, b_lstL, b_isiT, b_isiI, b_isiB, revT, revL, ixT0, ixT1, ixT2, ixL0, ixL1, isI, q_vlT, q_vlL, q_vlS, q_enT, q_enL, q_zpTT, q_zpTL, q_zpLT, q_zpLL, forD_some, List.set_cons_zero, List.set_cons_succ, List.map_cons, List.map_nil, List.length_cons, List.length_nil, List.cons_append, List.nil_append, List.replicate_succ, List.replicate_zero, Nat.reduceAdd, Nat.reduceSub, Nat.reduceEqDiff, if_true, Option.bind_some, wipeD, fd_law_wb_hybrid, ixD1, ln, q_rg1' hMi (show 2 ^ m ≤ LIM by omega)]
  rw [← hn0, ← hJi]
  refine WP_call (for_inv (P := fun f S' => ∃ e4, f = Fl.nx [some (DrD B l), some (.int mi), some (.int ii), some (.ref n0), e4] ∧ S' = S ++ [.lst (hyT l (2 ^ i) (2 ^ m) (2 ^ m))])
    (fun k env S' => ∃ e4, env = [some (DrD B l), some (.int mi), some (.int ii), some (.ref n0), e4] ∧ S' = S ++ [.lst (hyT l (2 ^ i) (2 ^ m) k)]) 0 ⟨none, rfl, rfl⟩ ?_ ?_) ?_
  · rintro k env S' y ⟨e4, rfl, rfl⟩ hk _ hy
    obtain ⟨rfl, hk2⟩ := natsD_get hy
    refine ⟨dep_nil, ?_⟩
    obtain ⟨ki, hki⟩ : ∃ ki : Int, ki = ((k - 0 : Nat) : Int) := ⟨_, rfl⟩
    rw [← hki]
    rw [Nat.sub_zero] at hki
    have hS : (S ++ [Cell.lst (hyT l (2 ^ i) (2 ^ m) k)])[n0]? = some (.lst (hyT l (2 ^ i) (2 ^ m) k)) := by rw [hn0]; exact get_app
    have ap : doMt .append (.ref n0) [.int (bs l (2 ^ i) (k % 2 ^ i) (2 ^ m))] (S ++ [Cell.lst (hyT l (2 ^ i) (2 ^ m) k)]) = .ok .non (S ++ [Cell.lst (hyT l (2 ^ i) (2 ^ m) (k + 1))]) := by
      rw [m_append hS (by unfold hyT; rw [List.length_map, List.length_range]; omega), hn0, set_app, hyT_snoc]
    simp only [run_eq, ss_nil, ss_cons, s_nm, s_asg, s_par, par2, par3, s_aug, augD_add, augD_sub, s_augIx, augX_add, augX_sub, s_expr, s_ret, s_retN, s_pass, s_brk, s_cont, s_ite, s_for, s_while, seqF_nx, seqF_rt, seqF_bk, seqF_ct, fnD_rt, fnD_nx, g_nm, g_tp, g_ix, gs_nil, gs_cons, e_int, e_bl, e_non, e_str, e_var, getV_0, getV_s, e_gl, opt_some, e_bin, e_neg, negD_int, e_not, notD_bl, e_and, e_or, bE_app, bolD_bl, okM_app, e_cmp, e_chain, chE_app, e_ite, e_tup, e_lst, e_ix, e_rev, e_slA, e_slL, e_slH, e_slLH, sl1_L, sl1_H, sl2_LH, e_call, e_bi, e_mt, mtE_bits, mtE_app, mtE_ext, mtE_pop, e_pcall, sl2E_int, augE_ref, noX_ok, e_comp, es_nil, es_cons, ifD_bl, ifD_t, ifD_f, b_ok, b_assoc, fTurn_eq, turn_eq, inT_some, inC_some, soE_app, evT_nil, evT_one, t_nm, t_tp, ts_nil, ts_cons, mkL_f, mkL_t, o_add, o_sub, c_lt, c_le, c_gt, c_ge, c_eqI, c_neI, b_int, b_intB, b_abs, b_max2, b_min2, b_gcd, b_lenT, b_lenL, b_lenS, b_tupT, b_tupL, b_lstT, b_lstL, b_isiT, b_isiI, b_isiB, revT, revL, ixT0, ixT1, ixT2, ixL0, ixL1, isI, q_vlT, q_vlL, q_vlS, q_enT, q_enL, q_zpTT, q_zpTL, q_zpLT, q_zpLL, forD_some, List.set_cons_zero, List.set_cons_succ, List.map_cons, List.map_nil, List.length_cons, List.length_nil, List.cons_append, List.nil_append, List.replicate_succ, List.replicate_zero, Nat.reduceAdd, Nat.reduceSub, Nat.reduceEqDiff, if_true, Option.bind_some, wipeD, hw _ m k mi ki h1 hki (by omega), slH_wd hi him, hb _ B l m i k mi h.len hm h1 him, ap, WP_ok]
    exact ⟨_, by first | rfl | trivial, by first | rfl | trivial⟩
  · rintro env S' ⟨e4, rfl, rfl⟩
    rw [natsD_len, Nat.zero_add]
    exact ⟨dep_nil, _, by first | rfl | trivial, by first | rfl | trivial⟩
  · rintro f S' ⟨e4, rfl, rfl⟩
    have hS : (S ++ [Cell.lst (hyT l (2 ^ i) (2 ^ m) (2 ^ m))])[n0]? = some (.lst (hyT l (2 ^ i) (2 ^ m) (2 ^ m))) := by rw [hn0]; exact get_app
    have hy : D.tup (hyT l (2 ^ i) (2 ^ m) (2 ^ m)) = tI (hyb l (2 ^ i) (2 ^ m)) := by unfold tI hyb hyT; rw [List.map_map]; rfl
    simp only [run_eq, ss_nil, ss_cons, s_nm, s_asg, s_par, par2, par3, s_aug, augD_add, augD_sub, s_augIx, augX_add, augX_sub, s_expr, s_ret, s_retN, s_pass, s_brk, s_cont, s_ite, s_for, s_while, seqF_nx, seqF_rt, seqF_bk, seqF_ct, fnD_rt, fnD_nx, g_nm, g_tp, g_ix, gs_nil, gs_cons, e_int, e_bl, e_non, e_str, e_var, getV_0, getV_s, e_gl, opt_some, e_bin, e_neg, negD_int, e_not, notD_bl, e_and, e_or, bE_app, bolD_bl, okM_app, e_cmp, e_chain, chE_app, e_ite, e_tup, e_lst, e_ix, e_rev, e_slA, e_slL, e_slH, e_slLH, sl1_L, sl1_H, sl2_LH, e_call, e_bi, e_mt, mtE_bits, mtE_app, mtE_ext, mtE_pop, e_pcall, sl2E_int, augE_ref, noX_ok, e_comp, es_nil, es_cons, ifD_bl, ifD_t, ifD_f, b_ok, b_assoc, fTurn_eq, turn_eq, inT_some, inC_some, soE_app, evT_nil, evT_one, t_nm, t_tp, ts_nil, ts_cons, mkL_f, mkL_t, o_add, o_sub, c_lt, c_le, c_gt, c_ge, c_eqI, c_neI, b_int, b_intB, b_abs, b_max2, b_min2, b_gcd, b_lenT, b_lenL, b_lenS, b_tupT, b_tupL, b_lstT, b_lstL, b_isiT, b_isiI, b_isiB, revT, revL, ixT0, ixT1, ixT2, ixL0, ixL1, isI, q_vlT, q_vlL, q_vlS, q_enT, q_enL, q_zpTT, q_zpTL, q_zpLT, q_zpLL, forD_some, List.set_cons_zero, List.set_cons_succ, List.map_cons, List.map_nil, List.length_cons, List.length_nil, List.cons_append, List.nil_append, List.replicate_succ, List.replicate_zero, Nat.reduceAdd, Nat.reduceSub, Nat.reduceEqDiff, if_true, Option.bind_some, wipeD, ixD0, tw, o_mul m1, b_tupR hS, hy, hl _ (B * Ji) (hyb l (2 ^ i) (2 ^ m)) bp bb (by simp [hyb]; omega), WP_ok]
end LW
namespace LW
open PySem L2 Ev
/-! ### draws -/
def UpOk (cl : Nat → List D → M D) : Prop := ∀ (S : Store) (n N : Nat) (t : Int), Di n N S → 0 < t → t < 2 ^ 200 → N < 2 ^ 100 → WP (cl 32 [.ref n, .int t] S) fun d S' => ∃ r : Int, d = .int r ∧ 0 ≤ r ∧ r < t ∧ Fr n S S' ∧ Di n (N + 1) S'
theorem of_spec {C : Ev.Ctx} {S : Store} {n N : Nat} {xs : List D} (hu : UpOk C.cl) (h : Di n N S) (hN : N < 2 ^ 100) (h0 : xs ≠ []) (hx : xs.length < 100) :
    WP (runF C fd_law_wb_of [.ref n, .lst xs] S) fun d S' => d ∈ xs ∧ Fr n S S' ∧ Di n (N + 1) S' := by
  have hp : 0 < (xs.length : Int) := by have := List.length_pos_iff.mpr h0; omega
  simp only [run_eq, ss_nil, ss_cons, s_nm, s_asg, s_par, par2, par3, s_aug, augD_add, augD_sub, s_augIx, augX_add, augX_sub, s_expr, s_ret, s_retN, s_pass, s_brk, s_cont, s_ite, s_for, s_while, seqF_nx, seqF_rt, seqF_bk, seqF_ct, fnD_rt, fnD_nx, g_nm, g_tp, g_ix, gs_nil, gs_cons, e_int, e_bl, e_non, e_str, e_var, getV_0, getV_s, e_gl, opt_some, e_bin, e_neg, negD_int, e_not, notD_bl, e_and, e_or, bE_app, bolD_bl, okM_app, e_cmp, e_chain, chE_app, e_ite, e_tup, e_lst, e_ix, e_rev, e_slA, e_slL, e_slH, e_slLH, sl1_L, sl1_H, sl2_LH, e_call, e_bi, e_mt, mtE_bits, mtE_app, mtE_ext, mtE_pop, e_pcall, sl2E_int, augE_ref, noX_ok, e_comp, es_nil, es_cons, ifD_bl, ifD_t, ifD_f, b_ok, b_assoc, fTurn_eq, turn_eq, inT_some, inC_some, soE_app, evT_nil, evT_one, t_nm, t_tp, ts_nil, ts_cons, mkL_f, mkL_t, o_add, o_sub, c_lt, c_le, c_gt, c_ge, c_eqI, c_neI, b_int, b_intB, b_abs, b_max2, b_min2, b_gcd, b_lenT, b_lenL, b_lenS, b_tupT, b_tupL, b_lstT, b_lstL, b_isiT, b_isiI, b_isiB, revT, revL, ixT0, ixT1, ixT2, ixL0, ixL1, isI, q_vlT, q_vlL, q_vlS, q_enT, q_enL, q_zpTT, q_zpTL, q_zpLT, q_zpLL, forD_some, List.set_cons_zero, List.set_cons_succ, List.map_cons, List.map_nil, List.length_cons, List.length_nil, List.cons_append, List.nil_append, List.replicate_succ, List.replicate_zero, Nat.reduceAdd, Nat.reduceSub, Nat.reduceEqDiff, if_true, Option.bind_some, wipeD, fd_law_wb_of]
  refine WP_call (hu S n N _ h hp (by omega) hN) fun d S' ⟨r, e, h1, h2, h3, h4⟩ => ?_
  subst e
  have hr : r.toNat < xs.length := by omega
  simp only [run_eq, ss_nil, ss_cons, s_nm, s_asg, s_par, par2, par3, s_aug, augD_add, augD_sub, s_augIx, augX_add, augX_sub, s_expr, s_ret, s_retN, s_pass, s_brk, s_cont, s_ite, s_for, s_while, seqF_nx, seqF_rt, seqF_bk, seqF_ct, fnD_rt, fnD_nx, g_nm, g_tp, g_ix, gs_nil, gs_cons, e_int, e_bl, e_non, e_str, e_var, getV_0, getV_s, e_gl, opt_some, e_bin, e_neg, negD_int, e_not, notD_bl, e_and, e_or, bE_app, bolD_bl, okM_app, e_cmp, e_chain, chE_app, e_ite, e_tup, e_lst, e_ix, e_rev, e_slA, e_slL, e_slH, e_slLH, sl1_L, sl1_H, sl2_LH, e_call, e_bi, e_mt, mtE_bits, mtE_app, mtE_ext, mtE_pop, e_pcall, sl2E_int, augE_ref, noX_ok, e_comp, es_nil, es_cons, ifD_bl, ifD_t, ifD_f, b_ok, b_assoc, fTurn_eq, turn_eq, inT_some, inC_some, soE_app, evT_nil, evT_one, t_nm, t_tp, ts_nil, ts_cons, mkL_f, mkL_t, o_add, o_sub, c_lt, c_le, c_gt, c_ge, c_eqI, c_neI, b_int, b_intB, b_abs, b_max2, b_min2, b_gcd, b_lenT, b_lenL, b_lenS, b_tupT, b_tupL, b_lstT, b_lstL, b_isiT, b_isiI, b_isiB, revT, revL, ixT0, ixT1, ixT2, ixL0, ixL1, isI, q_vlT, q_vlL, q_vlS, q_enT, q_enL, q_zpTT, q_zpTL, q_zpLT, q_zpLL, forD_some, List.set_cons_zero, List.set_cons_succ, List.map_cons, List.map_nil, List.length_cons, List.length_nil, List.cons_append, List.nil_append, List.replicate_succ, List.replicate_zero, Nat.reduceAdd, Nat.reduceSub, Nat.reduceEqDiff, if_true, Option.bind_some, wipeD, ixL' (xs := xs) (i := r) (k := r.toNat) (by omega) (List.getElem?_eq_getElem hr), WP_ok]
  exact ⟨List.getElem_mem hr, h3, h4⟩
def OfOk (cl : Nat → List D → M D) : Prop := ∀ (S : Store) (n N : Nat) (xs : List D), Di n N S → N < 2 ^ 100 → xs ≠ [] → xs.length < 100 → WP (cl 34 [.ref n, .lst xs] S) fun d S' => d ∈ xs ∧ Fr n S S' ∧ Di n (N + 1) S'
/-- a row of drawn numbers -/
theorem comp_draw {f : D → M (Option D)} {S : Store} {n N m : Nat} {R : Int → Prop} (h : Di n N S) (hN : N + m < 2 ^ 100)
    (hf : ∀ (i : Nat) (S' : Store) (M : Nat), i < m → Di n M S' → M < 2 ^ 100 → WP (f (.int (i : Int)) S') fun o S'' => ∃ r : Int, o = some (.int r) ∧ R r ∧ Fr n S' S'' ∧ Di n (M + 1) S'') :
    WP (noX (compL [] f (natsD m) [] S)) fun acc S' => ∃ l : List Int, acc = l.map .int ∧ l.length = m ∧ (∀ x, x ∈ l → R x) ∧ Fr n S S' ∧ Di n (N + m) S' := by
  rw [WP_noX]
  refine comp_inv (fun i acc S' => ∃ l : List Int, acc = l.map .int ∧ l.length = i ∧ (∀ x, x ∈ l → R x) ∧ Fr n S S' ∧ Di n (N + i) S') 0 ⟨[], rfl, rfl, fun x hx => (nomatch hx), Fr.refl _ _, h⟩ ?_ ?_
  · rintro i acc S' x ⟨l, rfl, hl, hs, hfr, hd⟩ hi _ hx
    obtain ⟨rfl, hi2⟩ := natsD_get hx
    refine ⟨dep_nil, (hf i S' (N + i) hi2 hd (by omega)).mono fun o S3 ⟨r, e, g1, g2, g3⟩ => ?_⟩
    subst e
    refine ⟨l ++ [r], by simp, by simp [hl], fun x hx => ?_, hfr.trans g2, g3⟩
    rcases List.mem_append.mp hx with hx | hx
    · exact hs x hx
    · have : x = r := by simpa using hx
      subst this; exact g1
  · rintro acc S' ⟨l, rfl, hl, hs, hfr, hd⟩
    rw [natsD_len] at hl hd
    exact ⟨dep_nil, l, rfl, by omega, hs, hfr, hd.mono (by omega)⟩
theorem o_mulT {d : D} {k : Int} {m : Nat} {b : Bool} {S : Store} (hk : k = (m : Int)) (h1 : 2 ≤ m) (h2 : m ≤ 1000) : doOp .mul b (.tup [d]) (.int k) S = .ok (.tup (List.replicate m d)) S := by
  have e : ∀ m : Nat, (List.replicate m [d]).flatten = List.replicate m d := fun m => by
    induction m with
    | zero => rfl
    | succ m ih => rw [List.replicate_succ, List.replicate_succ, List.flatten_cons, ih]; rfl
  have a1 : ¬ k = 1 := by omega
  have a2 : ¬ k ≤ 0 := by omega
  have a3 : 2 ≤ k := by omega
  have a4 : k ≤ 1000 := by omega
  have a5 : k.toNat = m := by omega
  simp [doOp, op2, a1, a2, a3, a4, a5, e]
theorem bits_spec {C : Ev.Ctx} {S : Store} {n N M : Nat} {Mi : Int} (hu : UpOk C.cl) (h : Di n N S) (hN : N + M + 1 < 2 ^ 100) (hM : Mi = (M : Int)) (h2 : 2 ≤ M) (hM2 : M ≤ 64) :
    WP (runF C fd_law_wb_bits [.ref n, .int Mi] S) fun d S' => ∃ t, d = tI t ∧ Bt t M ∧ Fr n S S' ∧ Di n (N + 1 + M) S' := by
  have lg := lim_ge
  simp only [run_eq, ss_nil, ss_cons, s_nm, s_asg, s_par, par2, par3, s_aug, augD_add, augD_sub, s_augIx, augX_add, augX_sub, s_expr, s_ret, s_retN, s_pass, s_brk, s_cont, s_ite, s_for, s_while, seqF_nx, seqF_rt, seqF_bk, seqF_ct, fnD_rt, fnD_nx, g_nm, g_tp, g_ix, gs_nil, gs_cons, e_int, e_bl, e_non, e_str, e_var, getV_0, getV_s, e_gl, opt_some, e_bin, e_neg, negD_int, e_not, notD_bl, e_and, e_or, bE_app, bolD_bl, okM_app, e_cmp, e_chain, chE_app, e_ite, e_tup, e_lst, e_ix, e_rev, e_slA, e_slL, e_slH, e_slLH, sl1_L, sl1_H, sl2_LH, e_call, e_bi, e_mt, mtE_bits, mtE_app, mtE_ext, mtE_pop, e_pcall, sl2E_int, augE_ref, noX_ok, e_comp, es_nil, es_cons, ifD_bl, ifD_t, ifD_f, b_ok, b_assoc, fTurn_eq, turn_eq, inT_some, inC_some, soE_app, evT_nil, evT_one, t_nm, t_tp, ts_nil, ts_cons, mkL_f, mkL_t, o_add, o_sub, c_lt, c_le, c_gt, c_ge, c_eqI, c_neI, b_int, b_intB, b_abs, b_max2, b_min2, b_gcd, b_lenT, b_lenL, b_lenS, b_tupT, b_tupL, b_lstT, b_lstL, b_isiT, b_isiI, b_isiB, revT, revL, ixT0, ixT1, ixT2, ixL0, ixL1, isI, q_vlT, q_vlL, q_vlS, q_enT, q_enL, q_zpTT, q_zpTL, q_zpLT, q_zpLL, forD_some, List.set_cons_zero, List.set_cons_succ, List.map_cons, List.map_nil, List.length_cons, List.length_nil, List.cons_append, List.nil_append, List.replicate_succ, List.replicate_zero, Nat.reduceAdd, Nat.reduceSub, Nat.reduceEqDiff, if_true, Option.bind_some, wipeD, fd_law_wb_bits]
  refine WP_call (hu S n N _ h (by decide) (by decide) (by omega)) fun d S1 ⟨way, e, h1, h2, h3, h4⟩ => ?_
  subst e
  simp only [run_eq, ss_nil, ss_cons, s_nm, s_asg, s_par, par2, par3, s_aug, augD_add, augD_sub, s_augIx, augX_add, augX_sub, s_expr, s_ret, s_retN, s_pass, s_brk, s_cont, s_ite, s_for, s_while, seqF_nx, seqF_rt, seqF_bk, seqF_ct, fnD_rt, fnD_nx, g_nm, g_tp, g_ix, gs_nil, gs_cons, e_int, e_bl, e_non, e_str, e_var, getV_0, getV_s, e_gl, opt_some, e_bin, e_neg, negD_int, e_not, notD_bl, e_and, e_or, bE_app, bolD_bl, okM_app, e_cmp, e_chain, chE_app, e_ite, e_tup, e_lst, e_ix, e_rev, e_slA, e_slL, e_slH, e_slLH, sl1_L, sl1_H, sl2_LH, e_call, e_bi, e_mt, mtE_bits, mtE_app, mtE_ext, mtE_pop, e_pcall, sl2E_int, augE_ref, noX_ok, e_comp, es_nil, es_cons, ifD_bl, ifD_t, ifD_f, b_ok, b_assoc, fTurn_eq, turn_eq, inT_some, inC_some, soE_app, evT_nil, evT_one, t_nm, t_tp, ts_nil, ts_cons, mkL_f, mkL_t, o_add, o_sub, c_lt, c_le, c_gt, c_ge, c_eqI, c_neI, b_int, b_intB, b_abs, b_max2, b_min2, b_gcd, b_lenT, b_lenL, b_lenS, b_tupT, b_tupL, b_lstT, b_lstL, b_isiT, b_isiI, b_isiB, revT, revL, ixT0, ixT1, ixT2, ixL0, ixL1, isI, q_vlT, q_vlL, q_vlS, q_enT, q_enL, q_zpTT, q_zpTL, q_zpLT, q_zpLL, forD_some, List.set_cons_zero, List.set_cons_succ, List.map_cons, List.map_nil, List.length_cons, List.length_nil, List.cons_append, List.nil_append, List.replicate_succ, List.replicate_zero, Nat.reduceAdd, Nat.reduceSub, Nat.reduceEqDiff, if_true, Option.bind_some, wipeD]
  by_cases hw : way < 2
  · simp only [run_eq, ss_nil, ss_cons, s_nm, s_asg, s_par, par2, par3, s_aug, augD_add, augD_sub, s_augIx, augX_add, augX_sub, s_expr, s_ret, s_retN, s_pass, s_brk, s_cont, s_ite, s_for, s_while, seqF_nx, seqF_rt, seqF_bk, seqF_ct, fnD_rt, fnD_nx, g_nm, g_tp, g_ix, gs_nil, gs_cons, e_int, e_bl, e_non, e_str, e_var, getV_0, getV_s, e_gl, opt_some, e_bin, e_neg, negD_int, e_not, notD_bl, e_and, e_or, bE_app, bolD_bl, okM_app, e_cmp, e_chain, chE_app, e_ite, e_tup, e_lst, e_ix, e_rev, e_slA, e_slL, e_slH, e_slLH, sl1_L, sl1_H, sl2_LH, e_call, e_bi, e_mt, mtE_bits, mtE_app, mtE_ext, mtE_pop, e_pcall, sl2E_int, augE_ref, noX_ok, e_comp, es_nil, es_cons, ifD_bl, ifD_t, ifD_f, b_ok, b_assoc, fTurn_eq, turn_eq, inT_some, inC_some, soE_app, evT_nil, evT_one, t_nm, t_tp, ts_nil, ts_cons, mkL_f, mkL_t, o_add, o_sub, c_lt, c_le, c_gt, c_ge, c_eqI, c_neI, b_int, b_intB, b_abs, b_max2, b_min2, b_gcd, b_lenT, b_lenL, b_lenS, b_tupT, b_tupL, b_lstT, b_lstL, b_isiT, b_isiI, b_isiB, revT, revL, ixT0, ixT1, ixT2, ixL0, ixL1, isI, q_vlT, q_vlL, q_vlS, q_enT, q_enL, q_zpTT, q_zpTL, q_zpLT, q_zpLL, forD_some, List.set_cons_zero, List.set_cons_succ, List.map_cons, List.map_nil, List.length_cons, List.length_nil, List.cons_append, List.nil_append, List.replicate_succ, List.replicate_zero, Nat.reduceAdd, Nat.reduceSub, Nat.reduceEqDiff, if_true, Option.bind_some, wipeD, hw, decide_true, o_mulT hM (show 2 ≤ M by omega) (show M ≤ 1000 by omega), WP_ok]
    refine ⟨List.replicate M way, by unfold tI; rw [List.map_replicate], ⟨by simp, fun x hx => ?_⟩, h3, h4.mono (by omega)⟩
    rw [(List.mem_replicate.mp hx).2]; omega
  · simp only [run_eq, ss_nil, ss_cons, s_nm, s_asg, s_par, par2, par3, s_aug, augD_add, augD_sub, s_augIx, augX_add, augX_sub, s_expr, s_ret, s_retN, s_pass, s_brk, s_cont, s_ite, s_for, s_while, seqF_nx, seqF_rt, seqF_bk, seqF_ct, fnD_rt, fnD_nx, g_nm, g_tp, g_ix, gs_nil, gs_cons, e_int, e_bl, e_non, e_str, e_var, getV_0, getV_s, e_gl, opt_some, e_bin, e_neg, negD_int, e_not, notD_bl, e_and, e_or, bE_app, bolD_bl, okM_app, e_cmp, e_chain, chE_app, e_ite, e_tup, e_lst, e_ix, e_rev, e_slA, e_slL, e_slH, e_slLH, sl1_L, sl1_H, sl2_LH, e_call, e_bi, e_mt, mtE_bits, mtE_app, mtE_ext, mtE_pop, e_pcall, sl2E_int, augE_ref, noX_ok, e_comp, es_nil, es_cons, ifD_bl, ifD_t, ifD_f, b_ok, b_assoc, fTurn_eq, turn_eq, inT_some, inC_some, soE_app, evT_nil, evT_one, t_nm, t_tp, ts_nil, ts_cons, mkL_f, mkL_t, o_add, o_sub, c_lt, c_le, c_gt, c_ge, c_eqI, c_neI, b_int, b_intB, b_abs, b_max2, b_min2, b_gcd, b_lenT, b_lenL, b_lenS, b_tupT, b_tupL, b_lstT, b_lstL, b_isiT, b_isiI, b_isiB, revT, revL, ixT0, ixT1, ixT2, ixL0, ixL1, isI, q_vlT, q_vlL, q_vlS, q_enT, q_enL, q_zpTT, q_zpTL, q_zpLT, q_zpLL, forD_some, List.set_cons_zero, List.set_cons_succ, List.map_cons, List.map_nil, List.length_cons, List.length_nil, List.cons_append, List.nil_append, List.replicate_succ, List.replicate_zero, Nat.reduceAdd, Nat.reduceSub, Nat.reduceEqDiff, if_true, Option.bind_some, wipeD, hw, decide_false, Bool.false_eq_true, if_false, q_rg1' hM (show M ≤ LIM by omega), compD_some (show (natsD M).length ≤ LIM by rw [natsD_len]; omega)]
    refine WP_call (comp_draw (R := fun x => x = 0 ∨ x = 1) h4 (by omega) fun i S' N' hi hd hM => ?_) fun ys S4 ⟨l, e, hl, hr, f4, d4⟩ => ?_
    · simp only [run_eq, ss_nil, ss_cons, s_nm, s_asg, s_par, par2, par3, s_aug, augD_add, augD_sub, s_augIx, augX_add, augX_sub, s_expr, s_ret, s_retN, s_pass, s_brk, s_cont, s_ite, s_for, s_while, seqF_nx, seqF_rt, seqF_bk, seqF_ct, fnD_rt, fnD_nx, g_nm, g_tp, g_ix, gs_nil, gs_cons, e_int, e_bl, e_non, e_str, e_var, getV_0, getV_s, e_gl, opt_some, e_bin, e_neg, negD_int, e_not, notD_bl, e_and, e_or, bE_app, bolD_bl, okM_app, e_cmp, e_chain, chE_app, e_ite, e_tup, e_lst, e_ix, e_rev, e_slA, e_slL, e_slH, e_slLH, sl1_L, sl1_H, sl2_LH, e_call, e_bi, e_mt, mtE_bits, mtE_app, mtE_ext, mtE_pop, e_pcall, sl2E_int, augE_ref, noX_ok, e_comp, es_nil, es_cons, ifD_bl, ifD_t, ifD_f, b_ok, b_assoc, fTurn_eq, turn_eq, inT_some, inC_some, soE_app, evT_nil, evT_one, t_nm, t_tp, ts_nil, ts_cons, mkL_f, mkL_t, o_add, o_sub, c_lt, c_le, c_gt, c_ge, c_eqI, c_neI, b_int, b_intB, b_abs, b_max2, b_min2, b_gcd, b_lenT, b_lenL, b_lenS, b_tupT, b_tupL, b_lstT, b_lstL, b_isiT, b_isiI, b_isiB, revT, revL, ixT0, ixT1, ixT2, ixL0, ixL1, isI, q_vlT, q_vlL, q_vlS, q_enT, q_enL, q_zpTT, q_zpTL, q_zpLT, q_zpLL, forD_some, List.set_cons_zero, List.set_cons_succ, List.map_cons, List.map_nil, List.length_cons, List.length_nil, List.cons_append, List.nil_append, List.replicate_succ, List.replicate_zero, Nat.reduceAdd, Nat.reduceSub, Nat.reduceEqDiff, if_true, Option.bind_some, wipeD]
      refine WP_call (hu S' n N' _ hd (by decide) (by decide) hM) fun d S5 ⟨r, e, g1, g2, g3, g4⟩ => ?_
      subst e
      simp only [run_eq, ss_nil, ss_cons, s_nm, s_asg, s_par, par2, par3, s_aug, augD_add, augD_sub, s_augIx, augX_add, augX_sub, s_expr, s_ret, s_retN, s_pass, s_brk, s_cont, s_ite, s_for, s_while, seqF_nx, seqF_rt, seqF_bk, seqF_ct, fnD_rt, fnD_nx, g_nm, g_tp, g_ix, gs_nil, gs_cons, e_int, e_bl, e_non, e_str, e_var, getV_0, getV_s, e_gl, opt_some, e_bin, e_neg, negD_int, e_not, notD_bl, e_and, e_or, bE_app, bolD_bl, okM_app, e_cmp, e_chain, chE_app, e_ite, e_tup, e_lst, e_ix, e_rev, e_slA, e_slL, e_slH, e_slLH, sl1_L, sl1_H, sl2_LH, e_call, e_bi, e_mt, mtE_bits, mtE_app, mtE_ext, mtE_pop, e_pcall, sl2E_int, augE_ref, noX_ok, e_comp, es_nil, es_cons, ifD_bl, ifD_t, ifD_f, b_ok, b_assoc, fTurn_eq, turn_eq, inT_some, inC_some, soE_app, evT_nil, evT_one, t_nm, t_tp, ts_nil, ts_cons, mkL_f, mkL_t, o_add, o_sub, c_lt, c_le, c_gt, c_ge, c_eqI, c_neI, b_int, b_intB, b_abs, b_max2, b_min2, b_gcd, b_lenT, b_lenL, b_lenS, b_tupT, b_tupL, b_lstT, b_lstL, b_isiT, b_isiI, b_isiB, revT, revL, ixT0, ixT1, ixT2, ixL0, ixL1, isI, q_vlT, q_vlL, q_vlS, q_enT, q_enL, q_zpTT, q_zpTL, q_zpLT, q_zpLL, forD_some, List.set_cons_zero, List.set_cons_succ, List.map_cons, List.map_nil, List.length_cons, List.length_nil, List.cons_append, List.nil_append, List.replicate_succ, List.replicate_zero, Nat.reduceAdd, Nat.reduceSub, Nat.reduceEqDiff, if_true, Option.bind_some, wipeD, WP_ok]
      exact ⟨r, rfl, by omega, g3, g4⟩
    · subst e
      simp only [run_eq, ss_nil, ss_cons, s_nm, s_asg, s_par, par2, par3, s_aug, augD_add, augD_sub, s_augIx, augX_add, augX_sub, s_expr, s_ret, s_retN, s_pass, s_brk, s_cont, s_ite, s_for, s_while, seqF_nx, seqF_rt, seqF_bk, seqF_ct, fnD_rt, fnD_nx, g_nm, g_tp, g_ix, gs_nil, gs_cons, e_int, e_bl, e_non, e_str, e_var, getV_0, getV_s, e_gl, opt_some, e_bin, e_neg, negD_int, e_not, notD_bl, e_and, e_or, bE_app, bolD_bl, okM_app, e_cmp, e_chain, chE_app, e_ite, e_tup, e_lst, e_ix, e_rev, e_slA, e_slL, e_slH, e_slLH, sl1_L, sl1_H, sl2_LH, e_call, e_bi, e_mt, mtE_bits, mtE_app, mtE_ext, mtE_pop, e_pcall, sl2E_int, augE_ref, noX_ok, e_comp, es_nil, es_cons, ifD_bl, ifD_t, ifD_f, b_ok, b_assoc, fTurn_eq, turn_eq, inT_some, inC_some, soE_app, evT_nil, evT_one, t_nm, t_tp, ts_nil, ts_cons, mkL_f, mkL_t, o_add, o_sub, c_lt, c_le, c_gt, c_ge, c_eqI, c_neI, b_int, b_intB, b_abs, b_max2, b_min2, b_gcd, b_lenT, b_lenL, b_lenS, b_tupT, b_tupL, b_lstT, b_lstL, b_isiT, b_isiI, b_isiB, revT, revL, ixT0, ixT1, ixT2, ixL0, ixL1, isI, q_vlT, q_vlL, q_vlS, q_enT, q_enL, q_zpTT, q_zpTL, q_zpLT, q_zpLL, forD_some, List.set_cons_zero, List.set_cons_succ, List.map_cons, List.map_nil, List.length_cons, List.length_nil, List.cons_append, List.nil_append, List.replicate_succ, List.replicate_zero, Nat.reduceAdd, Nat.reduceSub, Nat.reduceEqDiff, if_true, Option.bind_some, wipeD, WP_ok]
      exact ⟨l, rfl, ⟨hl, hr⟩, h3.trans f4, d4⟩
theorem fr_set {n k : Nat} {S S' : Store} {c : Cell} (h : Fr n S S') (hk : S.length ≤ k) : Fr n S (S'.set k c) :=
  ⟨by simpa using h.1, fun m hm hn => by rw [List.getElem?_set_ne (by omega)]; exact h.2 m hm hn⟩
theorem di_set {n k N : Nat} {S : Store} {c : Cell} (h : Di n N S) (hk : k ≠ n) : Di n N (S.set k c) := by
  obtain ⟨a, b, d, h1, h2⟩ := h
  exact ⟨a, b, d, by rw [List.getElem?_set_ne hk]; exact h1, h2⟩
theorem b_sumR {is : List Int} {n : Nat} {m : Bool} {S : Store} (hS : S[n]? = some (.lst (is.map .int))) : doBi .sum m [.ref n] S = .ok (.int is.sum) S := by simp [doBi, seqOf, hS, intsOf_map]
/-- counts that lie in the store -/
structure Ct (n c : Nat) (S S' : Store) (N M : Nat) (l : List Int) : Prop where
  len : l.length = M
  rng : ∀ x, x ∈ l → 0 ≤ x ∧ x ≤ 2000000000000000000000000000000
  new : S.length ≤ c
  ne : c ≠ n
  at_ : S'[c]? = some (.lst (l.map .int))
  fr : Fr n S S'
  di : Di n N S'
theorem rep_int (v : Int) : ∀ M : Nat, (List.replicate M [D.int v]).flatten = (List.replicate M v).map D.int
  | 0 => rfl
  | M + 1 => by rw [List.replicate_succ, List.flatten_cons, rep_int v M, List.replicate_succ]; rfl
theorem again_spec {C : Ev.Ctx} {S S4 : Store} {n c N M : Nat} {Mi way k v : Int} {e3 e5 e6 e7 : Option D} {l : List Int} {Q : List Int → Prop} (hM : Mi = (M : Int)) (hM2 : M ≤ 64) (hn : n < S.length) (hv : 0 ≤ v ∧ v ≤ 1) (h : Ct n c S S4 N M l) (q : Q l) (q2 : Q (List.replicate M v)) :
    WP (evS C (.ite (.cmp .eq (.var 2) (.int k)) [.asg (.nm 4) (.bin .mul true (.lst false [(.int v)]) (.var 1))] []) [some (.ref n), some (.int Mi), some (.int way), e3, some (.ref c), e5, e6, e7] S4)
      fun f S' => ∃ c' l', f = .nx [some (.ref n), some (.int Mi), some (.int way), e3, some (.ref c'), e5, e6, e7] ∧ Ct n c' S S' N M l' ∧ Q l' := by
  have lg := lim_ge
  simp only [run_eq, ss_nil, ss_cons, s_nm, s_asg, s_par, par2, par3, s_aug, augD_add, augD_sub, s_augIx, augX_add, augX_sub, s_expr, s_ret, s_retN, s_pass, s_brk, s_cont, s_ite, s_for, s_while, seqF_nx, seqF_rt, seqF_bk, seqF_ct, fnD_rt, fnD_nx, g_nm, g_tp, g_ix, gs_nil, gs_cons, e_int, e_bl, e_non, e_str, e_var, getV_0, getV_s, e_gl, opt_some, e_bin, e_neg, negD_int, e_not, notD_bl, e_and, e_or, bE_app, bolD_bl, okM_app, e_cmp, e_chain, chE_app, e_ite, e_tup, e_lst, e_ix, e_rev, e_slA, e_slL, e_slH, e_slLH, sl1_L, sl1_H, sl2_LH, e_call, e_bi, e_mt, mtE_bits, mtE_app, mtE_ext, mtE_pop, e_pcall, sl2E_int, augE_ref, noX_ok, e_comp, es_nil, es_cons, ifD_bl, ifD_t, ifD_f, b_ok, b_assoc, fTurn_eq, turn_eq, inT_some, inC_some, soE_app, evT_nil, evT_one, t_nm, t_tp, ts_nil, ts_cons, mkL_f, mkL_t, o_add, o_sub, c_lt, c_le, c_gt, c_ge, c_eqI, c_neI, b_int, b_intB, b_abs, b_max2, b_min2, b_gcd, b_lenT, b_lenL, b_lenS, b_tupT, b_tupL, b_lstT, b_lstL, b_isiT, b_isiI, b_isiB, revT, revL, ixT0, ixT1, ixT2, ixL0, ixL1, isI, q_vlT, q_vlL, q_vlS, q_enT, q_enL, q_zpTT, q_zpTL, q_zpLT, q_zpLL, forD_some, List.set_cons_zero, List.set_cons_succ, List.map_cons, List.map_nil, List.length_cons, List.length_nil, List.cons_append, List.nil_append, List.replicate_succ, List.replicate_zero, Nat.reduceAdd, Nat.reduceSub, Nat.reduceEqDiff, if_true, Option.bind_some, wipeD]
  by_cases hw : way = k
  · simp only [run_eq, ss_nil, ss_cons, s_nm, s_asg, s_par, par2, par3, s_aug, augD_add, augD_sub, s_augIx, augX_add, augX_sub, s_expr, s_ret, s_retN, s_pass, s_brk, s_cont, s_ite, s_for, s_while, seqF_nx, seqF_rt, seqF_bk, seqF_ct, fnD_rt, fnD_nx, g_nm, g_tp, g_ix, gs_nil, gs_cons, e_int, e_bl, e_non, e_str, e_var, getV_0, getV_s, e_gl, opt_some, e_bin, e_neg, negD_int, e_not, notD_bl, e_and, e_or, bE_app, bolD_bl, okM_app, e_cmp, e_chain, chE_app, e_ite, e_tup, e_lst, e_ix, e_rev, e_slA, e_slL, e_slH, e_slLH, sl1_L, sl1_H, sl2_LH, e_call, e_bi, e_mt, mtE_bits, mtE_app, mtE_ext, mtE_pop, e_pcall, sl2E_int, augE_ref, noX_ok, e_comp, es_nil, es_cons, ifD_bl, ifD_t, ifD_f, b_ok, b_assoc, fTurn_eq, turn_eq, inT_some, inC_some, soE_app, evT_nil, evT_one, t_nm, t_tp, ts_nil, ts_cons, mkL_f, mkL_t, o_add, o_sub, c_lt, c_le, c_gt, c_ge, c_eqI, c_neI, b_int, b_intB, b_abs, b_max2, b_min2, b_gcd, b_lenT, b_lenL, b_lenS, b_tupT, b_tupL, b_lstT, b_lstL, b_isiT, b_isiI, b_isiB, revT, revL, ixT0, ixT1, ixT2, ixL0, ixL1, isI, q_vlT, q_vlL, q_vlS, q_enT, q_enL, q_zpTT, q_zpTL, q_zpLT, q_zpLL, forD_some, List.set_cons_zero, List.set_cons_succ, List.map_cons, List.map_nil, List.length_cons, List.length_nil, List.cons_append, List.nil_append, List.replicate_succ, List.replicate_zero, Nat.reduceAdd, Nat.reduceSub, Nat.reduceEqDiff, if_true, Option.bind_some, wipeD, hw, decide_true, o_mulL' (xs := [D.int v]) M hM (by simp; omega) (by omega), rep_int, WP_ok]
    have hl := h.fr.1
    refine ⟨S4.length, List.replicate M v, rfl, ⟨by simp, fun x hx => ?_, hl, by omega, get_app, h.fr.trans Fr.app, h.di.app⟩, q2⟩
    rw [(List.mem_replicate.mp hx).2]; omega
  · simp only [run_eq, ss_nil, ss_cons, s_nm, s_asg, s_par, par2, par3, s_aug, augD_add, augD_sub, s_augIx, augX_add, augX_sub, s_expr, s_ret, s_retN, s_pass, s_brk, s_cont, s_ite, s_for, s_while, seqF_nx, seqF_rt, seqF_bk, seqF_ct, fnD_rt, fnD_nx, g_nm, g_tp, g_ix, gs_nil, gs_cons, e_int, e_bl, e_non, e_str, e_var, getV_0, getV_s, e_gl, opt_some, e_bin, e_neg, negD_int, e_not, notD_bl, e_and, e_or, bE_app, bolD_bl, okM_app, e_cmp, e_chain, chE_app, e_ite, e_tup, e_lst, e_ix, e_rev, e_slA, e_slL, e_slH, e_slLH, sl1_L, sl1_H, sl2_LH, e_call, e_bi, e_mt, mtE_bits, mtE_app, mtE_ext, mtE_pop, e_pcall, sl2E_int, augE_ref, noX_ok, e_comp, es_nil, es_cons, ifD_bl, ifD_t, ifD_f, b_ok, b_assoc, fTurn_eq, turn_eq, inT_some, inC_some, soE_app, evT_nil, evT_one, t_nm, t_tp, ts_nil, ts_cons, mkL_f, mkL_t, o_add, o_sub, c_lt, c_le, c_gt, c_ge, c_eqI, c_neI, b_int, b_intB, b_abs, b_max2, b_min2, b_gcd, b_lenT, b_lenL, b_lenS, b_tupT, b_tupL, b_lstT, b_lstL, b_isiT, b_isiI, b_isiB, revT, revL, ixT0, ixT1, ixT2, ixL0, ixL1, isI, q_vlT, q_vlL, q_vlS, q_enT, q_enL, q_zpTT, q_zpTL, q_zpLT, q_zpLL, forD_some, List.set_cons_zero, List.set_cons_succ, List.map_cons, List.map_nil, List.length_cons, List.length_nil, List.cons_append, List.nil_append, List.replicate_succ, List.replicate_zero, Nat.reduceAdd, Nat.reduceSub, Nat.reduceEqDiff, if_true, Option.bind_some, wipeD, hw, decide_false, Bool.false_eq_true, if_false, WP_ok]
    exact ⟨c, l, rfl, h, q⟩
theorem memo_most (C : Ev.Ctx) (env : Ev.Env) (S : Store) (h : env.length = 8) : evE C (.memo 8 (.lst false [(.int 1), (.int 2), (.int 4), (.int 9), (.bin .pow false (.int 10) (.int 30))])) env S = .ok (.lst [.int 1, .int 2, .int 4, .int 9, .int 1000000000000000000000000000000]) S := by
  show kMemo 8 _ env S = _
  unfold kMemo
  rw [if_pos (by rw [h]; rfl)]
  rw [show pureV (evE C (.lst false [(.int 1), (.int 2), (.int 4), (.int 9), (.bin .pow false (.int 10) (.int 30))]) (nones 8) []) = .ok (.lst [.int 1, .int 2, .int 4, .int 9, .int 1000000000000000000000000000000]) [] by kernel_rfl]
theorem sum_mul (k : Int) : ∀ l : List Int, (l.map fun x => k * x).sum = k * l.sum
  | [] => by simp
  | x :: l => by rw [List.map_cons, List.sum_cons, List.sum_cons, sum_mul k l]; grind
theorem set_sum : ∀ {l : List Int} {r : Nat} {v : Int}, l[r]? = some v → (l.set r (v + 1)).sum = l.sum + 1
  | [], r, v, h => by simp at h
  | x :: l, 0, v, h => by
    simp at h; subst h
    rw [List.set_cons_zero, List.sum_cons, List.sum_cons]; omega
  | x :: l, r + 1, v, h => by
    rw [List.set_cons_succ, List.sum_cons, List.sum_cons, set_sum (by simpa using h)]; omega
theorem draw_spec {C : Ev.Ctx} {S : Store} {n N M : Nat} {Mi : Int} (hu : UpOk C.cl) (ho : OfOk C.cl) (h : Di n N S) (hN : N + M + 10 < 2 ^ 100) (hM : Mi = (M : Int)) (h2 : 1 ≤ M) (hM2 : M ≤ 64) :
    WP (runF C fd_law_wb_draw [.ref n, .int Mi] S) fun d S' => ∃ B l, d = DrD B l ∧ Dr B l M ∧ Fr n S S' ∧ Di n (N + M + 5) S' := by
  have lg := lim_ge
  have hn := h.lt
  simp only [run_eq, ss_nil, ss_cons, s_nm, s_asg, s_par, par2, par3, s_aug, augD_add, augD_sub, s_augIx, augX_add, augX_sub, s_expr, s_ret, s_retN, s_pass, s_brk, s_cont, s_ite, s_for, s_while, seqF_nx, seqF_rt, seqF_bk, seqF_ct, fnD_rt, fnD_nx, g_nm, g_tp, g_ix, gs_nil, gs_cons, e_int, e_bl, e_non, e_str, e_var, getV_0, getV_s, e_gl, opt_some, e_bin, e_neg, negD_int, e_not, notD_bl, e_and, e_or, bE_app, bolD_bl, okM_app, e_cmp, e_chain, chE_app, e_ite, e_tup, e_lst, e_ix, e_rev, e_slA, e_slL, e_slH, e_slLH, sl1_L, sl1_H, sl2_LH, e_call, e_bi, e_mt, mtE_bits, mtE_app, mtE_ext, mtE_pop, e_pcall, sl2E_int, augE_ref, noX_ok, e_comp, es_nil, es_cons, ifD_bl, ifD_t, ifD_f, b_ok, b_assoc, fTurn_eq, turn_eq, inT_some, inC_some, soE_app, evT_nil, evT_one, t_nm, t_tp, ts_nil, ts_cons, mkL_f, mkL_t, o_add, o_sub, c_lt, c_le, c_gt, c_ge, c_eqI, c_neI, b_int, b_intB, b_abs, b_max2, b_min2, b_gcd, b_lenT, b_lenL, b_lenS, b_tupT, b_tupL, b_lstT, b_lstL, b_isiT, b_isiI, b_isiB, revT, revL, ixT0, ixT1, ixT2, ixL0, ixL1, isI, q_vlT, q_vlL, q_vlS, q_enT, q_enL, q_zpTT, q_zpTL, q_zpLT, q_zpLL, forD_some, List.set_cons_zero, List.set_cons_succ, List.map_cons, List.map_nil, List.length_cons, List.length_nil, List.cons_append, List.nil_append, List.replicate_succ, List.replicate_zero, Nat.reduceAdd, Nat.reduceSub, Nat.reduceEqDiff, if_true, Option.bind_some, wipeD, fd_law_wb_draw]
  refine WP_call (hu S n N _ h (by decide) (by decide) (by omega)) fun d S1 ⟨way, e, _, _, f1, d1⟩ => ?_
  subst e
  simp only [run_eq, ss_nil, ss_cons, s_nm, s_asg, s_par, par2, par3, s_aug, augD_add, augD_sub, s_augIx, augX_add, augX_sub, s_expr, s_ret, s_retN, s_pass, s_brk, s_cont, s_ite, s_for, s_while, seqF_nx, seqF_rt, seqF_bk, seqF_ct, fnD_rt, fnD_nx, g_nm, g_tp, g_ix, gs_nil, gs_cons, e_int, e_bl, e_non, e_str, e_var, getV_0, getV_s, e_gl, opt_some, e_bin, e_neg, negD_int, e_not, notD_bl, e_and, e_or, bE_app, bolD_bl, okM_app, e_cmp, e_chain, chE_app, e_ite, e_tup, e_lst, e_ix, e_rev, e_slA, e_slL, e_slH, e_slLH, sl1_L, sl1_H, sl2_LH, e_call, e_bi, e_mt, mtE_bits, mtE_app, mtE_ext, mtE_pop, e_pcall, sl2E_int, augE_ref, noX_ok, e_comp, es_nil, es_cons, ifD_bl, ifD_t, ifD_f, b_ok, b_assoc, fTurn_eq, turn_eq, inT_some, inC_some, soE_app, evT_nil, evT_one, t_nm, t_tp, ts_nil, ts_cons, mkL_f, mkL_t, o_add, o_sub, c_lt, c_le, c_gt, c_ge, c_eqI, c_neI, b_int, b_intB, b_abs, b_max2, b_min2, b_gcd, b_lenT, b_lenL, b_lenS, b_tupT, b_tupL, b_lstT, b_lstL, b_isiT, b_isiI, b_isiB, revT, revL, ixT0, ixT1, ixT2, ixL0, ixL1, isI, q_vlT, q_vlL, q_vlS, q_enT, q_enL, q_zpTT, q_zpTL, q_zpLT, q_zpLL, forD_some, List.set_cons_zero, List.set_cons_succ, List.map_cons, List.map_nil, List.length_cons, List.length_nil, List.cons_append, List.nil_append, List.replicate_succ, List.replicate_zero, Nat.reduceAdd, Nat.reduceSub, Nat.reduceEqDiff, if_true, Option.bind_some, wipeD, memo_most C [some (.ref n), some (.int Mi), none, none, none, none, none, none] S1 rfl]
  refine WP_call (ho S1 n _ _ d1 (by omega) (by simp) (by simp)) fun d S2 ⟨hd, f2, d2⟩ => ?_
  obtain ⟨most, rfl, t1, t2⟩ : ∃ t : Int, d = .int t ∧ 1 ≤ t ∧ t ≤ 1000000000000000000000000000000 := by
    simp only [List.mem_cons, List.not_mem_nil, or_false] at hd
    rcases hd with rfl | rfl | rfl | rfl | rfl
    · exact ⟨1, rfl, by decide, by decide⟩
    · exact ⟨2, rfl, by decide, by decide⟩
    · exact ⟨4, rfl, by decide, by decide⟩
    · exact ⟨9, rfl, by decide, by decide⟩
    · exact ⟨_, rfl, by decide, by decide⟩
  simp only [run_eq, ss_nil, ss_cons, s_nm, s_asg, s_par, par2, par3, s_aug, augD_add, augD_sub, s_augIx, augX_add, augX_sub, s_expr, s_ret, s_retN, s_pass, s_brk, s_cont, s_ite, s_for, s_while, seqF_nx, seqF_rt, seqF_bk, seqF_ct, fnD_rt, fnD_nx, g_nm, g_tp, g_ix, gs_nil, gs_cons, e_int, e_bl, e_non, e_str, e_var, getV_0, getV_s, e_gl, opt_some, e_bin, e_neg, negD_int, e_not, notD_bl, e_and, e_or, bE_app, bolD_bl, okM_app, e_cmp, e_chain, chE_app, e_ite, e_tup, e_lst, e_ix, e_rev, e_slA, e_slL, e_slH, e_slLH, sl1_L, sl1_H, sl2_LH, e_call, e_bi, e_mt, mtE_bits, mtE_app, mtE_ext, mtE_pop, e_pcall, sl2E_int, augE_ref, noX_ok, e_comp, es_nil, es_cons, ifD_bl, ifD_t, ifD_f, b_ok, b_assoc, fTurn_eq, turn_eq, inT_some, inC_some, soE_app, evT_nil, evT_one, t_nm, t_tp, ts_nil, ts_cons, mkL_f, mkL_t, o_add, o_sub, c_lt, c_le, c_gt, c_ge, c_eqI, c_neI, b_int, b_intB, b_abs, b_max2, b_min2, b_gcd, b_lenT, b_lenL, b_lenS, b_tupT, b_tupL, b_lstT, b_lstL, b_isiT, b_isiI, b_isiB, revT, revL, ixT0, ixT1, ixT2, ixL0, ixL1, isI, q_vlT, q_vlL, q_vlS, q_enT, q_enL, q_zpTT, q_zpTL, q_zpLT, q_zpLL, forD_some, List.set_cons_zero, List.set_cons_succ, List.map_cons, List.map_nil, List.length_cons, List.length_nil, List.cons_append, List.nil_append, List.replicate_succ, List.replicate_zero, Nat.reduceAdd, Nat.reduceSub, Nat.reduceEqDiff, if_true, Option.bind_some, wipeD, q_rg1' hM (show M ≤ LIM by omega), compD_some (show (natsD M).length ≤ LIM by rw [natsD_len]; omega)]
  refine WP_call (comp_draw (R := fun x => 0 ≤ x ∧ x ≤ 1000000000000000000000000000001) d2 (by omega) fun i S' N' hi hd hM => ?_) fun ys S3 ⟨l, e, hl, hr, f3, d3⟩ => ?_
  · simp only [run_eq, ss_nil, ss_cons, s_nm, s_asg, s_par, par2, par3, s_aug, augD_add, augD_sub, s_augIx, augX_add, augX_sub, s_expr, s_ret, s_retN, s_pass, s_brk, s_cont, s_ite, s_for, s_while, seqF_nx, seqF_rt, seqF_bk, seqF_ct, fnD_rt, fnD_nx, g_nm, g_tp, g_ix, gs_nil, gs_cons, e_int, e_bl, e_non, e_str, e_var, getV_0, getV_s, e_gl, opt_some, e_bin, e_neg, negD_int, e_not, notD_bl, e_and, e_or, bE_app, bolD_bl, okM_app, e_cmp, e_chain, chE_app, e_ite, e_tup, e_lst, e_ix, e_rev, e_slA, e_slL, e_slH, e_slLH, sl1_L, sl1_H, sl2_LH, e_call, e_bi, e_mt, mtE_bits, mtE_app, mtE_ext, mtE_pop, e_pcall, sl2E_int, augE_ref, noX_ok, e_comp, es_nil, es_cons, ifD_bl, ifD_t, ifD_f, b_ok, b_assoc, fTurn_eq, turn_eq, inT_some, inC_some, soE_app, evT_nil, evT_one, t_nm, t_tp, ts_nil, ts_cons, mkL_f, mkL_t, o_add, o_sub, c_lt, c_le, c_gt, c_ge, c_eqI, c_neI, b_int, b_intB, b_abs, b_max2, b_min2, b_gcd, b_lenT, b_lenL, b_lenS, b_tupT, b_tupL, b_lstT, b_lstL, b_isiT, b_isiI, b_isiB, revT, revL, ixT0, ixT1, ixT2, ixL0, ixL1, isI, q_vlT, q_vlL, q_vlS, q_enT, q_enL, q_zpTT, q_zpTL, q_zpLT, q_zpLL, forD_some, List.set_cons_zero, List.set_cons_succ, List.map_cons, List.map_nil, List.length_cons, List.length_nil, List.cons_append, List.nil_append, List.replicate_succ, List.replicate_zero, Nat.reduceAdd, Nat.reduceSub, Nat.reduceEqDiff, if_true, Option.bind_some, wipeD]
    refine WP_call (hu S' n N' _ hd (by omega) (by omega) hM) fun d S5 ⟨r, e, g1, g2, g3, g4⟩ => ?_
    subst e
    simp only [run_eq, ss_nil, ss_cons, s_nm, s_asg, s_par, par2, par3, s_aug, augD_add, augD_sub, s_augIx, augX_add, augX_sub, s_expr, s_ret, s_retN, s_pass, s_brk, s_cont, s_ite, s_for, s_while, seqF_nx, seqF_rt, seqF_bk, seqF_ct, fnD_rt, fnD_nx, g_nm, g_tp, g_ix, gs_nil, gs_cons, e_int, e_bl, e_non, e_str, e_var, getV_0, getV_s, e_gl, opt_some, e_bin, e_neg, negD_int, e_not, notD_bl, e_and, e_or, bE_app, bolD_bl, okM_app, e_cmp, e_chain, chE_app, e_ite, e_tup, e_lst, e_ix, e_rev, e_slA, e_slL, e_slH, e_slLH, sl1_L, sl1_H, sl2_LH, e_call, e_bi, e_mt, mtE_bits, mtE_app, mtE_ext, mtE_pop, e_pcall, sl2E_int, augE_ref, noX_ok, e_comp, es_nil, es_cons, ifD_bl, ifD_t, ifD_f, b_ok, b_assoc, fTurn_eq, turn_eq, inT_some, inC_some, soE_app, evT_nil, evT_one, t_nm, t_tp, ts_nil, ts_cons, mkL_f, mkL_t, o_add, o_sub, c_lt, c_le, c_gt, c_ge, c_eqI, c_neI, b_int, b_intB, b_abs, b_max2, b_min2, b_gcd, b_lenT, b_lenL, b_lenS, b_tupT, b_tupL, b_lstT, b_lstL, b_isiT, b_isiI, b_isiB, revT, revL, ixT0, ixT1, ixT2, ixL0, ixL1, isI, q_vlT, q_vlL, q_vlS, q_enT, q_enL, q_zpTT, q_zpTL, q_zpLT, q_zpLL, forD_some, List.set_cons_zero, List.set_cons_succ, List.map_cons, List.map_nil, List.length_cons, List.length_nil, List.cons_append, List.nil_append, List.replicate_succ, List.replicate_zero, Nat.reduceAdd, Nat.reduceSub, Nat.reduceEqDiff, if_true, Option.bind_some, wipeD, WP_ok]
    exact ⟨r, rfl, by omega, g3, g4⟩
  subst e
  have f03 := (f1.trans f2).trans f3
  have c3 : Ct n S3.length S (S3 ++ [.lst (l.map .int)]) (N + M + 2) M l := ⟨hl, fun x hx => by have := hr x hx; omega, f03.1, by have := f03.1; omega, get_app, f03.trans Fr.app, (d3.app).mono (by omega)⟩
  simp only [g_nm, s_nm, List.set_cons_zero, List.set_cons_succ, mkL_f, b_assoc, seqF_nx, ss_cons, ss_nil, mkL_t, b_ok]
  refine WP_call (again_spec (k := 0) (v := 0) (Q := fun l => ∀ x, x ∈ l → x ≤ 1000000000000000000000000000001) hM hM2 hn (by decide) c3 (fun x hx => (hr x hx).2) (fun x hx => by rw [(List.mem_replicate.mp hx).2]; decide)) fun f S4 ⟨c, l4, e, h4, q4⟩ => ?_
  subst e
  simp only [g_nm, s_nm, List.set_cons_zero, List.set_cons_succ, mkL_f, b_assoc, seqF_nx, ss_cons, ss_nil, s_augIx, e_var, e_call, es_cons, es_nil, getV_0, getV_s, b_ok]
  refine WP_call (hu S4 n _ _ h4.di (by omega) (by omega) (by omega)) fun d S5 ⟨r, e, g1, g2, f5, d5⟩ => ?_
  subst e
  have hr4 : r.toNat < l4.length := by rw [h4.len]; omega
  have hc4 : c < S4.length := (List.getElem?_eq_some_iff.mp h4.at_).1
  have a5 : S5[c]? = some (.lst (l4.map .int)) := by rw [f5.2 c hc4 h4.ne]; exact h4.at_
  have hi5 := ixR' (S := S5) (i := r) (k := r.toNat) (by omega) a5 (by rw [List.getElem?_map, List.getElem?_eq_getElem hr4]; rfl)
  have hs5 : ∀ d, setIx (.ref c) (.int r) d S5 = .ok () (S5.set c (.lst ((l4.map D.int).set r.toNat d))) := fun d => setR' (k := r.toNat) (by omega) a5 (by rw [List.length_map]; exact hr4)
  have lx := h4.rng l4[r.toNat] (List.getElem_mem hr4)
  obtain ⟨v, hv⟩ : ∃ v, v = l4[r.toNat] := ⟨_, rfl⟩
  have hv2 : l4[r.toNat]? = some v := by rw [hv]; exact List.getElem?_eq_getElem hr4
  rw [← hv] at hi5 lx
  have lx2 := q4 v (by rw [hv]; exact List.getElem_mem hr4)
  have e6 : (l4.map D.int).set r.toNat (.int (v + 1)) = (l4.set r.toNat (v + 1)).map D.int := by rw [List.map_set]
  have h6 : Ct n c S (S5.set c (.lst ((l4.set r.toNat (v + 1)).map D.int))) (N + M + 3) M (l4.set r.toNat (v + 1)) :=
    ⟨by rw [List.length_set]; exact h4.len, fun x hx => by
      rcases List.mem_or_eq_of_mem_set hx with hx | rfl
      · exact h4.rng x hx
      · omega, h4.new, h4.ne, List.getElem?_set_self (List.getElem?_eq_some_iff.mp a5).1, fr_set (h4.fr.trans f5) h4.new, di_set (d5.mono (by omega)) h4.ne⟩
  have q6 : 0 < (l4.set r.toNat (v + 1)).sum := by
    rw [set_sum hv2]
    have := (sum_bd (c := 2000000000000000000000000000000) h4.rng).1
    omega
  have q62 : 0 < (List.replicate M (1 : Int)).sum := by
    have : ∀ M : Nat, (List.replicate M (1 : Int)).sum = M := fun M => by
      induction M with
      | zero => rfl
      | succ M ih => rw [List.replicate_succ, List.sum_cons, ih]; push_cast; omega
    rw [this]; omega
  simp only [hi5, b_ok, augE_ref, e_int, augX_add, hs5, seqF_nx, ss_cons, b_assoc, e6]
  refine WP_call (again_spec (k := 1) (v := 1) (Q := fun l => 0 < l.sum) hM hM2 hn (by decide) h6 q6 q62) fun f S7 ⟨c7, l7, e, h7, q7⟩ => ?_
  subst e
  simp only [run_eq, ss_nil, ss_cons, s_nm, s_asg, s_par, par2, par3, s_aug, augD_add, augD_sub, s_augIx, augX_add, augX_sub, s_expr, s_ret, s_retN, s_pass, s_brk, s_cont, s_ite, s_for, s_while, seqF_nx, seqF_rt, seqF_bk, seqF_ct, fnD_rt, fnD_nx, g_nm, g_tp, g_ix, gs_nil, gs_cons, e_int, e_bl, e_non, e_str, e_var, getV_0, getV_s, e_gl, opt_some, e_bin, e_neg, negD_int, e_not, notD_bl, e_and, e_or, bE_app, bolD_bl, okM_app, e_cmp, e_chain, chE_app, e_ite, e_tup, e_lst, e_ix, e_rev, e_slA, e_slL, e_slH, e_slLH, sl1_L, sl1_H, sl2_LH, e_call, e_bi, e_mt, mtE_bits, mtE_app, mtE_ext, mtE_pop, e_pcall, sl2E_int, augE_ref, noX_ok, e_comp, es_nil, es_cons, ifD_bl, ifD_t, ifD_f, b_ok, b_assoc, fTurn_eq, turn_eq, inT_some, inC_some, soE_app, evT_nil, evT_one, t_nm, t_tp, ts_nil, ts_cons, mkL_f, mkL_t, o_add, o_sub, c_lt, c_le, c_gt, c_ge, c_eqI, c_neI, b_int, b_intB, b_abs, b_max2, b_min2, b_gcd, b_lenT, b_lenL, b_lenS, b_tupT, b_tupL, b_lstT, b_lstL, b_isiT, b_isiI, b_isiB, revT, revL, ixT0, ixT1, ixT2, ixL0, ixL1, isI, q_vlT, q_vlL, q_vlS, q_enT, q_enL, q_zpTT, q_zpTL, q_zpLT, q_zpLL, forD_some, List.set_cons_zero, List.set_cons_succ, List.map_cons, List.map_nil, List.length_cons, List.length_nil, List.cons_append, List.nil_append, List.replicate_succ, List.replicate_zero, Nat.reduceAdd, Nat.reduceSub, Nat.reduceEqDiff, if_true, Option.bind_some, wipeD]
  refine WP_call (ho S7 n _ _ h7.di (by omega) (by simp) (by simp)) fun d S8 ⟨hd, f8, d8⟩ => ?_
  obtain ⟨more, rfl, m1, m2⟩ : ∃ t : Int, d = .int t ∧ 1 ≤ t ∧ t ≤ 3 := by
    simp only [List.mem_cons, List.not_mem_nil, or_false] at hd
    rcases hd with rfl | rfl | rfl | rfl
    · exact ⟨1, rfl, by decide, by decide⟩
    · exact ⟨1, rfl, by decide, by decide⟩
    · exact ⟨2, rfl, by decide, by decide⟩
    · exact ⟨3, rfl, by decide, by decide⟩
  have hc7 : c7 < S7.length := (List.getElem?_eq_some_iff.mp h7.at_).1
  have a8 : S8[c7]? = some (.lst (l7.map .int)) := by rw [f8.2 c7 hc7 h7.ne]; exact h7.at_
  have sb := sum_bd (c := 2000000000000000000000000000000) h7.rng
  rw [h7.len] at sb
  have sb2 : (M : Int) * 2000000000000000000000000000000 ≤ 64 * 2000000000000000000000000000000 := Int.mul_le_mul_of_nonneg_right (by omega) (by decide)
  have b2 : big2 more l7.sum = true := mulOk (by omega) (by omega)
  simp only [run_eq, ss_nil, ss_cons, s_nm, s_asg, s_par, par2, par3, s_aug, augD_add, augD_sub, s_augIx, augX_add, augX_sub, s_expr, s_ret, s_retN, s_pass, s_brk, s_cont, s_ite, s_for, s_while, seqF_nx, seqF_rt, seqF_bk, seqF_ct, fnD_rt, fnD_nx, g_nm, g_tp, g_ix, gs_nil, gs_cons, e_int, e_bl, e_non, e_str, e_var, getV_0, getV_s, e_gl, opt_some, e_bin, e_neg, negD_int, e_not, notD_bl, e_and, e_or, bE_app, bolD_bl, okM_app, e_cmp, e_chain, chE_app, e_ite, e_tup, e_lst, e_ix, e_rev, e_slA, e_slL, e_slH, e_slLH, sl1_L, sl1_H, sl2_LH, e_call, e_bi, e_mt, mtE_bits, mtE_app, mtE_ext, mtE_pop, e_pcall, sl2E_int, augE_ref, noX_ok, e_comp, es_nil, es_cons, ifD_bl, ifD_t, ifD_f, b_ok, b_assoc, fTurn_eq, turn_eq, inT_some, inC_some, soE_app, evT_nil, evT_one, t_nm, t_tp, ts_nil, ts_cons, mkL_f, mkL_t, o_add, o_sub, c_lt, c_le, c_gt, c_ge, c_eqI, c_neI, b_int, b_intB, b_abs, b_max2, b_min2, b_gcd, b_lenT, b_lenL, b_lenS, b_tupT, b_tupL, b_lstT, b_lstL, b_isiT, b_isiI, b_isiB, revT, revL, ixT0, ixT1, ixT2, ixL0, ixL1, isI, q_vlT, q_vlL, q_vlS, q_enT, q_enL, q_zpTT, q_zpTL, q_zpLT, q_zpLL, forD_some, List.set_cons_zero, List.set_cons_succ, List.map_cons, List.map_nil, List.length_cons, List.length_nil, List.cons_append, List.nil_append, List.replicate_succ, List.replicate_zero, Nat.reduceAdd, Nat.reduceSub, Nat.reduceEqDiff, if_true, Option.bind_some, wipeD, b_sumR a8, o_mul b2, q_vlR a8, compD_some (show (l7.map D.int).length ≤ LIM by rw [List.length_map, h7.len]; omega)]
  rw [comp_int (fun x => more * x) (dep_one a8) fun x hx => by
    have := h7.rng x hx
    simp only [run_eq, ss_nil, ss_cons, s_nm, s_asg, s_par, par2, par3, s_aug, augD_add, augD_sub, s_augIx, augX_add, augX_sub, s_expr, s_ret, s_retN, s_pass, s_brk, s_cont, s_ite, s_for, s_while, seqF_nx, seqF_rt, seqF_bk, seqF_ct, fnD_rt, fnD_nx, g_nm, g_tp, g_ix, gs_nil, gs_cons, e_int, e_bl, e_non, e_str, e_var, getV_0, getV_s, e_gl, opt_some, e_bin, e_neg, negD_int, e_not, notD_bl, e_and, e_or, bE_app, bolD_bl, okM_app, e_cmp, e_chain, chE_app, e_ite, e_tup, e_lst, e_ix, e_rev, e_slA, e_slL, e_slH, e_slLH, sl1_L, sl1_H, sl2_LH, e_call, e_bi, e_mt, mtE_bits, mtE_app, mtE_ext, mtE_pop, e_pcall, sl2E_int, augE_ref, noX_ok, e_comp, es_nil, es_cons, ifD_bl, ifD_t, ifD_f, b_ok, b_assoc, fTurn_eq, turn_eq, inT_some, inC_some, soE_app, evT_nil, evT_one, t_nm, t_tp, ts_nil, ts_cons, mkL_f, mkL_t, o_add, o_sub, c_lt, c_le, c_gt, c_ge, c_eqI, c_neI, b_int, b_intB, b_abs, b_max2, b_min2, b_gcd, b_lenT, b_lenL, b_lenS, b_tupT, b_tupL, b_lstT, b_lstL, b_isiT, b_isiI, b_isiB, revT, revL, ixT0, ixT1, ixT2, ixL0, ixL1, isI, q_vlT, q_vlL, q_vlS, q_enT, q_enL, q_zpTT, q_zpTL, q_zpLT, q_zpLL, forD_some, List.set_cons_zero, List.set_cons_succ, List.map_cons, List.map_nil, List.length_cons, List.length_nil, List.cons_append, List.nil_append, List.replicate_succ, List.replicate_zero, Nat.reduceAdd, Nat.reduceSub, Nat.reduceEqDiff, if_true, Option.bind_some, wipeD, o_mul (mulOk (a := more) (b := x) (by omega) (by omega))]]
  simp only [run_eq, ss_nil, ss_cons, s_nm, s_asg, s_par, par2, par3, s_aug, augD_add, augD_sub, s_augIx, augX_add, augX_sub, s_expr, s_ret, s_retN, s_pass, s_brk, s_cont, s_ite, s_for, s_while, seqF_nx, seqF_rt, seqF_bk, seqF_ct, fnD_rt, fnD_nx, g_nm, g_tp, g_ix, gs_nil, gs_cons, e_int, e_bl, e_non, e_str, e_var, getV_0, getV_s, e_gl, opt_some, e_bin, e_neg, negD_int, e_not, notD_bl, e_and, e_or, bE_app, bolD_bl, okM_app, e_cmp, e_chain, chE_app, e_ite, e_tup, e_lst, e_ix, e_rev, e_slA, e_slL, e_slH, e_slLH, sl1_L, sl1_H, sl2_LH, e_call, e_bi, e_mt, mtE_bits, mtE_app, mtE_ext, mtE_pop, e_pcall, sl2E_int, augE_ref, noX_ok, e_comp, es_nil, es_cons, ifD_bl, ifD_t, ifD_f, b_ok, b_assoc, fTurn_eq, turn_eq, inT_some, inC_some, soE_app, evT_nil, evT_one, t_nm, t_tp, ts_nil, ts_cons, mkL_f, mkL_t, o_add, o_sub, c_lt, c_le, c_gt, c_ge, c_eqI, c_neI, b_int, b_intB, b_abs, b_max2, b_min2, b_gcd, b_lenT, b_lenL, b_lenS, b_tupT, b_tupL, b_lstT, b_lstL, b_isiT, b_isiI, b_isiB, revT, revL, ixT0, ixT1, ixT2, ixL0, ixL1, isI, q_vlT, q_vlL, q_vlS, q_enT, q_enL, q_zpTT, q_zpTL, q_zpLT, q_zpLL, forD_some, List.set_cons_zero, List.set_cons_succ, List.map_cons, List.map_nil, List.length_cons, List.length_nil, List.cons_append, List.nil_append, List.replicate_succ, List.replicate_zero, Nat.reduceAdd, Nat.reduceSub, Nat.reduceEqDiff, if_true, Option.bind_some, wipeD, WP_ok]
  have bp : 0 < more * l7.sum := Int.mul_pos (by omega) q7
  have bd : more * l7.sum ≤ 3 * (64 * 2000000000000000000000000000000) := Int.mul_le_mul m2 (by omega) (by omega) (by decide)
  have bg : (3 * (64 * 2000000000000000000000000000000) : Int) ≤ Big := by decide
  have bg3 : (3 * (64 * 2000000000000000000000000000000) : Int) ≤ Sml := by decide
  refine ⟨more * l7.sum, l7.map fun x => more * x, rfl, ⟨⟨bp, by omega, by rw [List.length_map]; exact h7.len, fun y hy => ?_⟩, by omega, sum_mul more l7⟩, h7.fr.trans f8, d8.mono (by omega)⟩
  obtain ⟨x, hx, rfl⟩ := List.mem_map.mp hy
  have hx := h7.rng x hx
  have : more * x ≤ 3 * 2000000000000000000000000000000 := Int.mul_le_mul m2 hx.2 hx.1 (by decide)
  have bg2 : (3 * 2000000000000000000000000000000 : Int) ≤ Big := by decide
  exact ⟨Int.mul_nonneg (by omega) hx.1, by omega⟩
end LW
namespace LW
open PySem L2 Ev
/-! ### the plain law -/
theorem ne0 {b : Int} (h : 0 < b) : (b : Rat) ≠ 0 := by rw [Ne, ← Rat.intCast_zero, Rat.intCast_inj]; omega
theorem fq_scale {a b c : Int} (hb : 0 < b) (hc : 0 < c) : fq a b = fq (a * c) (b * c) := by
  have h1 := ne0 hb; have h2 := ne0 hc
  unfold fq; rw [Rat.intCast_mul, Rat.intCast_mul]; grind
theorem fq_zero {b : Int} : fq 0 b = 0 := by unfold fq; rw [Rat.intCast_zero, Rat.div_def, Rat.zero_mul]
theorem metL_cons {x b : Int} {l t : List Int} : metS (x :: l) (b :: t) = (if b = 1 then x else 0) + metS l t := by
  unfold metS metL
  by_cases h : b = 1
  · simp [List.filterMap_cons, h]
  · simp [List.filterMap_cons, h]
theorem metS_nil {t : List Int} : metS [] t = 0 := by simp [metS, metL]
theorem metS_nil2 {l : List Int} : metS l [] = 0 := by simp [metS, metL]
theorem metS_scale {g : Int} : ∀ {l t : List Int}, (∀ x, x ∈ l → g ∣ x) → metS (l.map (· / g)) t * g = metS l t
  | [], t, _ => by rw [List.map_nil, metS_nil]; simp
  | x :: l, [], _ => by rw [metS_nil2, metS_nil2]; simp
  | x :: l, b :: t, h => by
    rw [List.map_cons, metL_cons, metL_cons, Int.add_mul, metS_scale fun y hy => h y (List.mem_cons_of_mem _ hy)]
    have := Int.ediv_mul_cancel (h x List.mem_cons_self)
    split
    · rw [this]
    · simp
theorem metS_rep {B : Int} : ∀ {t : List Int} {M : Nat}, Bt t M → metS (List.replicate M B) t = B * t.sum
  | [], M, h => by rw [metS_nil2]; simp
  | b :: t, 0, h => by have := h.len; simp at this
  | b :: t, M + 1, h => by
    rw [List.replicate_succ, metL_cons, List.sum_cons, metS_rep (t := t) ⟨by have := h.len; simpa using this, fun x hx => h.bit x (List.mem_cons_of_mem _ hx)⟩]
    rcases h.bit b List.mem_cons_self with rfl | rfl
    · simp
    · simp; grind
theorem exQ_scale {B : Int} {l t : List Int} {g : Int} {M : Nat} (hg : 0 < g) (hB : 0 < B) (h1 : g ∣ B) (h2 : ∀ x, x ∈ l → g ∣ x) (ht : 0 < t.length) : exQ (B / g) (l.map (· / g)) t = exQ B l t := by
  have e1 := Int.ediv_mul_cancel h1
  have e2 := metS_scale (t := t) h2
  have hq : 0 < B / g := by
    rcases Int.lt_trichotomy (B / g) 0 with h | h | h
    · have := Int.mul_neg_of_neg_of_pos h hg; omega
    · rw [h] at e1; simp at e1; omega
    · exact h
  unfold exQ
  have hn : (0 : Int) < t.length := by omega
  rw [fq_scale (c := g) (Int.mul_pos hq hn) hg]
  congr 1
  · rw [Int.sub_mul]
    have a1 : metS (l.map (· / g)) t * (t.length : Int) * g = metS l t * (t.length : Int) := by rw [← e2]; grind
    have a2 : t.sum * (B / g) * g = t.sum * B := by rw [Int.mul_assoc, e1]
    rw [a1, a2]
  · have : B / g * (t.length : Int) * g = B / g * g * (t.length : Int) := by grind
    rw [this, e1]
/-! hybrids -/
def hb (B : Int) (m i : Nat) : Int := B * ((2 ^ (m - i) : Nat) : Int)
def hyB (B : Int) (l : List Int) (m i : Nat) : Int := hb B m i / gl (hb B m i) (hyb l (2 ^ i) (2 ^ m))
def hyL (B : Int) (l : List Int) (m i : Nat) : List Int := (hyb l (2 ^ i) (2 ^ m)).map (· / gl (hb B m i) (hyb l (2 ^ i) (2 ^ m)))
def cq (B : Int) (l t : List Int) (m i : Nat) : Rat := exQ (hyB B l m i) (hyL B l m i) t
theorem hy_eq (B : Int) (l : List Int) (m i : Nat) : lsD (hb B m i) (hyb l (2 ^ i) (2 ^ m)) = DrD (hyB B l m i) (hyL B l m i) := rfl
theorem sz_bd {f : Nat → Int} {c : Int} (hc : 0 ≤ c) : ∀ {n : Nat}, (∀ i, i < n → 0 ≤ f i ∧ f i ≤ c) → 0 ≤ sz n f ∧ sz n f ≤ n * c
  | 0, _ => by simp [sz]
  | n + 1, h => by
    have h1 := sz_bd hc (n := n) fun i hi => h i (by omega)
    have h2 := h n (by omega)
    have e : ((n + 1 : Nat) : Int) * c = n * c + c := by push_cast; grind
    rw [sz, e]; omega
theorem getD_bd {l : List Int} {c : Int} (hc : 0 ≤ c) (h : ∀ x, x ∈ l → 0 ≤ x ∧ x ≤ c) (i : Nat) : 0 ≤ l.getD i 0 ∧ l.getD i 0 ≤ c := by
  rw [List.getD_eq_getElem?_getD]
  cases e : l[i]? with
  | none => exact ⟨Int.le_refl _, hc⟩
  | some x => exact h x (List.mem_of_getElem? e)
theorem bs_bd {B : Int} {l : List Int} {M K y : Nat} (h : Dr B l M) (hM : M ≤ 16) : 0 ≤ bs l K y M ∧ bs l K y M ≤ 16 * Sml := by
  have hs : (0 : Int) ≤ Sml := by decide
  have q := sz_bd (n := M) (f := fun x => if x % K = y then l.getD x 0 else 0) hs fun i hi => by
    have := getD_bd (l := l) hs (fun x hx => ⟨(h.rw.nn x hx).1, by have a := h.le hx; have b := h.sml; omega⟩) i
    split
    · exact this
    · exact ⟨Int.le_refl _, hs⟩
  have : (M : Int) * Sml ≤ 16 * Sml := Int.mul_le_mul_of_nonneg_right (by omega) hs
  unfold bs
  omega
theorem hb_bd {B : Int} {l : List Int} {m i : Nat} (h : Dr B l (2 ^ m)) (hm : m ≤ 4) : 0 < hb B m i ∧ hb B m i ≤ 16 * Sml := by
  have J1 : 0 < 2 ^ (m - i) := Nat.pow_pos (by decide)
  have J2 : 2 ^ (m - i) ≤ 16 := pow_le (by omega)
  have b4 := h.rw.pos
  have b5 := h.sml
  refine ⟨Int.mul_pos b4 (by omega), ?_⟩
  have : hb B m i ≤ Sml * 16 := Int.mul_le_mul b5 (by omega) (by omega) (by decide)
  omega
theorem hyb_bd {B : Int} {l : List Int} {m i : Nat} (h : Dr B l (2 ^ m)) (hm : m ≤ 4) {x : Int} (hx : x ∈ hyb l (2 ^ i) (2 ^ m)) : 0 ≤ x ∧ x ≤ 16 * Sml := by
  obtain ⟨k, _, rfl⟩ := List.mem_map.mp hx
  exact bs_bd h (pow_le hm)
theorem ediv_bd {x g c : Int} (hg : 0 < g) (h : 0 ≤ x ∧ x ≤ c) : 0 ≤ x / g ∧ x / g ≤ c := by
  have h1 := Int.ediv_nonneg h.1 (show 0 ≤ g by omega)
  have h2 : x / g ≤ x := Int.ediv_le_self _ h.1
  omega
theorem ediv_pos' {x g : Int} (hg : 0 < g) (hx : 0 < x) (hd : g ∣ x) : 0 < x / g := by
  have e := Int.ediv_mul_cancel hd
  rcases Int.lt_trichotomy (x / g) 0 with h | h | h
  · have := Int.mul_neg_of_neg_of_pos h hg; omega
  · rw [h] at e; simp at e; omega
  · exact h
theorem hy_rw {B : Int} {l : List Int} {m i : Nat} (h : Dr B l (2 ^ m)) (hm : m ≤ 4) : Rw (hyB B l m i) (hyL B l m i) (2 ^ m) := by
  have h1 := hb_bd (i := i) h hm
  have h2 := gl_all (l := hyb l (2 ^ i) (2 ^ m)) h1.1
  have hc : 16 * Sml ≤ Big := by decide
  refine ⟨ediv_pos' h2.1 h1.1 h2.2.1, ?_, by simp [hyL, hyb], fun y hy => ?_⟩
  · have := ediv_bd h2.1 ⟨Int.le_of_lt h1.1, h1.2⟩
    unfold hyB; omega
  · obtain ⟨x, hx, rfl⟩ := List.mem_map.mp hy
    have := ediv_bd h2.1 (hyb_bd h hm hx)
    omega
theorem cq_eq {B : Int} {l t : List Int} {m i : Nat} (h : Dr B l (2 ^ m)) (hm : m ≤ 4) (ht : Bt t (2 ^ m)) : cq B l t m i = exQ (hb B m i) (hyb l (2 ^ i) (2 ^ m)) t := by
  have h1 := hb_bd (i := i) h hm
  have h2 := gl_all (l := hyb l (2 ^ i) (2 ^ m)) h1.1
  exact exQ_scale (M := 2 ^ m) h2.1 h1.1 h2.2.1 h2.2.2 (by rw [ht.len]; exact Nat.pow_pos (by decide))
theorem sz_pick {f : Nat → Int} {x : Nat} : ∀ {n : Nat}, x < n → (sz n fun y => if y = x then f y else 0) = f x
  | 0, h => by omega
  | n + 1, h => by
    rw [sz]
    by_cases e : n = x
    · subst e
      have : (sz n fun y => if y = n then f y else 0) = 0 := by
        have z : ∀ k, k ≤ n → (sz k fun y => if y = n then f y else 0) = 0 := fun k => by
          induction k with
          | zero => intro _; rfl
          | succ k ih => intro hk; rw [sz, ih (by omega), if_neg (by omega)]; rfl
        exact z n (Nat.le_refl _)
      rw [this, if_pos rfl]; omega
    · rw [sz_pick (by omega), if_neg e]; omega
theorem hyb_top {l : List Int} {M : Nat} (hl : l.length = M) : hyb l M M = l := by
  refine List.ext_getElem (by simp [hyb, hl]) fun i h1 h2 => ?_
  have hi : i < M := by omega
  simp only [hyb, List.getElem_map, List.getElem_range]
  rw [Nat.mod_eq_of_lt hi]
  unfold bs
  rw [sz_congr (g := fun y => if y = i then l.getD y 0 else 0) fun y hy => by rw [Nat.mod_eq_of_lt hy], sz_pick hi, List.getD_eq_getElem?_getD, List.getElem?_eq_getElem h2]
  rfl
theorem sz_front (f : Nat → Int) : ∀ n : Nat, sz (n + 1) f = f 0 + sz n fun i => f (i + 1)
  | 0 => by simp [sz]
  | n + 1 => by rw [sz, sz_front f n, sz]; omega
theorem sz_sum' : ∀ l : List Int, (sz l.length fun y => l.getD y 0) = l.sum
  | [] => rfl
  | x :: l => by
    rw [List.length_cons, sz_front, List.sum_cons, ← sz_sum' l]
    simp
theorem sz_sum {l : List Int} {M : Nat} (h : l.length = M) : (sz M fun y => l.getD y 0) = l.sum := by rw [← h]; exact sz_sum' l
theorem hyb_bot {l : List Int} {M : Nat} (hl : l.length = M) : hyb l 1 M = List.replicate M l.sum := by
  refine List.ext_getElem (by simp [hyb]) fun i h1 h2 => ?_
  simp only [hyb, List.getElem_map, List.getElem_range, List.getElem_replicate]
  unfold bs
  rw [sz_congr (g := fun y => l.getD y 0) fun y hy => by rw [Nat.mod_one, Nat.mod_one, if_pos rfl], sz_sum hl]
theorem cq_top {B : Int} {l t : List Int} {m : Nat} (h : Dr B l (2 ^ m)) (hm : m ≤ 4) (ht : Bt t (2 ^ m)) : cq B l t m m = exQ B l t := by
  rw [cq_eq h hm ht, hyb_top h.rw.len]
  unfold hb
  rw [Nat.sub_self]
  simp
theorem cq_bot {B : Int} {l t : List Int} {m : Nat} (h : Dr B l (2 ^ m)) (hm : m ≤ 4) (ht : Bt t (2 ^ m)) : cq B l t m 0 = 0 := by
  rw [cq_eq h hm ht, Nat.pow_zero, hyb_bot h.rw.len, h.sum]
  unfold exQ hb
  rw [metS_rep ht, ht.len, Nat.sub_zero]
  have : B * t.sum * ((2 ^ m : Nat) : Int) - t.sum * (B * ((2 ^ m : Nat) : Int)) = 0 := by grind
  rw [this, fq_zero]
theorem top_ls {B : Int} {l : List Int} {m : Nat} (h : Dr B l (2 ^ m)) : DrD (hyB B l m m) (hyL B l m m) = lsD B l := by
  rw [← hy_eq, hyb_top h.rw.len]
  unfold hb
  rw [Nat.sub_self]
  simp
theorem sm_fq {n : Nat} {z b : Int} (hb : 0 < b) (h1 : z.natAbs < 2 ^ n) (h2 : b.natAbs < 2 ^ n) : Sm n (fq z b) := by
  have hg := gcd_pos z b hb
  have e1 : (fq z b).num = z / (Int.gcd z b : Int) := num_eq z b hb
  have e2 : ((fq z b).den : Int) = b / (Int.gcd z b : Int) := den_eq z b hb
  constructor
  · rw [e1]
    refine Nat.lt_of_le_of_lt ?_ h1
    rw [Int.natAbs_ediv_of_dvd (Int.gcd_dvd_left z b)]
    exact Nat.div_le_self _ _
  · have : (fq z b).den ≤ b.natAbs := by
      have h3 : b / (Int.gcd z b : Int) ≤ b := Int.ediv_le_self _ (by omega)
      omega
    omega
theorem ex_sm {B : Int} {l t : List Int} {M : Nat} (h : Rw B l M) (ht : Bt t M) (h1 : 1 ≤ M) (hM : M ≤ 64) : Sm 200 (exQ B l t) := by
  have b1 := metS_bd (t := t) h hM
  have b2 := bsum_bd ht
  have b4 := h.pos
  have b5 := h.bd
  have hl2 := ht.len
  unfold exQ
  generalize metS l t = w at *
  generalize t.sum = s at *
  generalize hn : (t.length : Int) = n at *
  have n1 : 0 < n := by omega
  have n2 : n ≤ 64 := by omega
  have c1 : B * n ≤ Big * 64 := Int.mul_le_mul b5 n2 (by omega) (by decide)
  have c2 : w * n ≤ 64 * Big * 64 := Int.mul_le_mul b1.2 n2 (by omega) (by decide)
  have c3 : 0 ≤ w * n := Int.mul_nonneg b1.1 (by omega)
  have c4 : s * B ≤ 64 * Big := Int.mul_le_mul (by omega) b5 (by omega) (by decide)
  have c5 : 0 ≤ s * B := Int.mul_nonneg b2.1 (by omega)
  have c6 := Int.mul_pos b4 n1
  have d1 : 64 * Big * 64 < 2 ^ 200 := by decide
  have d2 : Big * 64 < 2 ^ 200 := by decide
  have d3 : 64 * Big < 2 ^ 200 := by decide
  generalize w * n = p at *
  generalize s * B = q at *
  generalize B * n = r at *
  generalize 64 * Big * 64 = x1 at *
  generalize Big * 64 = x2 at *
  generalize 64 * Big = x3 at *
  exact sm_fq c6 (by omega) (by omega)
theorem Sm.up {q : Rat} (h : Sm 200 q) : Sm 1000 q :=
  ⟨Nat.lt_of_lt_of_le h.1 (Nat.pow_le_pow_right (by decide) (by decide)), Nat.lt_of_lt_of_le h.2 (Nat.pow_le_pow_right (by decide) (by decide))⟩
theorem Sm.dd {n : Nat} {q : Rat} (h : Sm n q) : (q.den : Int).natAbs < 2 ^ n := by rw [Int.natAbs_natCast]; exact h.2
theorem sm_less {p q : Rat} (hp : Sm 200 p) (hq : Sm 200 q) : Sm 1000 (p - q) := by
  rw [← less_eq]
  have a1 := mul_bd (a := p.num) (b := (q.den : Int)) (m := 200) (n := 200) hp.1 hq.dd
  have a2 := mul_bd (a := q.num) (b := (p.den : Int)) (m := 200) (n := 200) hq.1 hp.dd
  have a3 := mul_bd (a := (p.den : Int)) (b := (q.den : Int)) (m := 200) (n := 200) hp.dd hq.dd
  have e : (2 : Nat) ^ (200 + 200) + 2 ^ (200 + 200) < 2 ^ 1000 := by decide +kernel
  have c6 := mul_pos' (den_pos p) (den_pos q)
  generalize p.num * (q.den : Int) = x at *
  generalize q.num * (p.den : Int) = y at *
  generalize (p.den : Int) * (q.den : Int) = z at *
  have f : ∀ u v : Nat, x.natAbs < u → y.natAbs < u → u + u < v → (x - y).natAbs < v := fun u v => by omega
  have f2 : ∀ u v : Nat, z.natAbs < u → u + u < v → z.natAbs < v := fun u v => by omega
  exact sm_fq c6 (f _ _ a1 a2 e) (f2 _ _ a3 e)
end LW
namespace LW
open PySem L2 Ev
/-! ### the package's answers -/
def ExOk (f : List D → M D) : Prop := ∀ (S : Store) (B : Int) (l t : List Int) (M : Nat), Rw B l M → Bt t M → 1 ≤ M → M ≤ 64 → f [DrD B l, tI t] S = .ok (frD (exQ B l t)) S
def HyOk (cl : Nat → List D → M D) : Prop := ∀ (S : Store) (B : Int) (l : List Int) (m i : Nat) (ii : Int), Rw B l (2 ^ m) → m ≤ 4 → ii = (i : Int) → i ≤ m → cl 20 [DrD B l, .int ii] S = .ok (DrD (hyB B l m i) (hyL B l m i)) (S ++ [.lst (bsL l (2 ^ i) (2 ^ m))])
def LeOk (f : List D → M D) : Prop := ∀ (S : Store) (p q : Rat), Sm 1000 p → Sm 1000 q → f [frD p, frD q] S = .ok (frD (p - q)) S
def PlOk (f : List D → M D) : Prop := ∀ (S : Store) (p q : Rat), Sm 1000 p → Sm 1000 q → f [frD p, frD q] S = .ok (frD (p + q)) S
theorem exc28_spec {C : Ev.Ctx} {S : Store} {B : Int} {l t : List Int} {m : Nat} {mi : Int} (hr : RqWsOk C.cl) (hb : RqBOk C.cl) (he : ExOk (C.cl 18)) (h : Dr B l (2 ^ m)) (ht : Bt t (2 ^ m)) (h1 : mi = (m : Int)) (m1 : 1 ≤ m) (m4 : m ≤ 4) :
    runF C fd_excess [.int mi, DrD B l, tI t] S = .ok (frD (exQ B l t)) S := by
  have p := pow_le m4
  have p1 : 0 < 2 ^ m := Nat.pow_pos (by decide)
  have s := fun b S => shl1 (b := b) (S := S) h1 (show m ≤ 6 by omega)
  have q := fun S => hb S t (2 ^ m) _ ht rfl (by omega)
  generalize ((2 ^ m : Nat) : Int) = z at s q
  simp only [run_eq, ss_nil, ss_cons, s_nm, s_asg, s_par, par2, par3, s_aug, augD_add, augD_sub, s_augIx, augX_add, augX_sub, s_expr, s_ret, s_retN, s_pass, s_brk, s_cont, s_ite, s_for, s_while, seqF_nx, seqF_rt, seqF_bk, seqF_ct, fnD_rt, fnD_nx, g_nm, g_tp, g_ix, gs_nil, gs_cons, e_int, e_bl, e_non, e_str, e_var, getV_0, getV_s, e_gl, opt_some, e_bin, e_neg, negD_int, e_not, notD_bl, e_and, e_or, bE_app, bolD_bl, okM_app, e_cmp, e_chain, chE_app, e_ite, e_tup, e_lst, e_ix, e_rev, e_slA, e_slL, e_slH, e_slLH, sl1_L, sl1_H, sl2_LH, e_call, e_bi, e_mt, mtE_bits, mtE_app, mtE_ext, mtE_pop, e_pcall, sl2E_int, augE_ref, noX_ok, e_comp, es_nil, es_cons, ifD_bl, ifD_t, ifD_f, b_ok, b_assoc, fTurn_eq, turn_eq, inT_some, inC_some, soE_app, evT_nil, evT_one, t_nm, t_tp, ts_nil, ts_cons, mkL_f, mkL_t, o_add, o_sub, c_lt, c_le, c_gt, c_ge, c_eqI, c_neI, b_int, b_intB, b_abs, b_max2, b_min2, b_gcd, b_lenT, b_lenL, b_lenS, b_tupT, b_tupL, b_lstT, b_lstL, b_isiT, b_isiI, b_isiB, revT, revL, ixT0, ixT1, ixT2, ixL0, ixL1, isI, q_vlT, q_vlL, q_vlS, q_enT, q_enL, q_zpTT, q_zpTL, q_zpLT, q_zpLL, forD_some, List.set_cons_zero, List.set_cons_succ, List.map_cons, List.map_nil, List.length_cons, List.length_nil, List.cons_append, List.nil_append, List.replicate_succ, List.replicate_zero, Nat.reduceAdd, Nat.reduceSub, Nat.reduceEqDiff, if_true, Option.bind_some, wipeD, fd_excess, hr S B l m mi h1 m1 m4 h, s, q, he S B l t (2 ^ m) h.rw ht (by omega) (by omega)]
theorem hyb29_spec {C : Ev.Ctx} {S : Store} {B : Int} {l : List Int} {m i : Nat} {mi ii : Int} (hr : RqWsOk C.cl) (hw : RqWOk C.cl) (hy : HyOk C.cl) (h : Dr B l (2 ^ m)) (h1 : mi = (m : Int)) (m1 : 1 ≤ m) (m4 : m ≤ 4) (h2 : ii = (i : Int)) (hi : i ≤ m) :
    runF C fd_hybrid [.int mi, DrD B l, .int ii] S = .ok (DrD (hyB B l m i) (hyL B l m i)) (S ++ [.lst (bsL l (2 ^ i) (2 ^ m))]) := by
  simp only [run_eq, ss_nil, ss_cons, s_nm, s_asg, s_par, par2, par3, s_aug, augD_add, augD_sub, s_augIx, augX_add, augX_sub, s_expr, s_ret, s_retN, s_pass, s_brk, s_cont, s_ite, s_for, s_while, seqF_nx, seqF_rt, seqF_bk, seqF_ct, fnD_rt, fnD_nx, g_nm, g_tp, g_ix, gs_nil, gs_cons, e_int, e_bl, e_non, e_str, e_var, getV_0, getV_s, e_gl, opt_some, e_bin, e_neg, negD_int, e_not, notD_bl, e_and, e_or, bE_app, bolD_bl, okM_app, e_cmp, e_chain, chE_app, e_ite, e_tup, e_lst, e_ix, e_rev, e_slA, e_slL, e_slH, e_slLH, sl1_L, sl1_H, sl2_LH, e_call, e_bi, e_mt, mtE_bits, mtE_app, mtE_ext, mtE_pop, e_pcall, sl2E_int, augE_ref, noX_ok, e_comp, es_nil, es_cons, ifD_bl, ifD_t, ifD_f, b_ok, b_assoc, fTurn_eq, turn_eq, inT_some, inC_some, soE_app, evT_nil, evT_one, t_nm, t_tp, ts_nil, ts_cons, mkL_f, mkL_t, o_add, o_sub, c_lt, c_le, c_gt, c_ge, c_eqI, c_neI, b_int, b_intB, b_abs, b_max2, b_min2, b_gcd, b_lenT, b_lenL, b_lenS, b_tupT, b_tupL, b_lstT, b_lstL, b_isiT, b_isiI, b_isiB, revT, revL, ixT0, ixT1, ixT2, ixL0, ixL1, isI, q_vlT, q_vlL, q_vlS, q_enT, q_enL, q_zpTT, q_zpTL, q_zpLT, q_zpLL, forD_some, List.set_cons_zero, List.set_cons_succ, List.map_cons, List.map_nil, List.length_cons, List.length_nil, List.cons_append, List.nil_append, List.replicate_succ, List.replicate_zero, Nat.reduceAdd, Nat.reduceSub, Nat.reduceEqDiff, if_true, Option.bind_some, wipeD, fd_hybrid, hr S B l m mi h1 m1 m4 h, hw S ii 0 mi (by omega) (by omega), hy S B l m i ii h.rw m4 h2 hi]
def chL (q : Nat → Rat) (k : Nat) : List D := (List.range k).map fun i => frD (q i)
def stT (q : Nat → Rat) (m : Nat) : D := .tup ((List.range m).map fun k => frD (q (k + 1) - q k))
theorem chL_snoc (q : Nat → Rat) (k : Nat) : chL q (k + 1) = chL q k ++ [frD (q k)] := by unfold chL; rw [List.range_succ, List.map_append]; rfl
theorem chL_len (q : Nat → Rat) (k : Nat) : (chL q k).length = k := by simp [chL]
theorem chL_get {q : Nat → Rat} {k i : Nat} (h : i < k) : (chL q k)[i]? = some (frD (q i)) := by simp [chL, h]
theorem zipD_with : ∀ xs ys : List D, zipD xs ys = List.zipWith (fun a b => D.tup [a, b]) xs ys
  | [], ys => by unfold zipD; simp
  | x :: xs, [] => by unfold zipD; simp
  | x :: xs, y :: ys => by
    conv => lhs; unfold zipD
    rw [zipD_with xs ys, List.zipWith_cons_cons]
theorem zip_ch (q : Nat → Rat) (m : Nat) : zipD (chL q (m + 1)) ((chL q (m + 1)).drop 1) = (List.range m).map fun k => D.tup [frD (q k), frD (q (k + 1))] := by
  rw [zipD_with]
  refine List.ext_getElem (by simp [chL]) fun i h1 h2 => ?_
  simp [chL, Nat.add_comm 1 i]
theorem slL1 {x : D} {xs : List D} {S : Store} : doSl false (.lst (x :: xs)) (some 1) none S = .ok (.lst ((x :: xs).drop 1)) S := by
  have e : cutD (x :: xs) (some 1) none = (x :: xs).drop 1 := by
    unfold cutD
    have h1 : sB (x :: xs).length 0 (some 1) = 1 := by
      simp only [sB]
      have : (1 : Int).toNat = 1 := rfl
      rw [if_neg (by decide), this, List.length_cons]
      omega
    have h2 : sB (x :: xs).length (x :: xs).length none = (x :: xs).length := rfl
    rw [h1, h2]
    exact List.take_of_length_le (by simp)
  show (match lstOf S (.lst (x :: xs)) with | some xs => mkL false (cutD xs (some 1) none) S | none => .no) = _
  show mkL false (cutD (x :: xs) (some 1) none) S = _
  rw [e, mkL_f]
theorem stepsin_spec {C : Ev.Ctx} {S : Store} {B : Int} {l t : List Int} {m : Nat} {mi : Int} (he : ExOk (C.cl 18)) (hy : HyOk C.cl) (hl : LeOk (C.cl 10)) (h : Dr B l (2 ^ m)) (ht : Bt t (2 ^ m)) (h1 : mi = (m : Int)) (m4 : m ≤ 4) :
    WP (runF C fd_steps_in [.int mi, DrD B l, tI t] S) fun d _ => d = stT (cq B l t m) m := by
  have lg := lim_ge
  have p := pow_le m4
  have p1 : 0 < 2 ^ m := Nat.pow_pos (by decide)
  have smq : ∀ i, Sm 200 (cq B l t m i) := fun i => ex_sm (hy_rw h m4) ht (by omega) (by omega)
  simp only [run_eq, ss_nil, ss_cons, s_nm, s_asg, s_par, par2, par3, s_aug, augD_add, augD_sub, s_augIx, augX_add, augX_sub, s_expr, s_ret, s_retN, s_pass, s_brk, s_cont, s_ite, s_for, s_while, seqF_nx, seqF_rt, seqF_bk, seqF_ct, fnD_rt, fnD_nx, g_nm, g_tp, g_ix, gs_nil, gs_cons, e_int, e_bl, e_non, e_str, e_var, getV_0, getV_s, e_gl, opt_some, e_bin, e_neg, negD_int, e_not, notD_bl, e_and, e_or, bE_app, bolD_bl, okM_app, e_cmp, e_chain, chE_app, e_ite, e_tup, e_lst, e_ix, e_rev, e_slA, e_slL, e_slH, e_slLH, sl1_L, sl1_H, sl2_LH, e_call, e_bi, e_mt, mtE_bits, mtE_app, mtE_ext, mtE_pop, e_pcall, sl2E_int, augE_ref, noX_ok, e_comp, es_nil, es_cons, ifD_bl, ifD_t, ifD_f, b_ok, b_assoc, fTurn_eq, turn_eq, inT_some, inC_some, soE_app, evT_nil, evT_one, t_nm, t_tp, ts_nil, ts_cons, mkL_f, mkL_t, o_add, o_sub, c_lt, c_le, c_gt, c_ge, c_eqI, c_neI, b_int, b_intB, b_abs, b_max2, b_min2, b_gcd, b_lenT, b_lenL, b_lenS, b_tupT, b_tupL, b_lstT, b_lstL, b_isiT, b_isiI, b_isiB, revT, revL, ixT0, ixT1, ixT2, ixL0, ixL1, isI, q_vlT, q_vlL, q_vlS, q_enT, q_enL, q_zpTT, q_zpTL, q_zpLT, q_zpLL, forD_some, List.set_cons_zero, List.set_cons_succ, List.map_cons, List.map_nil, List.length_cons, List.length_nil, List.cons_append, List.nil_append, List.replicate_succ, List.replicate_zero, Nat.reduceAdd, Nat.reduceSub, Nat.reduceEqDiff, if_true, Option.bind_some, wipeD, fd_steps_in, q_rg1' (show mi + 1 = ((m + 1 : Nat) : Int) by omega) (show m + 1 ≤ LIM by omega), compD_some (show (natsD (m + 1)).length ≤ LIM by rw [natsD_len]; omega)]
  refine WP_call (Q := fun acc _ => acc = chL (cq B l t m) (m + 1)) (by
    rw [WP_noX]
    refine comp_inv (fun i acc S' => acc = chL (cq B l t m) i) 0 rfl ?_ ?_
    · rintro i acc S' x rfl hi _ hx
      obtain ⟨rfl, hi2⟩ := natsD_get hx
      rw [Nat.sub_zero] at hi2
      obtain ⟨ii, hii⟩ : ∃ ii : Int, ii = ((i - 0 : Nat) : Int) := ⟨_, rfl⟩
      rw [← hii]
      rw [Nat.sub_zero] at hii
      refine ⟨dep_nil, ?_⟩
      simp only [run_eq, ss_nil, ss_cons, s_nm, s_asg, s_par, par2, par3, s_aug, augD_add, augD_sub, s_augIx, augX_add, augX_sub, s_expr, s_ret, s_retN, s_pass, s_brk, s_cont, s_ite, s_for, s_while, seqF_nx, seqF_rt, seqF_bk, seqF_ct, fnD_rt, fnD_nx, g_nm, g_tp, g_ix, gs_nil, gs_cons, e_int, e_bl, e_non, e_str, e_var, getV_0, getV_s, e_gl, opt_some, e_bin, e_neg, negD_int, e_not, notD_bl, e_and, e_or, bE_app, bolD_bl, okM_app, e_cmp, e_chain, chE_app, e_ite, e_tup, e_lst, e_ix, e_rev, e_slA, e_slL, e_slH, e_slLH, sl1_L, sl1_H, sl2_LH, e_call, e_bi, e_mt, mtE_bits, mtE_app, mtE_ext, mtE_pop, e_pcall, sl2E_int, augE_ref, noX_ok, e_comp, es_nil, es_cons, ifD_bl, ifD_t, ifD_f, b_ok, b_assoc, fTurn_eq, turn_eq, inT_some, inC_some, soE_app, evT_nil, evT_one, t_nm, t_tp, ts_nil, ts_cons, mkL_f, mkL_t, o_add, o_sub, c_lt, c_le, c_gt, c_ge, c_eqI, c_neI, b_int, b_intB, b_abs, b_max2, b_min2, b_gcd, b_lenT, b_lenL, b_lenS, b_tupT, b_tupL, b_lstT, b_lstL, b_isiT, b_isiI, b_isiB, revT, revL, ixT0, ixT1, ixT2, ixL0, ixL1, isI, q_vlT, q_vlL, q_vlS, q_enT, q_enL, q_zpTT, q_zpTL, q_zpLT, q_zpLL, forD_some, List.set_cons_zero, List.set_cons_succ, List.map_cons, List.map_nil, List.length_cons, List.length_nil, List.cons_append, List.nil_append, List.replicate_succ, List.replicate_zero, Nat.reduceAdd, Nat.reduceSub, Nat.reduceEqDiff, if_true, Option.bind_some, wipeD, hy S' B l m i ii h.rw m4 hii (by omega), he _ (hyB B l m i) (hyL B l m i) t (2 ^ m) (hy_rw h m4) ht (by omega) (by omega), WP_ok]
      rw [chL_snoc]; rfl
    · rintro acc S' rfl
      rw [natsD_len, Nat.zero_add]
      exact ⟨dep_nil, rfl⟩) fun acc S1 e => ?_
  subst e
  obtain ⟨x, xs, hxs⟩ : ∃ x xs, chL (cq B l t m) (m + 1) = x :: xs := by
    cases e : chL (cq B l t m) (m + 1) with
    | nil => have := chL_len (cq B l t m) (m + 1); rw [e] at this; simp at this
    | cons x xs => exact ⟨x, xs, rfl⟩
  have sl : doSl false (.lst (chL (cq B l t m) (m + 1))) (some 1) none S1 = .ok (.lst ((chL (cq B l t m) (m + 1)).drop 1)) S1 := by rw [hxs]; exact slL1
  simp only [run_eq, ss_nil, ss_cons, s_nm, s_asg, s_par, par2, par3, s_aug, augD_add, augD_sub, s_augIx, augX_add, augX_sub, s_expr, s_ret, s_retN, s_pass, s_brk, s_cont, s_ite, s_for, s_while, seqF_nx, seqF_rt, seqF_bk, seqF_ct, fnD_rt, fnD_nx, g_nm, g_tp, g_ix, gs_nil, gs_cons, e_int, e_bl, e_non, e_str, e_var, getV_0, getV_s, e_gl, opt_some, e_bin, e_neg, negD_int, e_not, notD_bl, e_and, e_or, bE_app, bolD_bl, okM_app, e_cmp, e_chain, chE_app, e_ite, e_tup, e_lst, e_ix, e_rev, e_slA, e_slL, e_slH, e_slLH, sl1_L, sl1_H, sl2_LH, e_call, e_bi, e_mt, mtE_bits, mtE_app, mtE_ext, mtE_pop, e_pcall, sl2E_int, augE_ref, noX_ok, e_comp, es_nil, es_cons, ifD_bl, ifD_t, ifD_f, b_ok, b_assoc, fTurn_eq, turn_eq, inT_some, inC_some, soE_app, evT_nil, evT_one, t_nm, t_tp, ts_nil, ts_cons, mkL_f, mkL_t, o_add, o_sub, c_lt, c_le, c_gt, c_ge, c_eqI, c_neI, b_int, b_intB, b_abs, b_max2, b_min2, b_gcd, b_lenT, b_lenL, b_lenS, b_tupT, b_tupL, b_lstT, b_lstL, b_isiT, b_isiI, b_isiB, revT, revL, ixT0, ixT1, ixT2, ixL0, ixL1, isI, q_vlT, q_vlL, q_vlS, q_enT, q_enL, q_zpTT, q_zpTL, q_zpLT, q_zpLL, forD_some, List.set_cons_zero, List.set_cons_succ, List.map_cons, List.map_nil, List.length_cons, List.length_nil, List.cons_append, List.nil_append, List.replicate_succ, List.replicate_zero, Nat.reduceAdd, Nat.reduceSub, Nat.reduceEqDiff, if_true, Option.bind_some, wipeD, sl, zip_ch, compD_some (show ((List.range m).map fun k => D.tup [frD (cq B l t m k), frD (cq B l t m (k + 1))]).length ≤ LIM by simp; omega)]
  rw [comp_map (h := fun k => D.tup [frD (cq B l t m k), frD (cq B l t m (k + 1))]) (fun k => frD (cq B l t m (k + 1) - cq B l t m k)) fun k hk => by
    simp only [run_eq, ss_nil, ss_cons, s_nm, s_asg, s_par, par2, par3, s_aug, augD_add, augD_sub, s_augIx, augX_add, augX_sub, s_expr, s_ret, s_retN, s_pass, s_brk, s_cont, s_ite, s_for, s_while, seqF_nx, seqF_rt, seqF_bk, seqF_ct, fnD_rt, fnD_nx, g_nm, g_tp, g_ix, gs_nil, gs_cons, e_int, e_bl, e_non, e_str, e_var, getV_0, getV_s, e_gl, opt_some, e_bin, e_neg, negD_int, e_not, notD_bl, e_and, e_or, bE_app, bolD_bl, okM_app, e_cmp, e_chain, chE_app, e_ite, e_tup, e_lst, e_ix, e_rev, e_slA, e_slL, e_slH, e_slLH, sl1_L, sl1_H, sl2_LH, e_call, e_bi, e_mt, mtE_bits, mtE_app, mtE_ext, mtE_pop, e_pcall, sl2E_int, augE_ref, noX_ok, e_comp, es_nil, es_cons, ifD_bl, ifD_t, ifD_f, b_ok, b_assoc, fTurn_eq, turn_eq, inT_some, inC_some, soE_app, evT_nil, evT_one, t_nm, t_tp, ts_nil, ts_cons, mkL_f, mkL_t, o_add, o_sub, c_lt, c_le, c_gt, c_ge, c_eqI, c_neI, b_int, b_intB, b_abs, b_max2, b_min2, b_gcd, b_lenT, b_lenL, b_lenS, b_tupT, b_tupL, b_lstT, b_lstL, b_isiT, b_isiI, b_isiB, revT, revL, ixT0, ixT1, ixT2, ixL0, ixL1, isI, q_vlT, q_vlL, q_vlS, q_enT, q_enL, q_zpTT, q_zpTL, q_zpLT, q_zpLL, forD_some, List.set_cons_zero, List.set_cons_succ, List.map_cons, List.map_nil, List.length_cons, List.length_nil, List.cons_append, List.nil_append, List.replicate_succ, List.replicate_zero, Nat.reduceAdd, Nat.reduceSub, Nat.reduceEqDiff, if_true, Option.bind_some, wipeD, hl S1 _ _ (smq (k + 1)).up (smq k).up]]
  simp only [run_eq, ss_nil, ss_cons, s_nm, s_asg, s_par, par2, par3, s_aug, augD_add, augD_sub, s_augIx, augX_add, augX_sub, s_expr, s_ret, s_retN, s_pass, s_brk, s_cont, s_ite, s_for, s_while, seqF_nx, seqF_rt, seqF_bk, seqF_ct, fnD_rt, fnD_nx, g_nm, g_tp, g_ix, gs_nil, gs_cons, e_int, e_bl, e_non, e_str, e_var, getV_0, getV_s, e_gl, opt_some, e_bin, e_neg, negD_int, e_not, notD_bl, e_and, e_or, bE_app, bolD_bl, okM_app, e_cmp, e_chain, chE_app, e_ite, e_tup, e_lst, e_ix, e_rev, e_slA, e_slL, e_slH, e_slLH, sl1_L, sl1_H, sl2_LH, e_call, e_bi, e_mt, mtE_bits, mtE_app, mtE_ext, mtE_pop, e_pcall, sl2E_int, augE_ref, noX_ok, e_comp, es_nil, es_cons, ifD_bl, ifD_t, ifD_f, b_ok, b_assoc, fTurn_eq, turn_eq, inT_some, inC_some, soE_app, evT_nil, evT_one, t_nm, t_tp, ts_nil, ts_cons, mkL_f, mkL_t, o_add, o_sub, c_lt, c_le, c_gt, c_ge, c_eqI, c_neI, b_int, b_intB, b_abs, b_max2, b_min2, b_gcd, b_lenT, b_lenL, b_lenS, b_tupT, b_tupL, b_lstT, b_lstL, b_isiT, b_isiI, b_isiB, revT, revL, ixT0, ixT1, ixT2, ixL0, ixL1, isI, q_vlT, q_vlL, q_vlS, q_enT, q_enL, q_zpTT, q_zpTL, q_zpLT, q_zpLL, forD_some, List.set_cons_zero, List.set_cons_succ, List.map_cons, List.map_nil, List.length_cons, List.length_nil, List.cons_append, List.nil_append, List.replicate_succ, List.replicate_zero, Nat.reduceAdd, Nat.reduceSub, Nat.reduceEqDiff, if_true, Option.bind_some, wipeD, WP_ok]
  rfl
theorem steps30_spec {C : Ev.Ctx} {S : Store} {B : Int} {l t : List Int} {m : Nat} {mi : Int} (hr : RqWsOk C.cl) (hb : RqBOk C.cl) (hs : ∀ S, WP (C.cl 21 [.int mi, DrD B l, tI t] S) fun d _ => d = stT (cq B l t m) m) (h : Dr B l (2 ^ m)) (ht : Bt t (2 ^ m)) (h1 : mi = (m : Int)) (m1 : 1 ≤ m) (m4 : m ≤ 4) :
    WP (runF C fd_steps [.int mi, DrD B l, tI t] S) fun d _ => d = stT (cq B l t m) m := by
  have p := pow_le m4
  have s := fun b S => shl1 (b := b) (S := S) h1 (show m ≤ 6 by omega)
  have q := fun S => hb S t (2 ^ m) _ ht rfl (by omega)
  generalize ((2 ^ m : Nat) : Int) = z at s q
  simp only [run_eq, ss_nil, ss_cons, s_nm, s_asg, s_par, par2, par3, s_aug, augD_add, augD_sub, s_augIx, augX_add, augX_sub, s_expr, s_ret, s_retN, s_pass, s_brk, s_cont, s_ite, s_for, s_while, seqF_nx, seqF_rt, seqF_bk, seqF_ct, fnD_rt, fnD_nx, g_nm, g_tp, g_ix, gs_nil, gs_cons, e_int, e_bl, e_non, e_str, e_var, getV_0, getV_s, e_gl, opt_some, e_bin, e_neg, negD_int, e_not, notD_bl, e_and, e_or, bE_app, bolD_bl, okM_app, e_cmp, e_chain, chE_app, e_ite, e_tup, e_lst, e_ix, e_rev, e_slA, e_slL, e_slH, e_slLH, sl1_L, sl1_H, sl2_LH, e_call, e_bi, e_mt, mtE_bits, mtE_app, mtE_ext, mtE_pop, e_pcall, sl2E_int, augE_ref, noX_ok, e_comp, es_nil, es_cons, ifD_bl, ifD_t, ifD_f, b_ok, b_assoc, fTurn_eq, turn_eq, inT_some, inC_some, soE_app, evT_nil, evT_one, t_nm, t_tp, ts_nil, ts_cons, mkL_f, mkL_t, o_add, o_sub, c_lt, c_le, c_gt, c_ge, c_eqI, c_neI, b_int, b_intB, b_abs, b_max2, b_min2, b_gcd, b_lenT, b_lenL, b_lenS, b_tupT, b_tupL, b_lstT, b_lstL, b_isiT, b_isiI, b_isiB, revT, revL, ixT0, ixT1, ixT2, ixL0, ixL1, isI, q_vlT, q_vlL, q_vlS, q_enT, q_enL, q_zpTT, q_zpTL, q_zpLT, q_zpLL, forD_some, List.set_cons_zero, List.set_cons_succ, List.map_cons, List.map_nil, List.length_cons, List.length_nil, List.cons_append, List.nil_append, List.replicate_succ, List.replicate_zero, Nat.reduceAdd, Nat.reduceSub, Nat.reduceEqDiff, if_true, Option.bind_some, wipeD, fd_steps, hr S B l m mi h1 m1 m4 h, s, q]
  refine WP_call (hs S) fun d S1 e => ?_
  subst e
  simp only [run_eq, ss_nil, ss_cons, s_nm, s_asg, s_par, par2, par3, s_aug, augD_add, augD_sub, s_augIx, augX_add, augX_sub, s_expr, s_ret, s_retN, s_pass, s_brk, s_cont, s_ite, s_for, s_while, seqF_nx, seqF_rt, seqF_bk, seqF_ct, fnD_rt, fnD_nx, g_nm, g_tp, g_ix, gs_nil, gs_cons, e_int, e_bl, e_non, e_str, e_var, getV_0, getV_s, e_gl, opt_some, e_bin, e_neg, negD_int, e_not, notD_bl, e_and, e_or, bE_app, bolD_bl, okM_app, e_cmp, e_chain, chE_app, e_ite, e_tup, e_lst, e_ix, e_rev, e_slA, e_slL, e_slH, e_slLH, sl1_L, sl1_H, sl2_LH, e_call, e_bi, e_mt, mtE_bits, mtE_app, mtE_ext, mtE_pop, e_pcall, sl2E_int, augE_ref, noX_ok, e_comp, es_nil, es_cons, ifD_bl, ifD_t, ifD_f, b_ok, b_assoc, fTurn_eq, turn_eq, inT_some, inC_some, soE_app, evT_nil, evT_one, t_nm, t_tp, ts_nil, ts_cons, mkL_f, mkL_t, o_add, o_sub, c_lt, c_le, c_gt, c_ge, c_eqI, c_neI, b_int, b_intB, b_abs, b_max2, b_min2, b_gcd, b_lenT, b_lenL, b_lenS, b_tupT, b_tupL, b_lstT, b_lstL, b_isiT, b_isiI, b_isiB, revT, revL, ixT0, ixT1, ixT2, ixL0, ixL1, isI, q_vlT, q_vlL, q_vlS, q_enT, q_enL, q_zpTT, q_zpTL, q_zpLT, q_zpLL, forD_some, List.set_cons_zero, List.set_cons_succ, List.map_cons, List.map_nil, List.length_cons, List.length_nil, List.cons_append, List.nil_append, List.replicate_succ, List.replicate_zero, Nat.reduceAdd, Nat.reduceSub, Nat.reduceEqDiff, if_true, Option.bind_some, wipeD, WP_ok]
end LW
namespace LW
open PySem L2 Ev
structure RH (C : Ev.Ctx) : Prop where
  ho : OfOk C.cl
  hd : ∀ (S : Store) (n N M : Nat) (Mi : Int), Di n N S → N + M + 10 < 2 ^ 100 → Mi = (M : Int) → 1 ≤ M → M ≤ 64 → WP (C.cl 42 [.ref n, .int Mi] S) fun d S' => ∃ B l, d = DrD B l ∧ Dr B l M ∧ Fr n S S' ∧ Di n (N + M + 5) S'
  hb : ∀ (S : Store) (n N M : Nat) (Mi : Int), Di n N S → N + M + 1 < 2 ^ 100 → Mi = (M : Int) → 2 ≤ M → M ≤ 64 → WP (C.cl 41 [.ref n, .int Mi] S) fun d S' => ∃ t, d = tI t ∧ Bt t M ∧ Fr n S S' ∧ Di n (N + 1 + M) S'
  tw : TwOk (pureC (C.cl 33))
  dw : ∀ (S : Store) (l : List Int) (m : Nat) (mi : Int), mi = (m : Int) → 1 ≤ m → m ≤ 4 → l.length = 2 ^ m → (∀ x, x ∈ l → 0 ≤ x ∧ x < 1000000000) → 0 < l.sum → l.sum < 2 ^ 8000 → pureC (C.cl 26) [.int mi, tI l] S = .ok (lsD l.sum l) S
  ls : LsOk (pureC (C.cl 39))
  ex : ∀ (S : Store) (B : Int) (l t : List Int) (m : Nat) (mi : Int), Dr B l (2 ^ m) → Bt t (2 ^ m) → mi = (m : Int) → 1 ≤ m → m ≤ 4 → pureC (C.cl 28) [.int mi, DrD B l, tI t] S = .ok (frD (exQ B l t)) S
  exL : ExOk (pureC (C.cl 43))
  hy : ∀ (S : Store) (B : Int) (l : List Int) (m i : Nat) (mi ii : Int), Dr B l (2 ^ m) → mi = (m : Int) → 1 ≤ m → m ≤ 4 → ii = (i : Int) → i ≤ m → pureC (C.cl 29) [.int mi, DrD B l, .int ii] S = .ok (DrD (hyB B l m i) (hyL B l m i)) S
  hyL : ∀ (S : Store) (B : Int) (l : List Int) (m i : Nat) (mi ii : Int), Dr B l (2 ^ m) → mi = (m : Int) → 1 ≤ m → m ≤ 4 → ii = (i : Int) → i ≤ m → pureC (C.cl 45) [DrD B l, .int mi, .int ii] S = .ok (DrD (hyB B l m i) (hyL B l m i)) S
  le : LeOk (pureC (C.cl 38))
  pl : PlOk (pureC (C.cl 37))
  st : ∀ (S : Store) (B : Int) (l t : List Int) (m : Nat) (mi : Int), Dr B l (2 ^ m) → Bt t (2 ^ m) → mi = (m : Int) → 1 ≤ m → m ≤ 4 → pureC (C.cl 30) [.int mi, DrD B l, tI t] S = .ok (stT (cq B l t m) m) S
theorem shal_Dr {B : Int} {l : List Int} {n : Nat} : shal (n + 2) (DrD B l) = true := by
  show (shal (n + 1) (.int B) && (shal.shals n (l.map .int) && true)) = true
  rw [shals_int]; rfl
theorem shals_of {n : Nat} : ∀ {xs : List D}, (∀ x, x ∈ xs → shal n x = true) → shal.shals n xs = true
  | [], _ => rfl
  | x :: xs, h => by
    show (shal n x && shal.shals n xs) = true
    rw [h x List.mem_cons_self, shals_of fun y hy => h y (List.mem_cons_of_mem _ hy)]; rfl
theorem shal_fr {q : Rat} {n : Nat} : shal (n + 2) (frD q) = true := rfl
theorem shal_st {q : Nat → Rat} {m : Nat} : shal 40 (stT q m) = true := shals_of fun x hx => by
  obtain ⟨k, _, rfl⟩ := List.mem_map.mp hx
  exact shal_fr
def hyA (B : Int) (l : List Int) (m k : Nat) : List D := (List.range k).map fun i => DrD (hyB B l m i) (hyL B l m i)
theorem shal_hy {B : Int} {l : List Int} {m k : Nat} : shal 40 (.lst (hyA B l m k)) = true := shals_of fun x hx => by
  obtain ⟨k, _, rfl⟩ := List.mem_map.mp hx
  exact shal_Dr
theorem mod_sum {c : Int} : ∀ {l : List Int}, True → (l.map (· % c)).length = l.length := fun _ => by simp
theorem tup_I (l : List Int) : D.tup (l.map D.int) = tI l := rfl
theorem right_spec {C : Ev.Ctx} {S : Store} {n N : Nat} (H : RH C) (h : Di n N S) (hN : N + 1000 < 2 ^ 100) : WP (runF C fd_law_right [.ref n] S) fun d S' => d = .bl true ∧ Di n (N + 100) S' := by
  have lg := lim_ge
  simp only [run_eq, ss_nil, ss_cons, s_nm, s_asg, s_par, par2, par3, s_aug, augD_add, augD_sub, s_augIx, augX_add, augX_sub, s_expr, s_ret, s_retN, s_pass, s_brk, s_cont, s_ite, s_for, s_while, seqF_nx, seqF_rt, seqF_bk, seqF_ct, fnD_rt, fnD_nx, g_nm, g_tp, g_ix, gs_nil, gs_cons, e_int, e_bl, e_non, e_str, e_var, getV_0, getV_s, e_gl, opt_some, e_bin, e_neg, negD_int, e_not, notD_bl, e_and, e_or, bE_app, bolD_bl, okM_app, e_cmp, e_chain, chE_app, e_ite, e_tup, e_lst, e_ix, e_rev, e_slA, e_slL, e_slH, e_slLH, sl1_L, sl1_H, sl2_LH, e_call, e_bi, e_mt, mtE_bits, mtE_app, mtE_ext, mtE_pop, e_pcall, sl2E_int, augE_ref, noX_ok, e_comp, es_nil, es_cons, ifD_bl, ifD_t, ifD_f, b_ok, b_assoc, fTurn_eq, turn_eq, inT_some, inC_some, soE_app, evT_nil, evT_one, t_nm, t_tp, ts_nil, ts_cons, mkL_f, mkL_t, o_add, o_sub, c_lt, c_le, c_gt, c_ge, c_eqI, c_neI, b_int, b_intB, b_abs, b_max2, b_min2, b_gcd, b_lenT, b_lenL, b_lenS, b_tupT, b_tupL, b_lstT, b_lstL, b_isiT, b_isiI, b_isiB, revT, revL, ixT0, ixT1, ixT2, ixL0, ixL1, isI, q_vlT, q_vlL, q_vlS, q_enT, q_enL, q_zpTT, q_zpTL, q_zpLT, q_zpLL, forD_some, List.set_cons_zero, List.set_cons_succ, List.map_cons, List.map_nil, List.length_cons, List.length_nil, List.cons_append, List.nil_append, List.replicate_succ, List.replicate_zero, Nat.reduceAdd, Nat.reduceSub, Nat.reduceEqDiff, if_true, Option.bind_some, wipeD, fd_law_right]
  refine WP_call (H.ho S n N _ h (by omega) (by simp) (by simp)) fun d S1 ⟨hd, f1, d1⟩ => ?_
  obtain ⟨m, mi, rfl, hmi, m1, m4⟩ : ∃ (m : Nat) (mi : Int), d = .int mi ∧ mi = (m : Int) ∧ 1 ≤ m ∧ m ≤ 4 := by
    simp only [List.mem_cons, List.not_mem_nil, or_false] at hd
    rcases hd with rfl | rfl | rfl | rfl | rfl
    · exact ⟨1, 1, rfl, rfl, by decide, by decide⟩
    · exact ⟨2, 2, rfl, rfl, by decide, by decide⟩
    · exact ⟨3, 3, rfl, rfl, by decide, by decide⟩
    · exact ⟨3, 3, rfl, rfl, by decide, by decide⟩
    · exact ⟨4, 4, rfl, rfl, by decide, by decide⟩
  clear hd
  have p := pow_le m4
  have p2 : 2 ≤ 2 ^ m := by
    have : 2 ^ 1 ≤ 2 ^ m := Nat.pow_le_pow_right (by decide) m1
    omega
  obtain ⟨Mi, hMi⟩ : ∃ Mi : Int, Mi = ((2 ^ m : Nat) : Int) := ⟨_, rfl⟩
  have tw : ∀ S, pureC (C.cl 33) [.int mi] S = .ok (.int Mi) S := fun S => by rw [H.tw S m mi hmi (by omega), hMi]
  simp only [run_eq, ss_nil, ss_cons, s_nm, s_asg, s_par, par2, par3, s_aug, augD_add, augD_sub, s_augIx, augX_add, augX_sub, s_expr, s_ret, s_retN, s_pass, s_brk, s_cont, s_ite, s_for, s_while, seqF_nx, seqF_rt, seqF_bk, seqF_ct, fnD_rt, fnD_nx, g_nm, g_tp, g_ix, gs_nil, gs_cons, e_int, e_bl, e_non, e_str, e_var, getV_0, getV_s, e_gl, opt_some, e_bin, e_neg, negD_int, e_not, notD_bl, e_and, e_or, bE_app, bolD_bl, okM_app, e_cmp, e_chain, chE_app, e_ite, e_tup, e_lst, e_ix, e_rev, e_slA, e_slL, e_slH, e_slLH, sl1_L, sl1_H, sl2_LH, e_call, e_bi, e_mt, mtE_bits, mtE_app, mtE_ext, mtE_pop, e_pcall, sl2E_int, augE_ref, noX_ok, e_comp, es_nil, es_cons, ifD_bl, ifD_t, ifD_f, b_ok, b_assoc, fTurn_eq, turn_eq, inT_some, inC_some, soE_app, evT_nil, evT_one, t_nm, t_tp, ts_nil, ts_cons, mkL_f, mkL_t, o_add, o_sub, c_lt, c_le, c_gt, c_ge, c_eqI, c_neI, b_int, b_intB, b_abs, b_max2, b_min2, b_gcd, b_lenT, b_lenL, b_lenS, b_tupT, b_tupL, b_lstT, b_lstL, b_isiT, b_isiI, b_isiB, revT, revL, ixT0, ixT1, ixT2, ixL0, ixL1, isI, q_vlT, q_vlL, q_vlS, q_enT, q_enL, q_zpTT, q_zpTL, q_zpLT, q_zpLL, forD_some, List.set_cons_zero, List.set_cons_succ, List.map_cons, List.map_nil, List.length_cons, List.length_nil, List.cons_append, List.nil_append, List.replicate_succ, List.replicate_zero, Nat.reduceAdd, Nat.reduceSub, Nat.reduceEqDiff, if_true, Option.bind_some, wipeD, tw]
  refine WP_call (H.hd S1 n _ (2 ^ m) Mi d1 (by omega) hMi (by omega) (by omega)) fun d S2 ⟨B, l, e, hl, f2, d2⟩ => ?_
  subst e
  simp only [run_eq, ss_nil, ss_cons, s_nm, s_asg, s_par, par2, par3, s_aug, augD_add, augD_sub, s_augIx, augX_add, augX_sub, s_expr, s_ret, s_retN, s_pass, s_brk, s_cont, s_ite, s_for, s_while, seqF_nx, seqF_rt, seqF_bk, seqF_ct, fnD_rt, fnD_nx, g_nm, g_tp, g_ix, gs_nil, gs_cons, e_int, e_bl, e_non, e_str, e_var, getV_0, getV_s, e_gl, opt_some, e_bin, e_neg, negD_int, e_not, notD_bl, e_and, e_or, bE_app, bolD_bl, okM_app, e_cmp, e_chain, chE_app, e_ite, e_tup, e_lst, e_ix, e_rev, e_slA, e_slL, e_slH, e_slLH, sl1_L, sl1_H, sl2_LH, e_call, e_bi, e_mt, mtE_bits, mtE_app, mtE_ext, mtE_pop, e_pcall, sl2E_int, augE_ref, noX_ok, e_comp, es_nil, es_cons, ifD_bl, ifD_t, ifD_f, b_ok, b_assoc, fTurn_eq, turn_eq, inT_some, inC_some, soE_app, evT_nil, evT_one, t_nm, t_tp, ts_nil, ts_cons, mkL_f, mkL_t, o_add, o_sub, c_lt, c_le, c_gt, c_ge, c_eqI, c_neI, b_int, b_intB, b_abs, b_max2, b_min2, b_gcd, b_lenT, b_lenL, b_lenS, b_tupT, b_tupL, b_lstT, b_lstL, b_isiT, b_isiI, b_isiB, revT, revL, ixT0, ixT1, ixT2, ixL0, ixL1, isI, q_vlT, q_vlL, q_vlS, q_enT, q_enL, q_zpTT, q_zpTL, q_zpLT, q_zpLL, forD_some, List.set_cons_zero, List.set_cons_succ, List.map_cons, List.map_nil, List.length_cons, List.length_nil, List.cons_append, List.nil_append, List.replicate_succ, List.replicate_zero, Nat.reduceAdd, Nat.reduceSub, Nat.reduceEqDiff, if_true, Option.bind_some, wipeD, tw]
  refine WP_call (H.hb S2 n _ (2 ^ m) Mi d2 (by omega) hMi (by omega) (by omega)) fun d S3 ⟨t, e, ht, f3, d3⟩ => ?_
  subst e
  have d3 : Di n (N + 100) S3 := d3.mono (by omega)
  have smq : ∀ i, Sm 200 (cq B l t m i) := fun i => ex_sm (hy_rw hl m4) ht (by omega) (by omega)
  -- the counts
  obtain ⟨lc, hlc⟩ : ∃ lc, lc = l.map fun x => x % 999999937 := ⟨_, rfl⟩
  have lc1 : lc.length = 2 ^ m := by rw [hlc, List.length_map]; exact hl.rw.len
  have lc2 : ∀ x, x ∈ lc → 0 ≤ x ∧ x ≤ 999999937 := fun x hx => by
    rw [hlc] at hx
    obtain ⟨y, _, rfl⟩ := List.mem_map.mp hx
    have a := Int.emod_nonneg y (show (999999937 : Int) ≠ 0 by decide)
    have b := Int.emod_lt_of_pos y (show (0 : Int) < 999999937 by decide)
    omega
  have lc3 := sum_bd lc2
  rw [lc1] at lc3
  have lc4 : ((2 ^ m : Nat) : Int) * 999999937 ≤ 16 * 999999937 := Int.mul_le_mul_of_nonneg_right (by omega) (by decide)
  have lc5 : lc.sum ≤ 16 * 999999937 := by omega
  have lc6 : (16 * 999999937 : Int) < 2 ^ 8000 := by decide +kernel
  have pm : (0 : Int) < 999999937 := by decide
  simp only [run_eq, ss_nil, ss_cons, s_nm, s_asg, s_par, par2, par3, s_aug, augD_add, augD_sub, s_augIx, augX_add, augX_sub, s_expr, s_ret, s_retN, s_pass, s_brk, s_cont, s_ite, s_for, s_while, seqF_nx, seqF_rt, seqF_bk, seqF_ct, fnD_rt, fnD_nx, g_nm, g_tp, g_ix, gs_nil, gs_cons, e_int, e_bl, e_non, e_str, e_var, getV_0, getV_s, e_gl, opt_some, e_bin, e_neg, negD_int, e_not, notD_bl, e_and, e_or, bE_app, bolD_bl, okM_app, e_cmp, e_chain, chE_app, e_ite, e_tup, e_lst, e_ix, e_rev, e_slA, e_slL, e_slH, e_slLH, sl1_L, sl1_H, sl2_LH, e_call, e_bi, e_mt, mtE_bits, mtE_app, mtE_ext, mtE_pop, e_pcall, sl2E_int, augE_ref, noX_ok, e_comp, es_nil, es_cons, ifD_bl, ifD_t, ifD_f, b_ok, b_assoc, fTurn_eq, turn_eq, inT_some, inC_some, soE_app, evT_nil, evT_one, t_nm, t_tp, ts_nil, ts_cons, mkL_f, mkL_t, o_add, o_sub, c_lt, c_le, c_gt, c_ge, c_eqI, c_neI, b_int, b_intB, b_abs, b_max2, b_min2, b_gcd, b_lenT, b_lenL, b_lenS, b_tupT, b_tupL, b_lstT, b_lstL, b_isiT, b_isiI, b_isiB, revT, revL, ixT0, ixT1, ixT2, ixL0, ixL1, isI, q_vlT, q_vlL, q_vlS, q_enT, q_enL, q_zpTT, q_zpTL, q_zpLT, q_zpLL, forD_some, List.set_cons_zero, List.set_cons_succ, List.map_cons, List.map_nil, List.length_cons, List.length_nil, List.cons_append, List.nil_append, List.replicate_succ, List.replicate_zero, Nat.reduceAdd, Nat.reduceSub, Nat.reduceEqDiff, if_true, Option.bind_some, wipeD, ixD1, srcI, compD_some (limI (l := l) (by rw [hl.rw.len]; omega))]
  rw [comp_int (fun x => x % 999999937) dep_nil fun x hx => by simp only [run_eq, ss_nil, ss_cons, s_nm, s_asg, s_par, par2, par3, s_aug, augD_add, augD_sub, s_augIx, augX_add, augX_sub, s_expr, s_ret, s_retN, s_pass, s_brk, s_cont, s_ite, s_for, s_while, seqF_nx, seqF_rt, seqF_bk, seqF_ct, fnD_rt, fnD_nx, g_nm, g_tp, g_ix, gs_nil, gs_cons, e_int, e_bl, e_non, e_str, e_var, getV_0, getV_s, e_gl, opt_some, e_bin, e_neg, negD_int, e_not, notD_bl, e_and, e_or, bE_app, bolD_bl, okM_app, e_cmp, e_chain, chE_app, e_ite, e_tup, e_lst, e_ix, e_rev, e_slA, e_slL, e_slH, e_slLH, sl1_L, sl1_H, sl2_LH, e_call, e_bi, e_mt, mtE_bits, mtE_app, mtE_ext, mtE_pop, e_pcall, sl2E_int, augE_ref, noX_ok, e_comp, es_nil, es_cons, ifD_bl, ifD_t, ifD_f, b_ok, b_assoc, fTurn_eq, turn_eq, inT_some, inC_some, soE_app, evT_nil, evT_one, t_nm, t_tp, ts_nil, ts_cons, mkL_f, mkL_t, o_add, o_sub, c_lt, c_le, c_gt, c_ge, c_eqI, c_neI, b_int, b_intB, b_abs, b_max2, b_min2, b_gcd, b_lenT, b_lenL, b_lenS, b_tupT, b_tupL, b_lstT, b_lstL, b_isiT, b_isiI, b_isiB, revT, revL, ixT0, ixT1, ixT2, ixL0, ixL1, isI, q_vlT, q_vlL, q_vlS, q_enT, q_enL, q_zpTT, q_zpTL, q_zpLT, q_zpLL, forD_some, List.set_cons_zero, List.set_cons_succ, List.map_cons, List.map_nil, List.length_cons, List.length_nil, List.cons_append, List.nil_append, List.replicate_succ, List.replicate_zero, Nat.reduceAdd, Nat.reduceSub, Nat.reduceEqDiff, if_true, Option.bind_some, wipeD, o_mod pm]]
  rw [← hlc]
  have sm : ∀ S b, doBi .sum b [tI lc] S = .ok (.int lc.sum) S := fun S b => b_sumT
  have e3 : (if decide (0 < lc.sum) = true then true else true) = true := by simp
  have s4 : evS C (.ite (.and (.cmp .gt (.bi .sum false [(.var 4)]) (.int 0)) (.cmp .ne (.pcall 26 [(.var 1), (.var 4)]) (.pcall 39 [(.tup [(.bi .sum false [(.var 4)]), (.var 4)])]))) [.ret (.bl false)] [])
      [some (.ref n), some (.int mi), some (DrD B l), some (tI t), some (tI lc), none, none, none, none, none, none, none, none] S3 = .ok (.nx [some (.ref n), some (.int mi), some (DrD B l), some (tI t), some (tI lc), none, none, none, none, none, none, none, none]) S3 := by
    by_cases h0 : 0 < lc.sum
    · have q1 := H.dw S3 lc m mi hmi m1 m4 lc1 (fun x hx => by have := lc2 x hx; omega) h0 (by omega)
      have q2 := H.ls S3 lc.sum lc h0 (by omega) (by omega)
      have q3 : doCmp .ne (lsD lc.sum lc) (lsD lc.sum lc) S3 = .ok (.bl false) S3 := c_neS shal_Dr
      simp only [run_eq, ss_nil, ss_cons, s_nm, s_asg, s_par, par2, par3, s_aug, augD_add, augD_sub, s_augIx, augX_add, augX_sub, s_expr, s_ret, s_retN, s_pass, s_brk, s_cont, s_ite, s_for, s_while, seqF_nx, seqF_rt, seqF_bk, seqF_ct, fnD_rt, fnD_nx, g_nm, g_tp, g_ix, gs_nil, gs_cons, e_int, e_bl, e_non, e_str, e_var, getV_0, getV_s, e_gl, opt_some, e_bin, e_neg, negD_int, e_not, notD_bl, e_and, e_or, bE_app, bolD_bl, okM_app, e_cmp, e_chain, chE_app, e_ite, e_tup, e_lst, e_ix, e_rev, e_slA, e_slL, e_slH, e_slLH, sl1_L, sl1_H, sl2_LH, e_call, e_bi, e_mt, mtE_bits, mtE_app, mtE_ext, mtE_pop, e_pcall, sl2E_int, augE_ref, noX_ok, e_comp, es_nil, es_cons, ifD_bl, ifD_t, ifD_f, b_ok, b_assoc, fTurn_eq, turn_eq, inT_some, inC_some, soE_app, evT_nil, evT_one, t_nm, t_tp, ts_nil, ts_cons, mkL_f, mkL_t, o_add, o_sub, c_lt, c_le, c_gt, c_ge, c_eqI, c_neI, b_int, b_intB, b_abs, b_max2, b_min2, b_gcd, b_lenT, b_lenL, b_lenS, b_tupT, b_tupL, b_lstT, b_lstL, b_isiT, b_isiI, b_isiB, revT, revL, ixT0, ixT1, ixT2, ixL0, ixL1, isI, q_vlT, q_vlL, q_vlS, q_enT, q_enL, q_zpTT, q_zpTL, q_zpLT, q_zpLL, forD_some, List.set_cons_zero, List.set_cons_succ, List.map_cons, List.map_nil, List.length_cons, List.length_nil, List.cons_append, List.nil_append, List.replicate_succ, List.replicate_zero, Nat.reduceAdd, Nat.reduceSub, Nat.reduceEqDiff, if_true, Option.bind_some, wipeD, decide_true, decide_false, not_true_eq_false, not_false_eq_true, Bool.false_eq_true, if_false, Bool.not_true, Bool.not_false, ne_eq, sm, h0, q1, q2, q3]
    · simp only [run_eq, ss_nil, ss_cons, s_nm, s_asg, s_par, par2, par3, s_aug, augD_add, augD_sub, s_augIx, augX_add, augX_sub, s_expr, s_ret, s_retN, s_pass, s_brk, s_cont, s_ite, s_for, s_while, seqF_nx, seqF_rt, seqF_bk, seqF_ct, fnD_rt, fnD_nx, g_nm, g_tp, g_ix, gs_nil, gs_cons, e_int, e_bl, e_non, e_str, e_var, getV_0, getV_s, e_gl, opt_some, e_bin, e_neg, negD_int, e_not, notD_bl, e_and, e_or, bE_app, bolD_bl, okM_app, e_cmp, e_chain, chE_app, e_ite, e_tup, e_lst, e_ix, e_rev, e_slA, e_slL, e_slH, e_slLH, sl1_L, sl1_H, sl2_LH, e_call, e_bi, e_mt, mtE_bits, mtE_app, mtE_ext, mtE_pop, e_pcall, sl2E_int, augE_ref, noX_ok, e_comp, es_nil, es_cons, ifD_bl, ifD_t, ifD_f, b_ok, b_assoc, fTurn_eq, turn_eq, inT_some, inC_some, soE_app, evT_nil, evT_one, t_nm, t_tp, ts_nil, ts_cons, mkL_f, mkL_t, o_add, o_sub, c_lt, c_le, c_gt, c_ge, c_eqI, c_neI, b_int, b_intB, b_abs, b_max2, b_min2, b_gcd, b_lenT, b_lenL, b_lenS, b_tupT, b_tupL, b_lstT, b_lstL, b_isiT, b_isiI, b_isiB, revT, revL, ixT0, ixT1, ixT2, ixL0, ixL1, isI, q_vlT, q_vlL, q_vlS, q_enT, q_enL, q_zpTT, q_zpTL, q_zpLT, q_zpLL, forD_some, List.set_cons_zero, List.set_cons_succ, List.map_cons, List.map_nil, List.length_cons, List.length_nil, List.cons_append, List.nil_append, List.replicate_succ, List.replicate_zero, Nat.reduceAdd, Nat.reduceSub, Nat.reduceEqDiff, if_true, Option.bind_some, wipeD, decide_true, decide_false, not_true_eq_false, not_false_eq_true, Bool.false_eq_true, if_false, Bool.not_true, Bool.not_false, ne_eq, sm, h0]
  simp only [g_nm, s_nm, List.set_cons_zero, List.set_cons_succ, mkL_f, b_assoc, seqF_nx, ss_cons, ss_nil, noX_ok, b_ok, b_tupL, tup_I]
  simp only [s4, b_ok, seqF_nx, ss_cons]
  have a1 := H.ex S3 B l t m mi hl ht hmi m1 m4
  have a2 := H.exL S3 B l t (2 ^ m) hl.rw ht (by omega) (by omega)
  have a3 : doCmp .ne (frD (exQ B l t)) (frD (exQ B l t)) S3 = .ok (.bl false) S3 := c_neS shal_fr
  have a4 : doCmp .eq (frD (exQ B l t)) (frD (exQ B l t)) S3 = .ok (.bl true) S3 := c_eqS shal_fr
  have m1n : mi + 1 = ((m + 1 : Nat) : Int) := by omega
  simp only [run_eq, ss_nil, ss_cons, s_nm, s_asg, s_par, par2, par3, s_aug, augD_add, augD_sub, s_augIx, augX_add, augX_sub, s_expr, s_ret, s_retN, s_pass, s_brk, s_cont, s_ite, s_for, s_while, seqF_nx, seqF_rt, seqF_bk, seqF_ct, fnD_rt, fnD_nx, g_nm, g_tp, g_ix, gs_nil, gs_cons, e_int, e_bl, e_non, e_str, e_var, getV_0, getV_s, e_gl, opt_some, e_bin, e_neg, negD_int, e_not, notD_bl, e_and, e_or, bE_app, bolD_bl, okM_app, e_cmp, e_chain, chE_app, e_ite, e_tup, e_lst, e_ix, e_rev, e_slA, e_slL, e_slH, e_slLH, sl1_L, sl1_H, sl2_LH, e_call, e_bi, e_mt, mtE_bits, mtE_app, mtE_ext, mtE_pop, e_pcall, sl2E_int, augE_ref, noX_ok, e_comp, es_nil, es_cons, ifD_bl, ifD_t, ifD_f, b_ok, b_assoc, fTurn_eq, turn_eq, inT_some, inC_some, soE_app, evT_nil, evT_one, t_nm, t_tp, ts_nil, ts_cons, mkL_f, mkL_t, o_add, o_sub, c_lt, c_le, c_gt, c_ge, c_eqI, c_neI, b_int, b_intB, b_abs, b_max2, b_min2, b_gcd, b_lenT, b_lenL, b_lenS, b_tupT, b_tupL, b_lstT, b_lstL, b_isiT, b_isiI, b_isiB, revT, revL, ixT0, ixT1, ixT2, ixL0, ixL1, isI, q_vlT, q_vlL, q_vlS, q_enT, q_enL, q_zpTT, q_zpTL, q_zpLT, q_zpLL, forD_some, List.set_cons_zero, List.set_cons_succ, List.map_cons, List.map_nil, List.length_cons, List.length_nil, List.cons_append, List.nil_append, List.replicate_succ, List.replicate_zero, Nat.reduceAdd, Nat.reduceSub, Nat.reduceEqDiff, if_true, Option.bind_some, wipeD, decide_true, decide_false, not_true_eq_false, not_false_eq_true, Bool.false_eq_true, if_false, Bool.not_true, Bool.not_false, ne_eq, a1, a2, a3, q_rg1' m1n (show m + 1 ≤ LIM by omega), compD_some (show (natsD (m + 1)).length ≤ LIM by rw [natsD_len]; omega)]
  have hA : (List.range (m + 1)).map (fun i => DrD (hyB B l m i) (hyL B l m i)) = hyA B l m (m + 1) := rfl
  rw [comp_nat (fun i => DrD (hyB B l m i) (hyL B l m i)) dep_nil fun i hi => by
    obtain ⟨ii, hii⟩ : ∃ ii : Int, ii = (i : Int) := ⟨_, rfl⟩
    rw [← hii]
    simp only [run_eq, ss_nil, ss_cons, s_nm, s_asg, s_par, par2, par3, s_aug, augD_add, augD_sub, s_augIx, augX_add, augX_sub, s_expr, s_ret, s_retN, s_pass, s_brk, s_cont, s_ite, s_for, s_while, seqF_nx, seqF_rt, seqF_bk, seqF_ct, fnD_rt, fnD_nx, g_nm, g_tp, g_ix, gs_nil, gs_cons, e_int, e_bl, e_non, e_str, e_var, getV_0, getV_s, e_gl, opt_some, e_bin, e_neg, negD_int, e_not, notD_bl, e_and, e_or, bE_app, bolD_bl, okM_app, e_cmp, e_chain, chE_app, e_ite, e_tup, e_lst, e_ix, e_rev, e_slA, e_slL, e_slH, e_slLH, sl1_L, sl1_H, sl2_LH, e_call, e_bi, e_mt, mtE_bits, mtE_app, mtE_ext, mtE_pop, e_pcall, sl2E_int, augE_ref, noX_ok, e_comp, es_nil, es_cons, ifD_bl, ifD_t, ifD_f, b_ok, b_assoc, fTurn_eq, turn_eq, inT_some, inC_some, soE_app, evT_nil, evT_one, t_nm, t_tp, ts_nil, ts_cons, mkL_f, mkL_t, o_add, o_sub, c_lt, c_le, c_gt, c_ge, c_eqI, c_neI, b_int, b_intB, b_abs, b_max2, b_min2, b_gcd, b_lenT, b_lenL, b_lenS, b_tupT, b_tupL, b_lstT, b_lstL, b_isiT, b_isiI, b_isiB, revT, revL, ixT0, ixT1, ixT2, ixL0, ixL1, isI, q_vlT, q_vlL, q_vlS, q_enT, q_enL, q_zpTT, q_zpTL, q_zpLT, q_zpLL, forD_some, List.set_cons_zero, List.set_cons_succ, List.map_cons, List.map_nil, List.length_cons, List.length_nil, List.cons_append, List.nil_append, List.replicate_succ, List.replicate_zero, Nat.reduceAdd, Nat.reduceSub, Nat.reduceEqDiff, if_true, Option.bind_some, wipeD, H.hyL S3 B l m i mi ii hl hmi m1 m4 hii (by omega)]]
  rw [hA]
  simp only [g_nm, s_nm, List.set_cons_zero, List.set_cons_succ, mkL_f, b_assoc, seqF_nx, ss_cons, ss_nil, noX_ok, b_ok]
  have hB : compL [] (turn (.nm 11) (evT C []) (evE C (.pcall 29 [(.var 1), (.var 2), (.var 11)])) [some (.ref n), some (.int mi), some (DrD B l), some (tI t), some (tI lc), some (.lst (hyA B l m (m + 1))), none, none, none, none, none, none, none]) (natsD (m + 1)) [] S3 = .ok (hyA B l m (m + 1)) S3 := by
    rw [comp_nat (fun i => DrD (hyB B l m i) (hyL B l m i)) dep_nil fun i hi => by
      obtain ⟨ii, hii⟩ : ∃ ii : Int, ii = (i : Int) := ⟨_, rfl⟩
      rw [← hii]
      simp only [run_eq, ss_nil, ss_cons, s_nm, s_asg, s_par, par2, par3, s_aug, augD_add, augD_sub, s_augIx, augX_add, augX_sub, s_expr, s_ret, s_retN, s_pass, s_brk, s_cont, s_ite, s_for, s_while, seqF_nx, seqF_rt, seqF_bk, seqF_ct, fnD_rt, fnD_nx, g_nm, g_tp, g_ix, gs_nil, gs_cons, e_int, e_bl, e_non, e_str, e_var, getV_0, getV_s, e_gl, opt_some, e_bin, e_neg, negD_int, e_not, notD_bl, e_and, e_or, bE_app, bolD_bl, okM_app, e_cmp, e_chain, chE_app, e_ite, e_tup, e_lst, e_ix, e_rev, e_slA, e_slL, e_slH, e_slLH, sl1_L, sl1_H, sl2_LH, e_call, e_bi, e_mt, mtE_bits, mtE_app, mtE_ext, mtE_pop, e_pcall, sl2E_int, augE_ref, noX_ok, e_comp, es_nil, es_cons, ifD_bl, ifD_t, ifD_f, b_ok, b_assoc, fTurn_eq, turn_eq, inT_some, inC_some, soE_app, evT_nil, evT_one, t_nm, t_tp, ts_nil, ts_cons, mkL_f, mkL_t, o_add, o_sub, c_lt, c_le, c_gt, c_ge, c_eqI, c_neI, b_int, b_intB, b_abs, b_max2, b_min2, b_gcd, b_lenT, b_lenL, b_lenS, b_tupT, b_tupL, b_lstT, b_lstL, b_isiT, b_isiI, b_isiB, revT, revL, ixT0, ixT1, ixT2, ixL0, ixL1, isI, q_vlT, q_vlL, q_vlS, q_enT, q_enL, q_zpTT, q_zpTL, q_zpLT, q_zpLL, forD_some, List.set_cons_zero, List.set_cons_succ, List.map_cons, List.map_nil, List.length_cons, List.length_nil, List.cons_append, List.nil_append, List.replicate_succ, List.replicate_zero, Nat.reduceAdd, Nat.reduceSub, Nat.reduceEqDiff, if_true, Option.bind_some, wipeD, H.hy S3 B l m i mi ii hl hmi m1 m4 hii (by omega)]]
    rfl
  have b1 : doCmp .ne (.lst (hyA B l m (m + 1))) (.lst (hyA B l m (m + 1))) S3 = .ok (.bl false) S3 := c_neS shal_hy
  have b2 : doIx (.lst (hyA B l m (m + 1))) (.int mi) S3 = .ok (DrD (hyB B l m m) (hyL B l m m)) S3 := ixL' hmi (by simp [hyA])
  have b3 : pureC (C.cl 39) [DrD B l] S3 = .ok (DrD (hyB B l m m) (hyL B l m m)) S3 := by
    have bb := hl.rw.bd
    have b8 : Big < 2 ^ 8000 := by decide +kernel
    have bq : B < 2 ^ 8000 := Int.lt_of_le_of_lt bb b8
    rw [top_ls hl]
    exact H.ls S3 B l hl.rw.pos bq (by rw [hl.rw.len]; omega)
  have b4 : doCmp .ne (DrD (hyB B l m m) (hyL B l m m)) (DrD (hyB B l m m) (hyL B l m m)) S3 = .ok (.bl false) S3 := c_neS shal_Dr
  simp only [run_eq, ss_nil, ss_cons, s_nm, s_asg, s_par, par2, par3, s_aug, augD_add, augD_sub, s_augIx, augX_add, augX_sub, s_expr, s_ret, s_retN, s_pass, s_brk, s_cont, s_ite, s_for, s_while, seqF_nx, seqF_rt, seqF_bk, seqF_ct, fnD_rt, fnD_nx, g_nm, g_tp, g_ix, gs_nil, gs_cons, e_int, e_bl, e_non, e_str, e_var, getV_0, getV_s, e_gl, opt_some, e_bin, e_neg, negD_int, e_not, notD_bl, e_and, e_or, bE_app, bolD_bl, okM_app, e_cmp, e_chain, chE_app, e_ite, e_tup, e_lst, e_ix, e_rev, e_slA, e_slL, e_slH, e_slLH, sl1_L, sl1_H, sl2_LH, e_call, e_bi, e_mt, mtE_bits, mtE_app, mtE_ext, mtE_pop, e_pcall, sl2E_int, augE_ref, noX_ok, e_comp, es_nil, es_cons, ifD_bl, ifD_t, ifD_f, b_ok, b_assoc, fTurn_eq, turn_eq, inT_some, inC_some, soE_app, evT_nil, evT_one, t_nm, t_tp, ts_nil, ts_cons, mkL_f, mkL_t, o_add, o_sub, c_lt, c_le, c_gt, c_ge, c_eqI, c_neI, b_int, b_intB, b_abs, b_max2, b_min2, b_gcd, b_lenT, b_lenL, b_lenS, b_tupT, b_tupL, b_lstT, b_lstL, b_isiT, b_isiI, b_isiB, revT, revL, ixT0, ixT1, ixT2, ixL0, ixL1, isI, q_vlT, q_vlL, q_vlS, q_enT, q_enL, q_zpTT, q_zpTL, q_zpLT, q_zpLL, forD_some, List.set_cons_zero, List.set_cons_succ, List.map_cons, List.map_nil, List.length_cons, List.length_nil, List.cons_append, List.nil_append, List.replicate_succ, List.replicate_zero, Nat.reduceAdd, Nat.reduceSub, Nat.reduceEqDiff, if_true, Option.bind_some, wipeD, decide_true, decide_false, not_true_eq_false, not_false_eq_true, Bool.false_eq_true, if_false, Bool.not_true, Bool.not_false, ne_eq, hB, q_rg1' m1n (show m + 1 ≤ LIM by omega), compD_some (show (natsD (m + 1)).length ≤ LIM by rw [natsD_len]; omega), b1, b2, b3, b4, compD_some (show (hyA B l m (m + 1)).length ≤ LIM by simp [hyA]; omega)]
  have c1 : hyA B l m (m + 1) = (List.range (m + 1)).map fun i => DrD (hyB B l m i) (hyL B l m i) := rfl
  have c2 : compL [] (turn (.nm 12) (evT C []) (evE C (.pcall 43 [(.var 12), (.var 3)])) [some (.ref n), some (.int mi), some (DrD B l), some (tI t), some (tI lc), some (.lst (hyA B l m (m + 1))), none, none, none, none, none, none, none]) (hyA B l m (m + 1)) [] S3 = .ok (chL (cq B l t m) (m + 1)) S3 := by
    conv => lhs; arg 3; rw [c1]
    rw [comp_map (h := fun i => DrD (hyB B l m i) (hyL B l m i)) (fun i => frD (cq B l t m i)) fun i hi => by
      simp only [run_eq, ss_nil, ss_cons, s_nm, s_asg, s_par, par2, par3, s_aug, augD_add, augD_sub, s_augIx, augX_add, augX_sub, s_expr, s_ret, s_retN, s_pass, s_brk, s_cont, s_ite, s_for, s_while, seqF_nx, seqF_rt, seqF_bk, seqF_ct, fnD_rt, fnD_nx, g_nm, g_tp, g_ix, gs_nil, gs_cons, e_int, e_bl, e_non, e_str, e_var, getV_0, getV_s, e_gl, opt_some, e_bin, e_neg, negD_int, e_not, notD_bl, e_and, e_or, bE_app, bolD_bl, okM_app, e_cmp, e_chain, chE_app, e_ite, e_tup, e_lst, e_ix, e_rev, e_slA, e_slL, e_slH, e_slLH, sl1_L, sl1_H, sl2_LH, e_call, e_bi, e_mt, mtE_bits, mtE_app, mtE_ext, mtE_pop, e_pcall, sl2E_int, augE_ref, noX_ok, e_comp, es_nil, es_cons, ifD_bl, ifD_t, ifD_f, b_ok, b_assoc, fTurn_eq, turn_eq, inT_some, inC_some, soE_app, evT_nil, evT_one, t_nm, t_tp, ts_nil, ts_cons, mkL_f, mkL_t, o_add, o_sub, c_lt, c_le, c_gt, c_ge, c_eqI, c_neI, b_int, b_intB, b_abs, b_max2, b_min2, b_gcd, b_lenT, b_lenL, b_lenS, b_tupT, b_tupL, b_lstT, b_lstL, b_isiT, b_isiI, b_isiB, revT, revL, ixT0, ixT1, ixT2, ixL0, ixL1, isI, q_vlT, q_vlL, q_vlS, q_enT, q_enL, q_zpTT, q_zpTL, q_zpLT, q_zpLL, forD_some, List.set_cons_zero, List.set_cons_succ, List.map_cons, List.map_nil, List.length_cons, List.length_nil, List.cons_append, List.nil_append, List.replicate_succ, List.replicate_zero, Nat.reduceAdd, Nat.reduceSub, Nat.reduceEqDiff, if_true, Option.bind_some, wipeD, H.exL S3 (hyB B l m i) (hyL B l m i) t (2 ^ m) (hy_rw hl m4) ht (by omega) (by omega)]
      rfl]
    rfl
  rw [c2]
  simp only [g_nm, s_nm, List.set_cons_zero, List.set_cons_succ, mkL_f, b_assoc, seqF_nx, ss_cons, ss_nil, noX_ok, b_ok]
  have g1 : ∀ (i : Nat) (ii : Int), ii = (i : Int) → i < m + 1 → doIx (.lst (chL (cq B l t m) (m + 1))) (.int ii) S3 = .ok (frD (cq B l t m i)) S3 := fun i ii h1 h2 => ixL' h1 (chL_get h2)
  simp only [run_eq, ss_nil, ss_cons, s_nm, s_asg, s_par, par2, par3, s_aug, augD_add, augD_sub, s_augIx, augX_add, augX_sub, s_expr, s_ret, s_retN, s_pass, s_brk, s_cont, s_ite, s_for, s_while, seqF_nx, seqF_rt, seqF_bk, seqF_ct, fnD_rt, fnD_nx, g_nm, g_tp, g_ix, gs_nil, gs_cons, e_int, e_bl, e_non, e_str, e_var, getV_0, getV_s, e_gl, opt_some, e_bin, e_neg, negD_int, e_not, notD_bl, e_and, e_or, bE_app, bolD_bl, okM_app, e_cmp, e_chain, chE_app, e_ite, e_tup, e_lst, e_ix, e_rev, e_slA, e_slL, e_slH, e_slLH, sl1_L, sl1_H, sl2_LH, e_call, e_bi, e_mt, mtE_bits, mtE_app, mtE_ext, mtE_pop, e_pcall, sl2E_int, augE_ref, noX_ok, e_comp, es_nil, es_cons, ifD_bl, ifD_t, ifD_f, b_ok, b_assoc, fTurn_eq, turn_eq, inT_some, inC_some, soE_app, evT_nil, evT_one, t_nm, t_tp, ts_nil, ts_cons, mkL_f, mkL_t, o_add, o_sub, c_lt, c_le, c_gt, c_ge, c_eqI, c_neI, b_int, b_intB, b_abs, b_max2, b_min2, b_gcd, b_lenT, b_lenL, b_lenS, b_tupT, b_tupL, b_lstT, b_lstL, b_isiT, b_isiI, b_isiB, revT, revL, ixT0, ixT1, ixT2, ixL0, ixL1, isI, q_vlT, q_vlL, q_vlS, q_enT, q_enL, q_zpTT, q_zpTL, q_zpLT, q_zpLL, forD_some, List.set_cons_zero, List.set_cons_succ, List.map_cons, List.map_nil, List.length_cons, List.length_nil, List.cons_append, List.nil_append, List.replicate_succ, List.replicate_zero, Nat.reduceAdd, Nat.reduceSub, Nat.reduceEqDiff, if_true, Option.bind_some, wipeD, decide_true, decide_false, not_true_eq_false, not_false_eq_true, Bool.false_eq_true, if_false, Bool.not_true, Bool.not_false, ne_eq, q_rg1' hmi (show m ≤ LIM by omega), compD_some (show (natsD m).length ≤ LIM by rw [natsD_len]; omega)]
  rw [comp_nat (fun k => frD (cq B l t m (k + 1) - cq B l t m k)) dep_nil fun k hk => by
    obtain ⟨ki, hki⟩ : ∃ ki : Int, ki = (k : Int) := ⟨_, rfl⟩
    rw [← hki]
    simp only [run_eq, ss_nil, ss_cons, s_nm, s_asg, s_par, par2, par3, s_aug, augD_add, augD_sub, s_augIx, augX_add, augX_sub, s_expr, s_ret, s_retN, s_pass, s_brk, s_cont, s_ite, s_for, s_while, seqF_nx, seqF_rt, seqF_bk, seqF_ct, fnD_rt, fnD_nx, g_nm, g_tp, g_ix, gs_nil, gs_cons, e_int, e_bl, e_non, e_str, e_var, getV_0, getV_s, e_gl, opt_some, e_bin, e_neg, negD_int, e_not, notD_bl, e_and, e_or, bE_app, bolD_bl, okM_app, e_cmp, e_chain, chE_app, e_ite, e_tup, e_lst, e_ix, e_rev, e_slA, e_slL, e_slH, e_slLH, sl1_L, sl1_H, sl2_LH, e_call, e_bi, e_mt, mtE_bits, mtE_app, mtE_ext, mtE_pop, e_pcall, sl2E_int, augE_ref, noX_ok, e_comp, es_nil, es_cons, ifD_bl, ifD_t, ifD_f, b_ok, b_assoc, fTurn_eq, turn_eq, inT_some, inC_some, soE_app, evT_nil, evT_one, t_nm, t_tp, ts_nil, ts_cons, mkL_f, mkL_t, o_add, o_sub, c_lt, c_le, c_gt, c_ge, c_eqI, c_neI, b_int, b_intB, b_abs, b_max2, b_min2, b_gcd, b_lenT, b_lenL, b_lenS, b_tupT, b_tupL, b_lstT, b_lstL, b_isiT, b_isiI, b_isiB, revT, revL, ixT0, ixT1, ixT2, ixL0, ixL1, isI, q_vlT, q_vlL, q_vlS, q_enT, q_enL, q_zpTT, q_zpTL, q_zpLT, q_zpLL, forD_some, List.set_cons_zero, List.set_cons_succ, List.map_cons, List.map_nil, List.length_cons, List.length_nil, List.cons_append, List.nil_append, List.replicate_succ, List.replicate_zero, Nat.reduceAdd, Nat.reduceSub, Nat.reduceEqDiff, if_true, Option.bind_some, wipeD, g1 (k + 1) (ki + 1) (by omega) (by omega), g1 k ki hki (by omega), H.le S3 _ _ (smq (k + 1)).up (smq k).up]]
  have t1 : D.tup ((List.range m).map fun k => frD (cq B l t m (k + 1) - cq B l t m k)) = stT (cq B l t m) m := rfl
  have t2 : srcOf .vl [stT (cq B l t m) m] S3 = some ((List.range m).map fun k => frD (cq B l t m (k + 1) - cq B l t m k), []) := rfl
  have z0 : D.tup [.int 0, .int 1] = frD (cq B l t m 0) := by rw [cq_bot hl m4 ht]; rfl
  simp only [run_eq, ss_nil, ss_cons, s_nm, s_asg, s_par, par2, par3, s_aug, augD_add, augD_sub, s_augIx, augX_add, augX_sub, s_expr, s_ret, s_retN, s_pass, s_brk, s_cont, s_ite, s_for, s_while, seqF_nx, seqF_rt, seqF_bk, seqF_ct, fnD_rt, fnD_nx, g_nm, g_tp, g_ix, gs_nil, gs_cons, e_int, e_bl, e_non, e_str, e_var, getV_0, getV_s, e_gl, opt_some, e_bin, e_neg, negD_int, e_not, notD_bl, e_and, e_or, bE_app, bolD_bl, okM_app, e_cmp, e_chain, chE_app, e_ite, e_tup, e_lst, e_ix, e_rev, e_slA, e_slL, e_slH, e_slLH, sl1_L, sl1_H, sl2_LH, e_call, e_bi, e_mt, mtE_bits, mtE_app, mtE_ext, mtE_pop, e_pcall, sl2E_int, augE_ref, noX_ok, e_comp, es_nil, es_cons, ifD_bl, ifD_t, ifD_f, b_ok, b_assoc, fTurn_eq, turn_eq, inT_some, inC_some, soE_app, evT_nil, evT_one, t_nm, t_tp, ts_nil, ts_cons, mkL_f, mkL_t, o_add, o_sub, c_lt, c_le, c_gt, c_ge, c_eqI, c_neI, b_int, b_intB, b_abs, b_max2, b_min2, b_gcd, b_lenT, b_lenL, b_lenS, b_tupT, b_tupL, b_lstT, b_lstL, b_isiT, b_isiI, b_isiB, revT, revL, ixT0, ixT1, ixT2, ixL0, ixL1, isI, q_vlT, q_vlL, q_vlS, q_enT, q_enL, q_zpTT, q_zpTL, q_zpLT, q_zpLL, forD_some, List.set_cons_zero, List.set_cons_succ, List.map_cons, List.map_nil, List.length_cons, List.length_nil, List.cons_append, List.nil_append, List.replicate_succ, List.replicate_zero, Nat.reduceAdd, Nat.reduceSub, Nat.reduceEqDiff, if_true, Option.bind_some, wipeD, t1, z0, t2]
  refine WP_call (for_inv (P := fun f S' => ∃ e9, f = Fl.nx [some (.ref n), some (.int mi), some (DrD B l), some (tI t), some (tI lc), some (.lst (hyA B l m (m + 1))), some (.lst (chL (cq B l t m) (m + 1))), some (stT (cq B l t m) m), some (frD (cq B l t m m)), e9, none, none, none] ∧ S' = S3)
    (fun i env S' => ∃ e9, env = [some (.ref n), some (.int mi), some (DrD B l), some (tI t), some (tI lc), some (.lst (hyA B l m (m + 1))), some (.lst (chL (cq B l t m) (m + 1))), some (stT (cq B l t m) m), some (frD (cq B l t m i)), e9, none, none, none] ∧ S' = S3) 0 ⟨none, rfl, rfl⟩ ?_ ?_) ?_
  · rintro i env S' x ⟨e9, rfl, rfl⟩ hi _ hx
    rw [Nat.sub_zero, List.getElem?_map] at hx
    rw [Nat.zero_add, List.length_map, List.length_range] at hi
    rw [List.getElem?_range hi] at hx
    cases hx
    refine ⟨dep_nil, ?_⟩
    have e : cq B l t m i + (cq B l t m (i + 1) - cq B l t m i) = cq B l t m (i + 1) := by grind
    simp only [run_eq, ss_nil, ss_cons, s_nm, s_asg, s_par, par2, par3, s_aug, augD_add, augD_sub, s_augIx, augX_add, augX_sub, s_expr, s_ret, s_retN, s_pass, s_brk, s_cont, s_ite, s_for, s_while, seqF_nx, seqF_rt, seqF_bk, seqF_ct, fnD_rt, fnD_nx, g_nm, g_tp, g_ix, gs_nil, gs_cons, e_int, e_bl, e_non, e_str, e_var, getV_0, getV_s, e_gl, opt_some, e_bin, e_neg, negD_int, e_not, notD_bl, e_and, e_or, bE_app, bolD_bl, okM_app, e_cmp, e_chain, chE_app, e_ite, e_tup, e_lst, e_ix, e_rev, e_slA, e_slL, e_slH, e_slLH, sl1_L, sl1_H, sl2_LH, e_call, e_bi, e_mt, mtE_bits, mtE_app, mtE_ext, mtE_pop, e_pcall, sl2E_int, augE_ref, noX_ok, e_comp, es_nil, es_cons, ifD_bl, ifD_t, ifD_f, b_ok, b_assoc, fTurn_eq, turn_eq, inT_some, inC_some, soE_app, evT_nil, evT_one, t_nm, t_tp, ts_nil, ts_cons, mkL_f, mkL_t, o_add, o_sub, c_lt, c_le, c_gt, c_ge, c_eqI, c_neI, b_int, b_intB, b_abs, b_max2, b_min2, b_gcd, b_lenT, b_lenL, b_lenS, b_tupT, b_tupL, b_lstT, b_lstL, b_isiT, b_isiI, b_isiB, revT, revL, ixT0, ixT1, ixT2, ixL0, ixL1, isI, q_vlT, q_vlL, q_vlS, q_enT, q_enL, q_zpTT, q_zpTL, q_zpLT, q_zpLL, forD_some, List.set_cons_zero, List.set_cons_succ, List.map_cons, List.map_nil, List.length_cons, List.length_nil, List.cons_append, List.nil_append, List.replicate_succ, List.replicate_zero, Nat.reduceAdd, Nat.reduceSub, Nat.reduceEqDiff, if_true, Option.bind_some, wipeD, H.pl S' _ _ (smq i).up (sm_less (smq (i + 1)) (smq i)), e, WP_ok]
    exact ⟨_, by first | rfl | trivial, by first | rfl | trivial⟩
  · rintro env S' ⟨e9, rfl, rfl⟩
    rw [Nat.zero_add, List.length_map, List.length_range]
    exact ⟨dep_nil, _, by first | rfl | trivial, by first | rfl | trivial⟩
  · rintro f S' ⟨e9, rfl, rfl⟩
    have r1 := H.st S' B l t m mi hl ht hmi m1 m4
    have r2 : doCmp .eq (stT (cq B l t m) m) (stT (cq B l t m) m) S' = .ok (.bl true) S' := c_eqS shal_st
    rw [cq_top hl m4 ht]
    simp only [run_eq, ss_nil, ss_cons, s_nm, s_asg, s_par, par2, par3, s_aug, augD_add, augD_sub, s_augIx, augX_add, augX_sub, s_expr, s_ret, s_retN, s_pass, s_brk, s_cont, s_ite, s_for, s_while, seqF_nx, seqF_rt, seqF_bk, seqF_ct, fnD_rt, fnD_nx, g_nm, g_tp, g_ix, gs_nil, gs_cons, e_int, e_bl, e_non, e_str, e_var, getV_0, getV_s, e_gl, opt_some, e_bin, e_neg, negD_int, e_not, notD_bl, e_and, e_or, bE_app, bolD_bl, okM_app, e_cmp, e_chain, chE_app, e_ite, e_tup, e_lst, e_ix, e_rev, e_slA, e_slL, e_slH, e_slLH, sl1_L, sl1_H, sl2_LH, e_call, e_bi, e_mt, mtE_bits, mtE_app, mtE_ext, mtE_pop, e_pcall, sl2E_int, augE_ref, noX_ok, e_comp, es_nil, es_cons, ifD_bl, ifD_t, ifD_f, b_ok, b_assoc, fTurn_eq, turn_eq, inT_some, inC_some, soE_app, evT_nil, evT_one, t_nm, t_tp, ts_nil, ts_cons, mkL_f, mkL_t, o_add, o_sub, c_lt, c_le, c_gt, c_ge, c_eqI, c_neI, b_int, b_intB, b_abs, b_max2, b_min2, b_gcd, b_lenT, b_lenL, b_lenS, b_tupT, b_tupL, b_lstT, b_lstL, b_isiT, b_isiI, b_isiB, revT, revL, ixT0, ixT1, ixT2, ixL0, ixL1, isI, q_vlT, q_vlL, q_vlS, q_enT, q_enL, q_zpTT, q_zpTL, q_zpLT, q_zpLL, forD_some, List.set_cons_zero, List.set_cons_succ, List.map_cons, List.map_nil, List.length_cons, List.length_nil, List.cons_append, List.nil_append, List.replicate_succ, List.replicate_zero, Nat.reduceAdd, Nat.reduceSub, Nat.reduceEqDiff, if_true, Option.bind_some, wipeD, decide_true, decide_false, not_true_eq_false, not_false_eq_true, Bool.false_eq_true, if_false, Bool.not_true, Bool.not_false, ne_eq, r1, r2, a2, a4, WP_ok]
    exact ⟨by first | rfl | trivial, d3⟩
end LW
namespace LW
open PySem L2 Ev
theorem tail_ok : pureV (bnd (evSs ⟨pr.gv, callF pr 20, (callT pr 20).2.2, pr.fuel⟩ law_tail (nones 7)) flR []) = .ok (.bl true) [] := by
  refine pureV_true ?_
  show isT (pureV (bnd (evSs ⟨pr.gv, (callT pr 20).1, (callT pr 20).2.2, pr.fuel⟩ law_tail (nones 7)) flR [])) = true
  rw [show callT pr 20 = callTC cpr 20 from (callTC_eq crels 20).symm]
  decide +kernel
end LW
namespace LW
open PySem L2 Ev

theorem cf (k g : Nat) (fd : FDef) (h : fns[g]? = some (some fd)) (as : List D) : callF pr (k + 1) g as = runF ⟨pr.gv, callF pr k, (callT pr k).2.2, pr.fuel⟩ fd as := by
  show (match nth fns g with | some (some f) => runF _ f as | _ => stk) = _
  rw [nth_eq, h]; rfl
theorem nrs_cons (x : D) (xs : List D) : noRefs (x :: xs) = (noRef x && noRefs xs) := rfl
theorem nrs_nil : noRefs [] = true := rfl
theorem nr_int (i : Int) : noRef (.int i) = true := rfl
theorem nr_ls (B : Int) (l : List Int) : noRef (lsD B l) = true := noRef_Dr _ _
theorem nr_tup (xs : List D) : noRef (.tup xs) = noRefs xs := rfl
theorem nrs_of : ∀ {xs : List D}, (∀ x, x ∈ xs → noRef x = true) → noRefs xs = true
  | [], _ => rfl
  | x :: xs, h => by rw [nrs_cons, h x List.mem_cons_self, nrs_of fun y hy => h y (List.mem_cons_of_mem _ hy)]; rfl
theorem nr_st (q : Nat → Rat) (m : Nat) : noRef (stT q m) = true := nrs_of fun x hx => by
  obtain ⟨k, _, rfl⟩ := List.mem_map.mp hx
  exact noRef_fr _
theorem k2 (k : Nat) : WOk (callF pr (k + 1)) := fun S i => by rw [cf k 2 fd_is_whole rfl]; exact whole_spec
theorem k3 (k : Nat) : IgOk (callF pr (k + 2)) := fun S i a b => by rw [cf (k + 1) 3 fd_is_integer rfl]; exact integer_spec rfl (k2 k) a b
theorem k4 (k : Nat) : WiOk (callF pr (k + 2)) := fun S x lo hi a b => by rw [cf (k + 1) 4 fd_is_within rfl]; exact within_spec (k2 k) a b
theorem k5 (k : Nat) : BiOk (callF pr (k + 3)) := fun S x a => by rw [cf (k + 2) 5 fd_is_bit rfl]; exact bit_spec (k4 k) a
theorem k6 (k : Nat) : ABOk (callF pr (k + 4)) := fun S t M ni a b c => by rw [cf (k + 3) 6 fd_are_bits rfl]; exact areb_spec (k5 k) a b c
theorem k9 (k : Nat) : FrOk (callF pr (k + 1) 9) := fun S t b h1 h2 => by rw [cf k 9 fd_fraction_in rfl]; exact fracin_spec h1 h2
theorem k10 (k : Nat) : LeOk (callF pr (k + 2) 10) := fun S p q h1 h2 => by rw [cf (k + 1) 10 fd_less_in rfl]; exact lessin_spec (k9 k) h1 h2
theorem k11 (k : Nat) : RqWOk (callF pr (k + 3)) := fun S x lo hi a b => by rw [cf (k + 2) 11 fd_require_within rfl]; exact reqw_spec (k4 k) a b
theorem k12 (k : Nat) : LsOk (callF pr (k + 1) 12) := fun S B l a b c => by rw [cf k 12 fd_least_in rfl]; exact least_spec a b c
theorem k13 (k : Nat) : RowOk (callF pr (k + 2)) := fun S B l M mi a b c => by rw [cf (k + 1) 13 fd_is_row_in rfl]; exact row_spec rfl (k2 k) a b c
theorem k14 (k : Nat) : PartOk (callF pr (k + 3)) := fun S B l M mi a b c => by rw [cf (k + 2) 14 fd_is_part_in rfl]; exact part_spec (k13 k) a b c
theorem k15 (k : Nat) : MixOk (callF pr (k + 4)) := fun S B l M mi a b c => by rw [cf (k + 3) 15 fd_is_mix_in rfl]; exact mix_spec (k14 k) a b c
theorem k16 (k : Nat) : RqDOk (callF pr (k + 5)) := fun S B l M mi a b c => by rw [cf (k + 4) 16 fd_require_draw rfl]; exact reqd_spec (k15 k) a b c
theorem k18 (k : Nat) : ExOk (callF pr (k + 2) 18) := fun S B l t M a b c d => by rw [cf (k + 1) 18 fd_excess_in rfl]; exact excess_spec (k9 k) a b c d
theorem k19 (k : Nat) : BgOk (callF pr (k + 1)) := fun S B l M i ii a b c d => by rw [cf k 19 fd_begins_in rfl]; exact begins_spec a b c d
theorem k20 (k : Nat) : HyOk (callF pr (k + 2)) := fun S B l m i ii a b c d => by rw [cf (k + 1) 20 fd_hybrid_in rfl, ← hy_eq]; exact hybrid_spec (k19 k) (k12 k) a b c d
theorem k21 (k : Nat) (S : Store) (B : Int) (l t : List Int) (m : Nat) (mi : Int) (a : Dr B l (2 ^ m)) (b : Bt t (2 ^ m)) (c : mi = (m : Int)) (d : m ≤ 4) : WP (callF pr (k + 3) 21 [.int mi, DrD B l, tI t] S) fun d _ => d = stT (cq B l t m) m := by
  rw [cf (k + 2) 21 fd_steps_in rfl]; exact stepsin_spec (k18 k) (k20 k) (k10 k) a b c d
theorem k22 (k : Nat) : RqWsOk (callF pr (k + 6)) := fun S B l m mi a b c d => by rw [cf (k + 5) 22 fd_require_words rfl]; exact reqws_spec rfl (k16 k) (k11 (k + 2)) a b c d
theorem k23 (k : Nat) : RqBOk (callF pr (k + 5)) := fun S t M ni a b c => by rw [cf (k + 4) 23 fd_require_bits rfl]; exact reqb_spec (k6 k) a b c
theorem k32 (k : Nat) : UpOk (callF pr (k + 1)) := fun S n N t a b c d => by rw [cf k 32 fd_law_wb_up rfl]; exact up_spec a b c d
theorem k34 (k : Nat) : OfOk (callF pr (k + 2)) := fun S n N xs a b c d => by rw [cf (k + 1) 34 fd_law_wb_of rfl]; exact of_spec (k32 k) a b c d
theorem k33 (k : Nat) : TwOk (pureC (callF pr (k + 1) 33)) := fun S t ti a b => pure_ok (S' := []) rfl rfl (by rw [cf k 33 fd_law_wb_two rfl]; exact two_spec a b)
theorem k35 (k : Nat) : ShOk (pureC (callF pr (k + 1) 35)) := fun S x y => pure_ok (S' := []) rfl rfl (by rw [cf k 35 fd_law_wb_shared rfl]; exact shared_spec)
theorem k36 (k : Nat) : FrOk (pureC (callF pr (k + 2) 36)) := fun S t b h1 h2 => pure_ok (S' := []) rfl rfl (by rw [cf (k + 1) 36 fd_law_wb_frac rfl]; exact frac_spec (k35 k) h1 h2)
theorem k37 (k : Nat) : PlOk (pureC (callF pr (k + 3) 37)) := fun S p q h1 h2 => pure_ok (S' := []) rfl rfl (by rw [cf (k + 2) 37 fd_law_wb_plus rfl]; exact plus_spec (k36 k) h1 h2)
theorem k38 (k : Nat) : LeOk (pureC (callF pr (k + 3) 38)) := fun S p q h1 h2 => pure_ok (S' := []) rfl rfl (by rw [cf (k + 2) 38 fd_law_wb_less rfl]; exact less_spec (k36 k) h1 h2)
theorem nr1 (B : Int) (l : List Int) : noRefs [DrD B l] = true := by rw [nrs_cons, noRef_Dr, nrs_nil]; rfl
theorem k39 (k : Nat) : LsOk (pureC (callF pr (k + 2) 39)) := fun S B l a b c => pure_ok (S' := []) (nr1 B l) (nr_ls B l) (by rw [cf (k + 1) 39 fd_law_wb_least rfl]; exact leastL_spec (k35 k) a b c)
theorem k40 (k : Nat) : WdOk (pureC (callF pr (k + 1) 40)) := fun S m x mi xi a b c => pure_wp rfl (noRef_tI _) (by rw [cf k 40 fd_law_wb_word rfl]; exact word_spec a b c)
theorem k43 (k : Nat) : ExOk (pureC (callF pr (k + 3) 43)) := fun S B l t M a b c d => pure_ok (S' := []) (by simp only [nrs_cons, noRef_Dr, noRef_tI, nrs_nil, Bool.and_self]) (noRef_fr _) (by rw [cf (k + 2) 43 fd_law_wb_excess rfl]; exact excessL_spec (k36 k) a b c d)
theorem k44 (k : Nat) : BeOk (pureC (callF pr (k + 2) 44)) := fun S B l m i x mi a b c d => pure_ok (S' := []) (by simp only [nrs_cons, noRef_Dr, noRef_tI, nr_int, nrs_nil, Bool.and_self]) rfl (by rw [cf (k + 1) 44 fd_law_wb_begin rfl]; exact begin_spec (k40 k) a b c d)
theorem k45 (k : Nat) (S : Store) (B : Int) (l : List Int) (m i : Nat) (mi ii : Int) (a : Dr B l (2 ^ m)) (b : mi = (m : Int)) (c : 1 ≤ m) (d : m ≤ 4) (e : ii = (i : Int)) (f : i ≤ m) : pureC (callF pr (k + 3) 45) [DrD B l, .int mi, .int ii] S = .ok (DrD (hyB B l m i) (hyL B l m i)) S :=
  pure_wp (by simp only [nrs_cons, noRef_Dr, nr_int, nrs_nil, Bool.and_self]) (noRef_Dr _ _) (by rw [cf (k + 2) 45 fd_law_wb_hybrid rfl, ← hy_eq]; exact hybridL_spec (k40 (k + 1)) (k44 k) (k33 (k + 1)) (k39 k) a.rw d b e f)
theorem kR (k : Nat) : RH ⟨pr.gv, callF pr (k + 7), (callT pr (k + 7)).2.2, pr.fuel⟩ where
  ho := k34 (k + 5)
  hd := fun S n N M Mi a b c d e => by
    dsimp only
    rw [cf (k + 6) 42 fd_law_wb_draw rfl]; exact draw_spec (k32 (k + 5)) (k34 (k + 4)) a b c d e
  hb := fun S n N M Mi a b c d e => by
    dsimp only
    rw [cf (k + 6) 41 fd_law_wb_bits rfl]; exact bits_spec (k32 (k + 5)) a b c d e
  tw := k33 (k + 6)
  dw := fun S l m mi a b c d e f g => pure_ok (S' := []) (by simp only [nrs_cons, noRef_tI, nr_int, nrs_nil, Bool.and_self]) (nr_ls _ _) (by
    dsimp only
    rw [cf (k + 6) 26 fd_draw_of rfl]; exact drawof_spec rfl (k3 (k + 4)) (k11 (k + 3)) (k12 (k + 5)) a b c d e f g)
  ls := k39 (k + 5)
  ex := fun S B l t m mi a b c d e => pure_ok (S' := []) (by simp only [nrs_cons, noRef_Dr, noRef_tI, nr_int, nrs_nil, Bool.and_self]) (noRef_fr _) (by
    dsimp only
    rw [cf (k + 6) 28 fd_excess rfl]; exact exc28_spec (k22 k) (k23 (k + 1)) (k18 (k + 4)) a b c d e)
  exL := k43 (k + 4)
  hy := fun S B l m i mi ii a b c d e f => pure_wp (by simp only [nrs_cons, noRef_Dr, nr_int, nrs_nil, Bool.and_self]) (noRef_Dr _ _) (by
    dsimp only
    rw [cf (k + 6) 29 fd_hybrid rfl, hyb29_spec (k22 k) (k11 (k + 3)) (k20 (k + 4)) a b c d e f]
    exact rfl)
  hyL := fun S B l m i mi ii a b c d e f => k45 (k + 4) S B l m i mi ii a b c d e f
  le := k38 (k + 4)
  pl := k37 (k + 4)
  st := fun S B l t m mi a b c d e => pure_wp (by simp only [nrs_cons, noRef_Dr, noRef_tI, nr_int, nrs_nil, Bool.and_self]) (nr_st _ _) (by
    dsimp only
    rw [cf (k + 6) 30 fd_steps rfl]; exact steps30_spec (k22 k) (k23 (k + 1)) (fun S => k21 (k + 3) S B l t m mi a b c e) a b c d e)
theorem law_spec {C : Ev.Ctx} {S : Store} {ns : List Int}
    (hh : ∀ (S : Store) (ns : List Int) (spot : Nat) (si : Int), si = (spot : Int) → spot < 3 → WP (C.cl 31 [.scr (ns.map .int), .int si] S) fun d S' => d = .ref S.length ∧ Di S.length 0 S')
    (hr : ∀ (S : Store) (n N : Nat), Di n N S → N < 2 ^ 90 → ∃ S', C.cl 48 [.ref n] S = .ok (.bl true) S' ∧ Di n (N + 100) S')
    (htl : pureV (bnd (evSs C law_tail (nones 7)) flR []) = .ok (.bl true) []) :
    WP (runF C fd_law [.scr (ns.map .int)] S) fun d _ => d = .bl true := by
  obtain ⟨n, ni, hn, hn3, hmax⟩ : ∃ (n : Nat) (ni : Int), ni = (n : Int) ∧ n ≤ 3 ∧ (if (if (ns.length : Int) < 3 then (ns.length : Int) else 3) > 1 then (if (ns.length : Int) < 3 then (ns.length : Int) else 3) else 1) = ni := by
    refine ⟨max 1 (min 3 ns.length), ((max 1 (min 3 ns.length) : Nat) : Int), rfl, by omega, ?_⟩
    split <;> split <;> omega
  have lim : ∀ m : Nat, m ≤ 100000 → m ≤ LIM := fun m h => Nat.le_trans h (by decide)
  simp only [run_eq, ss_nil, ss_cons, s_nm, s_asg, s_par, par2, par3, s_aug, augD_add, augD_sub, s_augIx, augX_add, augX_sub, s_expr, s_ret, s_retN, s_pass, s_brk, s_cont, s_ite, s_for, s_while, seqF_nx, seqF_rt, seqF_bk, seqF_ct, fnD_rt, fnD_nx, g_nm, g_tp, g_ix, gs_nil, gs_cons, e_int, e_bl, e_non, e_str, e_var, getV_0, getV_s, e_gl, opt_some, e_bin, e_neg, negD_int, e_not, notD_bl, e_and, e_or, bE_app, bolD_bl, okM_app, e_cmp, e_chain, chE_app, e_ite, e_tup, e_lst, e_ix, e_rev, e_slA, e_slL, e_slH, e_slLH, sl1_L, sl1_H, sl2_LH, e_call, e_bi, e_mt, mtE_bits, mtE_app, mtE_ext, mtE_pop, e_pcall, sl2E_int, augE_ref, noX_ok, e_comp, es_nil, es_cons, ifD_bl, ifD_t, ifD_f, b_ok, b_assoc, fTurn_eq, turn_eq, inT_some, inC_some, soE_app, evT_nil, evT_one, t_nm, t_tp, ts_nil, ts_cons, mkL_f, mkL_t, o_add, o_sub, c_lt, c_le, c_gt, c_ge, c_eqI, c_neI, b_int, b_intB, b_abs, b_max2, b_min2, b_gcd, b_lenT, b_lenL, b_lenS, b_tupT, b_tupL, b_lstT, b_lstL, b_isiT, b_isiI, b_isiB, revT, revL, ixT0, ixT1, ixT2, ixL0, ixL1, isI, q_vlT, q_vlL, q_vlS, q_enT, q_enL, q_zpTT, q_zpTL, q_zpLT, q_zpLL, forD_some, List.set_cons_zero, List.set_cons_succ, List.map_cons, List.map_nil, List.length_cons, List.length_nil, List.cons_append, List.nil_append, List.replicate_succ, List.replicate_zero, Nat.reduceAdd, Nat.reduceSub, Nat.reduceEqDiff, if_true, Option.bind_some, wipeD, fd_law, List.length_map]
  rw [hmax, q_rg1' hn (lim n (by omega))]
  simp only [run_eq, ss_nil, ss_cons, s_nm, s_asg, s_par, par2, par3, s_aug, augD_add, augD_sub, s_augIx, augX_add, augX_sub, s_expr, s_ret, s_retN, s_pass, s_brk, s_cont, s_ite, s_for, s_while, seqF_nx, seqF_rt, seqF_bk, seqF_ct, fnD_rt, fnD_nx, g_nm, g_tp, g_ix, gs_nil, gs_cons, e_int, e_bl, e_non, e_str, e_var, getV_0, getV_s, e_gl, opt_some, e_bin, e_neg, negD_int, e_not, notD_bl, e_and, e_or, bE_app, bolD_bl, okM_app, e_cmp, e_chain, chE_app, e_ite, e_tup, e_lst, e_ix, e_rev, e_slA, e_slL, e_slH, e_slLH, sl1_L, sl1_H, sl2_LH, e_call, e_bi, e_mt, mtE_bits, mtE_app, mtE_ext, mtE_pop, e_pcall, sl2E_int, augE_ref, noX_ok, e_comp, es_nil, es_cons, ifD_bl, ifD_t, ifD_f, b_ok, b_assoc, fTurn_eq, turn_eq, inT_some, inC_some, soE_app, evT_nil, evT_one, t_nm, t_tp, ts_nil, ts_cons, mkL_f, mkL_t, o_add, o_sub, c_lt, c_le, c_gt, c_ge, c_eqI, c_neI, b_int, b_intB, b_abs, b_max2, b_min2, b_gcd, b_lenT, b_lenL, b_lenS, b_tupT, b_tupL, b_lstT, b_lstL, b_isiT, b_isiI, b_isiB, revT, revL, ixT0, ixT1, ixT2, ixL0, ixL1, isI, q_vlT, q_vlL, q_vlS, q_enT, q_enL, q_zpTT, q_zpTL, q_zpLT, q_zpLL, forD_some, List.set_cons_zero, List.set_cons_succ, List.map_cons, List.map_nil, List.length_cons, List.length_nil, List.cons_append, List.nil_append, List.replicate_succ, List.replicate_zero, Nat.reduceAdd, Nat.reduceSub, Nat.reduceEqDiff, if_true, Option.bind_some, wipeD]
  refine WP_call (for_inv (P := fun f S' => ∃ e1 e2 e3 e4 e5 e6, f = Fl.nx [some (.scr (ns.map .int)), e1, e2, e3, e4, e5, e6]) (fun i env S' => ∃ e1 e2 e3 e4 e5 e6, env = [some (.scr (ns.map .int)), e1, e2, e3, e4, e5, e6]) 0 ⟨_, _, _, _, _, _, rfl⟩ ?_ ?_) ?_
  · rintro i env S1 x ⟨e1, e2, e3, e4, e5, e6, rfl⟩ hi _ hx
    obtain ⟨rfl, hi2⟩ := natsD_get hx
    refine ⟨dep_nil, ?_⟩
    obtain ⟨si, hsi⟩ : ∃ si : Int, si = (i : Int) := ⟨_, rfl⟩
    rw [Nat.sub_zero, ← hsi]
    simp only [run_eq, ss_nil, ss_cons, s_nm, s_asg, s_par, par2, par3, s_aug, augD_add, augD_sub, s_augIx, augX_add, augX_sub, s_expr, s_ret, s_retN, s_pass, s_brk, s_cont, s_ite, s_for, s_while, seqF_nx, seqF_rt, seqF_bk, seqF_ct, fnD_rt, fnD_nx, g_nm, g_tp, g_ix, gs_nil, gs_cons, e_int, e_bl, e_non, e_str, e_var, getV_0, getV_s, e_gl, opt_some, e_bin, e_neg, negD_int, e_not, notD_bl, e_and, e_or, bE_app, bolD_bl, okM_app, e_cmp, e_chain, chE_app, e_ite, e_tup, e_lst, e_ix, e_rev, e_slA, e_slL, e_slH, e_slLH, sl1_L, sl1_H, sl2_LH, e_call, e_bi, e_mt, mtE_bits, mtE_app, mtE_ext, mtE_pop, e_pcall, sl2E_int, augE_ref, noX_ok, e_comp, es_nil, es_cons, ifD_bl, ifD_t, ifD_f, b_ok, b_assoc, fTurn_eq, turn_eq, inT_some, inC_some, soE_app, evT_nil, evT_one, t_nm, t_tp, ts_nil, ts_cons, mkL_f, mkL_t, o_add, o_sub, c_lt, c_le, c_gt, c_ge, c_eqI, c_neI, b_int, b_intB, b_abs, b_max2, b_min2, b_gcd, b_lenT, b_lenL, b_lenS, b_tupT, b_tupL, b_lstT, b_lstL, b_isiT, b_isiI, b_isiB, revT, revL, ixT0, ixT1, ixT2, ixL0, ixL1, isI, q_vlT, q_vlL, q_vlS, q_enT, q_enL, q_zpTT, q_zpTL, q_zpLT, q_zpLL, forD_some, List.set_cons_zero, List.set_cons_succ, List.map_cons, List.map_nil, List.length_cons, List.length_nil, List.cons_append, List.nil_append, List.replicate_succ, List.replicate_zero, Nat.reduceAdd, Nat.reduceSub, Nat.reduceEqDiff, if_true, Option.bind_some, wipeD]
    refine WP_call (hh S1 ns i si hsi (by omega)) ?_
    rintro d S2 ⟨rfl, hd2⟩
    obtain ⟨n0, hn0⟩ : ∃ n0 : Nat, n0 = S1.length := ⟨_, rfl⟩
    rw [← hn0] at hd2 ⊢
    simp only [run_eq, ss_nil, ss_cons, s_nm, s_asg, s_par, par2, par3, s_aug, augD_add, augD_sub, s_augIx, augX_add, augX_sub, s_expr, s_ret, s_retN, s_pass, s_brk, s_cont, s_ite, s_for, s_while, seqF_nx, seqF_rt, seqF_bk, seqF_ct, fnD_rt, fnD_nx, g_nm, g_tp, g_ix, gs_nil, gs_cons, e_int, e_bl, e_non, e_str, e_var, getV_0, getV_s, e_gl, opt_some, e_bin, e_neg, negD_int, e_not, notD_bl, e_and, e_or, bE_app, bolD_bl, okM_app, e_cmp, e_chain, chE_app, e_ite, e_tup, e_lst, e_ix, e_rev, e_slA, e_slL, e_slH, e_slLH, sl1_L, sl1_H, sl2_LH, e_call, e_bi, e_mt, mtE_bits, mtE_app, mtE_ext, mtE_pop, e_pcall, sl2E_int, augE_ref, noX_ok, e_comp, es_nil, es_cons, ifD_bl, ifD_t, ifD_f, b_ok, b_assoc, fTurn_eq, turn_eq, inT_some, inC_some, soE_app, evT_nil, evT_one, t_nm, t_tp, ts_nil, ts_cons, mkL_f, mkL_t, o_add, o_sub, c_lt, c_le, c_gt, c_ge, c_eqI, c_neI, b_int, b_intB, b_abs, b_max2, b_min2, b_gcd, b_lenT, b_lenL, b_lenS, b_tupT, b_tupL, b_lstT, b_lstL, b_isiT, b_isiI, b_isiB, revT, revL, ixT0, ixT1, ixT2, ixL0, ixL1, isI, q_vlT, q_vlL, q_vlS, q_enT, q_enL, q_zpTT, q_zpTL, q_zpLT, q_zpLL, forD_some, List.set_cons_zero, List.set_cons_succ, List.map_cons, List.map_nil, List.length_cons, List.length_nil, List.cons_append, List.nil_append, List.replicate_succ, List.replicate_zero, Nat.reduceAdd, Nat.reduceSub, Nat.reduceEqDiff, if_true, Option.bind_some, wipeD]
    rw [q_rg1' (n := 3) (by rfl) (lim _ (by omega))]
    simp only [run_eq, ss_nil, ss_cons, s_nm, s_asg, s_par, par2, par3, s_aug, augD_add, augD_sub, s_augIx, augX_add, augX_sub, s_expr, s_ret, s_retN, s_pass, s_brk, s_cont, s_ite, s_for, s_while, seqF_nx, seqF_rt, seqF_bk, seqF_ct, fnD_rt, fnD_nx, g_nm, g_tp, g_ix, gs_nil, gs_cons, e_int, e_bl, e_non, e_str, e_var, getV_0, getV_s, e_gl, opt_some, e_bin, e_neg, negD_int, e_not, notD_bl, e_and, e_or, bE_app, bolD_bl, okM_app, e_cmp, e_chain, chE_app, e_ite, e_tup, e_lst, e_ix, e_rev, e_slA, e_slL, e_slH, e_slLH, sl1_L, sl1_H, sl2_LH, e_call, e_bi, e_mt, mtE_bits, mtE_app, mtE_ext, mtE_pop, e_pcall, sl2E_int, augE_ref, noX_ok, e_comp, es_nil, es_cons, ifD_bl, ifD_t, ifD_f, b_ok, b_assoc, fTurn_eq, turn_eq, inT_some, inC_some, soE_app, evT_nil, evT_one, t_nm, t_tp, ts_nil, ts_cons, mkL_f, mkL_t, o_add, o_sub, c_lt, c_le, c_gt, c_ge, c_eqI, c_neI, b_int, b_intB, b_abs, b_max2, b_min2, b_gcd, b_lenT, b_lenL, b_lenS, b_tupT, b_tupL, b_lstT, b_lstL, b_isiT, b_isiI, b_isiB, revT, revL, ixT0, ixT1, ixT2, ixL0, ixL1, isI, q_vlT, q_vlL, q_vlS, q_enT, q_enL, q_zpTT, q_zpTL, q_zpLT, q_zpLL, forD_some, List.set_cons_zero, List.set_cons_succ, List.map_cons, List.map_nil, List.length_cons, List.length_nil, List.cons_append, List.nil_append, List.replicate_succ, List.replicate_zero, Nat.reduceAdd, Nat.reduceSub, Nat.reduceEqDiff, if_true, Option.bind_some, wipeD]
    refine WP_call (for_inv (P := fun f S' => ∃ e3 e4 e5 e6, f = Fl.nx [some (.scr (ns.map .int)), some (.int si), some (.ref n0), e3, e4, e5, e6]) (fun j env S' => Di n0 (100 * j) S' ∧ ∃ e3 e4 e5 e6, env = [some (.scr (ns.map .int)), some (.int si), some (.ref n0), e3, e4, e5, e6]) 0 ⟨hd2, _, _, _, _, rfl⟩ ?_ ?_) ?_
    · rintro j env S4 x ⟨hd4, e3, e4, e5, e6, rfl⟩ hj _ hx
      obtain ⟨rfl, hj2⟩ := natsD_get hx
      refine ⟨dep_nil, ?_⟩
      obtain ⟨ji, hji⟩ : ∃ ji : Int, ji = ((j - 0 : Nat) : Int) := ⟨_, rfl⟩
      rw [← hji]
      obtain ⟨S5, e5, hd5⟩ := hr S4 n0 (100 * j) hd4 (by omega)
      simp only [run_eq, ss_nil, ss_cons, s_nm, s_asg, s_par, par2, par3, s_aug, augD_add, augD_sub, s_augIx, augX_add, augX_sub, s_expr, s_ret, s_retN, s_pass, s_brk, s_cont, s_ite, s_for, s_while, seqF_nx, seqF_rt, seqF_bk, seqF_ct, fnD_rt, fnD_nx, g_nm, g_tp, g_ix, gs_nil, gs_cons, e_int, e_bl, e_non, e_str, e_var, getV_0, getV_s, e_gl, opt_some, e_bin, e_neg, negD_int, e_not, notD_bl, e_and, e_or, bE_app, bolD_bl, okM_app, e_cmp, e_chain, chE_app, e_ite, e_tup, e_lst, e_ix, e_rev, e_slA, e_slL, e_slH, e_slLH, sl1_L, sl1_H, sl2_LH, e_call, e_bi, e_mt, mtE_bits, mtE_app, mtE_ext, mtE_pop, e_pcall, sl2E_int, augE_ref, noX_ok, e_comp, es_nil, es_cons, ifD_bl, ifD_t, ifD_f, b_ok, b_assoc, fTurn_eq, turn_eq, inT_some, inC_some, soE_app, evT_nil, evT_one, t_nm, t_tp, ts_nil, ts_cons, mkL_f, mkL_t, o_add, o_sub, c_lt, c_le, c_gt, c_ge, c_eqI, c_neI, b_int, b_intB, b_abs, b_max2, b_min2, b_gcd, b_lenT, b_lenL, b_lenS, b_tupT, b_tupL, b_lstT, b_lstL, b_isiT, b_isiI, b_isiB, revT, revL, ixT0, ixT1, ixT2, ixL0, ixL1, isI, q_vlT, q_vlL, q_vlS, q_enT, q_enL, q_zpTT, q_zpTL, q_zpLT, q_zpLL, forD_some, List.set_cons_zero, List.set_cons_succ, List.map_cons, List.map_nil, List.length_cons, List.length_nil, List.cons_append, List.nil_append, List.replicate_succ, List.replicate_zero, Nat.reduceAdd, Nat.reduceSub, Nat.reduceEqDiff, if_true, Option.bind_some, wipeD, decide_true, decide_false, not_true_eq_false, not_false_eq_true, Bool.false_eq_true, if_false, Bool.not_true, Bool.not_false, ne_eq, e5, WP_ok]
      exact ⟨by rw [show 100 * (j + 1) = 100 * j + 100 by omega]; exact hd5, _, _, _, _, rfl⟩
    · rintro env S4 ⟨_, e3, e4, e5, e6, rfl⟩
      exact ⟨dep_nil, _, _, _, _, rfl⟩
    · rintro f S4 ⟨e3, e4, e5, e6, rfl⟩
      simp only [run_eq, ss_nil, ss_cons, s_nm, s_asg, s_par, par2, par3, s_aug, augD_add, augD_sub, s_augIx, augX_add, augX_sub, s_expr, s_ret, s_retN, s_pass, s_brk, s_cont, s_ite, s_for, s_while, seqF_nx, seqF_rt, seqF_bk, seqF_ct, fnD_rt, fnD_nx, g_nm, g_tp, g_ix, gs_nil, gs_cons, e_int, e_bl, e_non, e_str, e_var, getV_0, getV_s, e_gl, opt_some, e_bin, e_neg, negD_int, e_not, notD_bl, e_and, e_or, bE_app, bolD_bl, okM_app, e_cmp, e_chain, chE_app, e_ite, e_tup, e_lst, e_ix, e_rev, e_slA, e_slL, e_slH, e_slLH, sl1_L, sl1_H, sl2_LH, e_call, e_bi, e_mt, mtE_bits, mtE_app, mtE_ext, mtE_pop, e_pcall, sl2E_int, augE_ref, noX_ok, e_comp, es_nil, es_cons, ifD_bl, ifD_t, ifD_f, b_ok, b_assoc, fTurn_eq, turn_eq, inT_some, inC_some, soE_app, evT_nil, evT_one, t_nm, t_tp, ts_nil, ts_cons, mkL_f, mkL_t, o_add, o_sub, c_lt, c_le, c_gt, c_ge, c_eqI, c_neI, b_int, b_intB, b_abs, b_max2, b_min2, b_gcd, b_lenT, b_lenL, b_lenS, b_tupT, b_tupL, b_lstT, b_lstL, b_isiT, b_isiI, b_isiB, revT, revL, ixT0, ixT1, ixT2, ixL0, ixL1, isI, q_vlT, q_vlL, q_vlS, q_enT, q_enL, q_zpTT, q_zpTL, q_zpLT, q_zpLL, forD_some, List.set_cons_zero, List.set_cons_succ, List.map_cons, List.map_nil, List.length_cons, List.length_nil, List.cons_append, List.nil_append, List.replicate_succ, List.replicate_zero, Nat.reduceAdd, Nat.reduceSub, Nat.reduceEqDiff, if_true, Option.bind_some, wipeD, WP_ok]
      exact ⟨_, _, _, _, _, _, rfl⟩
  · rintro env S1 ⟨e1, e2, e3, e4, e5, e6, rfl⟩
    exact ⟨dep_nil, _, _, _, _, _, _, rfl⟩
  · rintro f S1 ⟨e1, e2, e3, e4, e5, e6, rfl⟩
    have te := fun S => tail_run (env := [some (.scr (ns.map .int)), e1, e2, e3, e4, e5, e6]) (S := S) htl rfl
    simp only [seqF_nx, te, b_ok, fnD_rt, WP_ok]
theorem law_true (ns : List Int) (h : ns.length ≤ 63) : WP (callF pr 21 49 [.scr (ns.map .int)] []) fun d _ => d = .bl true := by
  rw [cf 20 49 fd_law rfl]
  refine law_spec (fun S ns spot si a b => ?_) (fun S n N a b => ?_) tail_ok
  · dsimp only
    rw [cf 19 31 fd_law_wb_hat rfl]; exact hat_spec a b
  · dsimp only
    rw [cf 19 48 fd_law_right rfl]
    obtain ⟨d, S', e, rfl, hd⟩ := (right_spec (kR 12) a (by omega)).get
    exact ⟨S', e, hd⟩
end LW

namespace LW
open PySem PySem.Spec
open PyProof.Rows L2 Ev
def topS (i : Nat) : Stmt := PySem.Challenge.pw_hardbits_k31_whole_draws_and_hybrids.main.body.getD i (.Pass ⟨0, 0, 0, 0⟩)
abbrev st_is_whole : Stmt := topS 9
abbrev st_is_integer : Stmt := topS 10
abbrev st_is_within : Stmt := topS 11
abbrev st_is_bit : Stmt := topS 12
abbrev st_are_bits : Stmt := topS 13
abbrev st_number_in : Stmt := topS 14
abbrev st_word_in : Stmt := topS 15
abbrev st_fraction_in : Stmt := topS 16
abbrev st_less_in : Stmt := topS 17
abbrev st_require_within : Stmt := topS 18
abbrev st_least_in : Stmt := topS 20
abbrev st_is_row_in : Stmt := topS 21
abbrev st_is_part_in : Stmt := topS 22
abbrev st_is_mix_in : Stmt := topS 23
abbrev st_require_draw : Stmt := topS 24
abbrev st_excess_in : Stmt := topS 27
abbrev st_begins_in : Stmt := topS 28
abbrev st_hybrid_in : Stmt := topS 29
abbrev st_steps_in : Stmt := topS 30
abbrev st_require_words : Stmt := topS 31
abbrev st_require_bits : Stmt := topS 32
abbrev st_words : Stmt := topS 33
abbrev st_word_number : Stmt := topS 34
abbrev st_draw_of : Stmt := topS 35
abbrev st_even_draw : Stmt := topS 36
abbrev st_excess : Stmt := topS 37
abbrev st_hybrid : Stmt := topS 38
abbrev st_steps : Stmt := topS 39
abbrev st_law_wb_hat : Stmt := topS 41
abbrev st_law_wb_up : Stmt := topS 42
abbrev st_law_wb_two : Stmt := topS 43
abbrev st_law_wb_of : Stmt := topS 44
abbrev st_law_wb_shared : Stmt := topS 45
abbrev st_law_wb_frac : Stmt := topS 46
abbrev st_law_wb_plus : Stmt := topS 47
abbrev st_law_wb_less : Stmt := topS 48
abbrev st_law_wb_least : Stmt := topS 49
abbrev st_law_wb_word : Stmt := topS 50
abbrev st_law_wb_bits : Stmt := topS 51
abbrev st_law_wb_draw : Stmt := topS 52
abbrev st_law_wb_excess : Stmt := topS 53
abbrev st_law_wb_begin : Stmt := topS 54
abbrev st_law_wb_hybrid : Stmt := topS 55
abbrev st_law_wb_even : Stmt := topS 56
abbrev st_law_words_right : Stmt := topS 57
abbrev st_law_right : Stmt := topS 58
abbrev st_law : Stmt := topS 59
def bl : List Str := ["len", "int", "abs", "max", "min", "sum", "all", "tuple", "range", "enumerate", "zip", "isinstance", "bool"]
def tt : Ev.TT := ⟨gs, bl, true, nth rows, ms⟩
def ns_is_whole : List Str := ["value"]
theorem chk_is_whole : chkF tt "is_whole" ns_is_whole fd_is_whole st_is_whole = true := by decide +kernel
def ns_is_integer : List Str := ["value"]
theorem chk_is_integer : chkF tt "is_integer" ns_is_integer fd_is_integer st_is_integer = true := by decide +kernel
def ns_is_within : List Str := ["value", "least", "most"]
theorem chk_is_within : chkF tt "is_within" ns_is_within fd_is_within st_is_within = true := by decide +kernel
def ns_is_bit : List Str := ["value"]
theorem chk_is_bit : chkF tt "is_bit" ns_is_bit fd_is_bit st_is_bit = true := by decide +kernel
def ns_are_bits : List Str := ["value", "many", "bit"]
theorem chk_are_bits : chkF tt "are_bits" ns_are_bits fd_are_bits st_are_bits = true := by decide +kernel
def ns_number_in : List Str := ["word", "at", "bit"]
theorem chk_number_in : chkF tt "number_in" ns_number_in fd_number_in st_number_in = true := by decide +kernel
def ns_word_in : List Str := ["many", "number", "at"]
theorem chk_word_in : chkF tt "word_in" ns_word_in fd_word_in st_word_in = true := by decide +kernel
def ns_fraction_in : List Str := ["top", "bottom", "shared"]
theorem chk_fraction_in : chkF tt "fraction_in" ns_fraction_in fd_fraction_in st_fraction_in = true := by decide +kernel
def ns_less_in : List Str := ["one", "other"]
theorem chk_less_in : chkF tt "less_in" ns_less_in fd_less_in st_less_in = true := by decide +kernel
def ns_require_within : List Str := ["value", "least", "most"]
theorem chk_require_within : chkF tt "require_within" ns_require_within fd_require_within st_require_within = true := by decide +kernel
def ns_least_in : List Str := ["row", "shared", "number"]
theorem chk_least_in : chkF tt "least_in" ns_least_in fd_least_in st_least_in = true := by decide +kernel
def ns_is_row_in : List Str := ["many", "value", "number"]
theorem chk_is_row_in : chkF tt "is_row_in" ns_is_row_in fd_is_row_in st_is_row_in = true := by decide +kernel
def ns_is_part_in : List Str := ["many", "value", "number"]
theorem chk_is_part_in : chkF tt "is_part_in" ns_is_part_in fd_is_part_in st_is_part_in = true := by decide +kernel
def ns_is_mix_in : List Str := ["many", "value"]
theorem chk_is_mix_in : chkF tt "is_mix_in" ns_is_mix_in fd_is_mix_in st_is_mix_in = true := by decide +kernel
def ns_require_draw : List Str := ["many", "value"]
theorem chk_require_draw : chkF tt "require_draw" ns_require_draw fd_require_draw st_require_draw = true := by decide +kernel
def ns_excess_in : List Str := ["draw", "test", "met", "number", "bit"]
theorem chk_excess_in : chkF tt "excess_in" ns_excess_in fd_excess_in st_excess_in = true := by decide +kernel
def ns_begins_in : List Str := ["draw", "i", "found", "x", "number"]
theorem chk_begins_in : chkF tt "begins_in" ns_begins_in fd_begins_in st_begins_in = true := by decide +kernel
def ns_hybrid_in : List Str := ["draw", "i", "begins", "words", "numbers", "x"]
theorem chk_hybrid_in : chkF tt "hybrid_in" ns_hybrid_in fd_hybrid_in st_hybrid_in = true := by decide +kernel
def ns_steps_in : List Str := ["m", "draw", "test", "chances", "i", "one", "other"]
theorem chk_steps_in : chkF tt "steps_in" ns_steps_in fd_steps_in st_steps_in = true := by decide +kernel
def ns_require_words : List Str := ["m", "draw"]
theorem chk_require_words : chkF tt "require_words" ns_require_words fd_require_words st_require_words = true := by decide +kernel
def ns_require_bits : List Str := ["value", "many"]
theorem chk_require_bits : chkF tt "require_bits" ns_require_bits fd_require_bits st_require_bits = true := by decide +kernel
def ns_words : List Str := ["m", "number"]
theorem chk_words : chkF tt "words" ns_words fd_words st_words = true := by decide +kernel
def ns_word_number : List Str := ["m", "word"]
theorem chk_word_number : chkF tt "word_number" ns_word_number fd_word_number st_word_number = true := by decide +kernel
def ns_draw_of : List Str := ["m", "counts", "number"]
theorem chk_draw_of : chkF tt "draw_of" ns_draw_of fd_draw_of st_draw_of = true := by decide +kernel
def ns_even_draw : List Str := ["m"]
theorem chk_even_draw : chkF tt "even_draw" ns_even_draw fd_even_draw st_even_draw = true := by decide +kernel
def ns_excess : List Str := ["m", "draw", "test"]
theorem chk_excess : chkF tt "excess" ns_excess fd_excess st_excess = true := by decide +kernel
def ns_hybrid : List Str := ["m", "draw", "number"]
theorem chk_hybrid : chkF tt "hybrid" ns_hybrid fd_hybrid st_hybrid = true := by decide +kernel
def ns_steps : List Str := ["m", "draw", "test"]
theorem chk_steps : chkF tt "steps" ns_steps fd_steps st_steps = true := by decide +kernel
def ns_law_wb_hat : List Str := ["script", "spot", "cell", "great"]
theorem chk_law_wb_hat : chkF tt "_law_wb_hat" ns_law_wb_hat fd_law_wb_hat st_law_wb_hat = true := by decide +kernel
def ns_law_wb_up : List Str := ["hat", "total", "found", "one", "two"]
theorem chk_law_wb_up : chkF tt "_law_wb_up" ns_law_wb_up fd_law_wb_up st_law_wb_up = true := by decide +kernel
def ns_law_wb_two : List Str := ["many", "found", "turn"]
theorem chk_law_wb_two : chkF tt "_law_wb_two" ns_law_wb_two fd_law_wb_two st_law_wb_two = true := by decide +kernel
def ns_law_wb_of : List Str := ["hat", "items"]
theorem chk_law_wb_of : chkF tt "_law_wb_of" ns_law_wb_of fd_law_wb_of st_law_wb_of = true := by decide +kernel
def ns_law_wb_shared : List Str := ["one", "other"]
theorem chk_law_wb_shared : chkF tt "_law_wb_shared" ns_law_wb_shared fd_law_wb_shared st_law_wb_shared = true := by decide +kernel
def ns_law_wb_frac : List Str := ["top", "bottom", "shared"]
theorem chk_law_wb_frac : chkF tt "_law_wb_frac" ns_law_wb_frac fd_law_wb_frac st_law_wb_frac = true := by decide +kernel
def ns_law_wb_plus : List Str := ["one", "other"]
theorem chk_law_wb_plus : chkF tt "_law_wb_plus" ns_law_wb_plus fd_law_wb_plus st_law_wb_plus = true := by decide +kernel
def ns_law_wb_less : List Str := ["one", "other"]
theorem chk_law_wb_less : chkF tt "_law_wb_less" ns_law_wb_less fd_law_wb_less st_law_wb_less = true := by decide +kernel
def ns_law_wb_least : List Str := ["row", "shared", "number"]
theorem chk_law_wb_least : chkF tt "_law_wb_least" ns_law_wb_least fd_law_wb_least st_law_wb_least = true := by decide +kernel
def ns_law_wb_word : List Str := ["many", "number", "found", "at"]
theorem chk_law_wb_word : chkF tt "_law_wb_word" ns_law_wb_word fd_law_wb_word st_law_wb_word = true := by decide +kernel
def ns_law_wb_bits : List Str := ["hat", "many", "way", "at"]
theorem chk_law_wb_bits : chkF tt "_law_wb_bits" ns_law_wb_bits fd_law_wb_bits st_law_wb_bits = true := by decide +kernel
def ns_law_wb_draw : List Str := ["hat", "many", "way", "most", "counts", "more", "at", "number"]
theorem chk_law_wb_draw : chkF tt "_law_wb_draw" ns_law_wb_draw fd_law_wb_draw st_law_wb_draw = true := by decide +kernel
def ns_law_wb_excess : List Str := ["draw", "test", "met", "number", "bit"]
theorem chk_law_wb_excess : chkF tt "_law_wb_excess" ns_law_wb_excess fd_law_wb_excess st_law_wb_excess = true := by decide +kernel
def ns_law_wb_begin : List Str := ["draw", "m", "word", "found", "number", "weight"]
theorem chk_law_wb_begin : chkF tt "_law_wb_begin" ns_law_wb_begin fd_law_wb_begin st_law_wb_begin = true := by decide +kernel
def ns_law_wb_hybrid : List Str := ["draw", "m", "i", "found", "number"]
theorem chk_law_wb_hybrid : chkF tt "_law_wb_hybrid" ns_law_wb_hybrid fd_law_wb_hybrid st_law_wb_hybrid = true := by decide +kernel
def ns_law_wb_even : List Str := ["m"]
theorem chk_law_wb_even : chkF tt "_law_wb_even" ns_law_wb_even fd_law_wb_even st_law_wb_even = true := by decide +kernel
def ns_law_words_right : List Str := ["m", "due", "number", "word"]
theorem chk_law_words_right : chkF tt "_law_words_right" ns_law_words_right fd_law_words_right st_law_words_right = true := by decide +kernel
def ns_law_right : List Str := ["hat", "m", "draw", "test", "counts", "hybrids", "chances", "due", "total", "step", "number", "i", "one"]
theorem chk_law_right : chkF tt "_law_right" ns_law_right fd_law_right st_law_right = true := by decide +kernel
def ns_law : List Str := ["script", "spot", "hat", "turn", "twin", "told", "m"]
theorem chk_law : chkF tt "law" ns_law fd_law st_law = true := by decide +kernel
end LW

open PySem PySem.W PyProof.Rows
set_option maxHeartbeats 0 in
theorem PySem.Challenge.cw_hardbits_k31_whole_draws_and_hybrids_holds : PySem.Challenge.rw_hardbits_k31_whole_draws_and_hybrids.Holds := by
  w_on; o_law; k_head; (case hw => w_witness2)
  k_fill
  refine Ev.walk_ofG (l := PySem.Challenge.rw_hardbits_k31_whole_draws_and_hybrids) (n := 63) (k := 23) (x := "script") LW.lamI.names rfl (by decide) rfl ⟨rfl, by decide, by decide⟩ (fun w h Y => PySem.W.kIn_of Y) ?hrec ?F
  case hrec => decide +kernel
  case F =>
    intro w mg fa h KX G hmg
    refine' Ev.law_G (k := 20) (g := 49) (fuel := 1000) (T := LW.tt) (fns := LW.fns) (gvs := LW.gvs) (rows := LW.rows) (ps := []) (Cs := [?cs0, ?cs1, ?cs2]) (d := LW.fd_law) (N := LW.ns_law) (st := LW.st_law) (x := "script") (Ev.Tab.mk (T := LW.tt) (fns := LW.fns) (gvs := LW.gvs) (rows := LW.rows) ⟨Ev.cn_int ?a0, Ev.cn_int ?a1, Ev.Ent.e (Ev.ent_mk (d := LW.fd_is_whole) (N := LW.ns_is_whole) (st := LW.st_is_whole) ?a2 ?l2 ?c2 ?k2 (ps := ["value"]) rfl (fun _ _ _ _ _ _ us hl => match us, hl with | [_], _ => rfl) LW.chk_is_whole), Ev.Ent.e (Ev.ent_mk (d := LW.fd_is_integer) (N := LW.ns_is_integer) (st := LW.st_is_integer) ?a3 ?l3 ?c3 ?k3 (ps := ["value"]) rfl (fun _ _ _ _ _ _ us hl => match us, hl with | [_], _ => rfl) LW.chk_is_integer), Ev.Ent.e (Ev.ent_mk (d := LW.fd_is_within) (N := LW.ns_is_within) (st := LW.st_is_within) ?a4 ?l4 ?c4 ?k4 (ps := ["value", "least", "most"]) rfl (fun _ _ _ _ _ _ us hl => match us, hl with | [_, _, _], _ => rfl) LW.chk_is_within), Ev.Ent.e (Ev.ent_mk (d := LW.fd_is_bit) (N := LW.ns_is_bit) (st := LW.st_is_bit) ?a5 ?l5 ?c5 ?k5 (ps := ["value"]) rfl (fun _ _ _ _ _ _ us hl => match us, hl with | [_], _ => rfl) LW.chk_is_bit), Ev.Ent.e (Ev.ent_mk (d := LW.fd_are_bits) (N := LW.ns_are_bits) (st := LW.st_are_bits) ?a6 ?l6 ?c6 ?k6 (ps := ["value", "many"]) rfl (fun _ _ _ _ _ _ us hl => match us, hl with | [_, _], _ => rfl) LW.chk_are_bits), Ev.Ent.e (Ev.ent_mk (d := LW.fd_number_in) (N := LW.ns_number_in) (st := LW.st_number_in) ?a7 ?l7 ?c7 ?k7 (ps := ["word"]) rfl (fun _ _ _ _ _ _ us hl => match us, hl with | [_], _ => rfl) LW.chk_number_in), Ev.Ent.e (Ev.ent_mk (d := LW.fd_word_in) (N := LW.ns_word_in) (st := LW.st_word_in) ?a8 ?l8 ?c8 ?k8 (ps := ["many", "number"]) rfl (fun _ _ _ _ _ _ us hl => match us, hl with | [_, _], _ => rfl) LW.chk_word_in), Ev.Ent.e (Ev.ent_mk (d := LW.fd_fraction_in) (N := LW.ns_fraction_in) (st := LW.st_fraction_in) ?a9 ?l9 ?c9 ?k9 (ps := ["top", "bottom"]) rfl (fun _ _ _ _ _ _ us hl => match us, hl with | [_, _], _ => rfl) LW.chk_fraction_in), Ev.Ent.e (Ev.ent_mk (d := LW.fd_less_in) (N := LW.ns_less_in) (st := LW.st_less_in) ?a10 ?l10 ?c10 ?k10 (ps := ["one", "other"]) rfl (fun _ _ _ _ _ _ us hl => match us, hl with | [_, _], _ => rfl) LW.chk_less_in), Ev.Ent.e (Ev.ent_mk (d := LW.fd_require_within) (N := LW.ns_require_within) (st := LW.st_require_within) ?a11 ?l11 ?c11 ?k11 (ps := ["value", "least", "most"]) rfl (fun _ _ _ _ _ _ us hl => match us, hl with | [_, _, _], _ => rfl) LW.chk_require_within), Ev.Ent.e (Ev.ent_mk (d := LW.fd_least_in) (N := LW.ns_least_in) (st := LW.st_least_in) ?a12 ?l12 ?c12 ?k12 (ps := ["row"]) rfl (fun _ _ _ _ _ _ us hl => match us, hl with | [_], _ => rfl) LW.chk_least_in), Ev.Ent.e (Ev.ent_mk (d := LW.fd_is_row_in) (N := LW.ns_is_row_in) (st := LW.st_is_row_in) ?a13 ?l13 ?c13 ?k13 (ps := ["many", "value"]) rfl (fun _ _ _ _ _ _ us hl => match us, hl with | [_, _], _ => rfl) LW.chk_is_row_in), Ev.Ent.e (Ev.ent_mk (d := LW.fd_is_part_in) (N := LW.ns_is_part_in) (st := LW.st_is_part_in) ?a14 ?l14 ?c14 ?k14 (ps := ["many", "value"]) rfl (fun _ _ _ _ _ _ us hl => match us, hl with | [_, _], _ => rfl) LW.chk_is_part_in), Ev.Ent.e (Ev.ent_mk (d := LW.fd_is_mix_in) (N := LW.ns_is_mix_in) (st := LW.st_is_mix_in) ?a15 ?l15 ?c15 ?k15 (ps := ["many", "value"]) rfl (fun _ _ _ _ _ _ us hl => match us, hl with | [_, _], _ => rfl) LW.chk_is_mix_in), Ev.Ent.e (Ev.ent_mk (d := LW.fd_require_draw) (N := LW.ns_require_draw) (st := LW.st_require_draw) ?a16 ?l16 ?c16 ?k16 (ps := ["many", "value"]) rfl (fun _ _ _ _ _ _ us hl => match us, hl with | [_, _], _ => rfl) LW.chk_require_draw), Ev.cn_int ?a17, Ev.Ent.e (Ev.ent_mk (d := LW.fd_excess_in) (N := LW.ns_excess_in) (st := LW.st_excess_in) ?a18 ?l18 ?c18 ?k18 (ps := ["draw", "test"]) rfl (fun _ _ _ _ _ _ us hl => match us, hl with | [_, _], _ => rfl) LW.chk_excess_in), Ev.Ent.e (Ev.ent_mk (d := LW.fd_begins_in) (N := LW.ns_begins_in) (st := LW.st_begins_in) ?a19 ?l19 ?c19 ?k19 (ps := ["draw", "i"]) rfl (fun _ _ _ _ _ _ us hl => match us, hl with | [_, _], _ => rfl) LW.chk_begins_in), Ev.Ent.e (Ev.ent_mk (d := LW.fd_hybrid_in) (N := LW.ns_hybrid_in) (st := LW.st_hybrid_in) ?a20 ?l20 ?c20 ?k20 (ps := ["draw", "i"]) rfl (fun _ _ _ _ _ _ us hl => match us, hl with | [_, _], _ => rfl) LW.chk_hybrid_in), Ev.Ent.e (Ev.ent_mk (d := LW.fd_steps_in) (N := LW.ns_steps_in) (st := LW.st_steps_in) ?a21 ?l21 ?c21 ?k21 (ps := ["m", "draw", "test"]) rfl (fun _ _ _ _ _ _ us hl => match us, hl with | [_, _, _], _ => rfl) LW.chk_steps_in), Ev.Ent.e (Ev.ent_mk (d := LW.fd_require_words) (N := LW.ns_require_words) (st := LW.st_require_words) ?a22 ?l22 ?c22 ?k22 (ps := ["m", "draw"]) rfl (fun _ _ _ _ _ _ us hl => match us, hl with | [_, _], _ => rfl) LW.chk_require_words), Ev.Ent.e (Ev.ent_mk (d := LW.fd_require_bits) (N := LW.ns_require_bits) (st := LW.st_require_bits) ?a23 ?l23 ?c23 ?k23 (ps := ["value", "many"]) rfl (fun _ _ _ _ _ _ us hl => match us, hl with | [_, _], _ => rfl) LW.chk_require_bits), Ev.Ent.e (Ev.ent_mk (d := LW.fd_words) (N := LW.ns_words) (st := LW.st_words) ?a24 ?l24 ?c24 ?k24 (ps := ["m"]) rfl (fun _ _ _ _ _ _ us hl => match us, hl with | [_], _ => rfl) LW.chk_words), Ev.Ent.e (Ev.ent_mk (d := LW.fd_word_number) (N := LW.ns_word_number) (st := LW.st_word_number) ?a25 ?l25 ?c25 ?k25 (ps := ["m", "word"]) rfl (fun _ _ _ _ _ _ us hl => match us, hl with | [_, _], _ => rfl) LW.chk_word_number), Ev.Ent.e (Ev.ent_mk (d := LW.fd_draw_of) (N := LW.ns_draw_of) (st := LW.st_draw_of) ?a26 ?l26 ?c26 ?k26 (ps := ["m", "counts"]) rfl (fun _ _ _ _ _ _ us hl => match us, hl with | [_, _], _ => rfl) LW.chk_draw_of), Ev.Ent.e (Ev.ent_mk (d := LW.fd_even_draw) (N := LW.ns_even_draw) (st := LW.st_even_draw) ?a27 ?l27 ?c27 ?k27 (ps := ["m"]) rfl (fun _ _ _ _ _ _ us hl => match us, hl with | [_], _ => rfl) LW.chk_even_draw), Ev.Ent.e (Ev.ent_mk (d := LW.fd_excess) (N := LW.ns_excess) (st := LW.st_excess) ?a28 ?l28 ?c28 ?k28 (ps := ["m", "draw", "test"]) rfl (fun _ _ _ _ _ _ us hl => match us, hl with | [_, _, _], _ => rfl) LW.chk_excess), Ev.Ent.e (Ev.ent_mk (d := LW.fd_hybrid) (N := LW.ns_hybrid) (st := LW.st_hybrid) ?a29 ?l29 ?c29 ?k29 (ps := ["m", "draw", "number"]) rfl (fun _ _ _ _ _ _ us hl => match us, hl with | [_, _, _], _ => rfl) LW.chk_hybrid), Ev.Ent.e (Ev.ent_mk (d := LW.fd_steps) (N := LW.ns_steps) (st := LW.st_steps) ?a30 ?l30 ?c30 ?k30 (ps := ["m", "draw", "test"]) rfl (fun _ _ _ _ _ _ us hl => match us, hl with | [_, _, _], _ => rfl) LW.chk_steps), Ev.Ent.e (Ev.ent_mk (d := LW.fd_law_wb_hat) (N := LW.ns_law_wb_hat) (st := LW.st_law_wb_hat) ?a31 ?l31 ?c31 ?k31 (ps := ["script", "spot"]) rfl (fun _ _ _ _ _ _ us hl => match us, hl with | [_, _], _ => rfl) LW.chk_law_wb_hat), Ev.Ent.e (Ev.ent_mk (d := LW.fd_law_wb_up) (N := LW.ns_law_wb_up) (st := LW.st_law_wb_up) ?a32 ?l32 ?c32 ?k32 (ps := ["hat", "total"]) rfl (fun _ _ _ _ _ _ us hl => match us, hl with | [_, _], _ => rfl) LW.chk_law_wb_up), Ev.Ent.e (Ev.ent_mk (d := LW.fd_law_wb_two) (N := LW.ns_law_wb_two) (st := LW.st_law_wb_two) ?a33 ?l33 ?c33 ?k33 (ps := ["many"]) rfl (fun _ _ _ _ _ _ us hl => match us, hl with | [_], _ => rfl) LW.chk_law_wb_two), Ev.Ent.e (Ev.ent_mk (d := LW.fd_law_wb_of) (N := LW.ns_law_wb_of) (st := LW.st_law_wb_of) ?a34 ?l34 ?c34 ?k34 (ps := ["hat", "items"]) rfl (fun _ _ _ _ _ _ us hl => match us, hl with | [_, _], _ => rfl) LW.chk_law_wb_of), Ev.Ent.e (Ev.ent_mk (d := LW.fd_law_wb_shared) (N := LW.ns_law_wb_shared) (st := LW.st_law_wb_shared) ?a35 ?l35 ?c35 ?k35 (ps := ["one", "other"]) rfl (fun _ _ _ _ _ _ us hl => match us, hl with | [_, _], _ => rfl) LW.chk_law_wb_shared), Ev.Ent.e (Ev.ent_mk (d := LW.fd_law_wb_frac) (N := LW.ns_law_wb_frac) (st := LW.st_law_wb_frac) ?a36 ?l36 ?c36 ?k36 (ps := ["top", "bottom"]) rfl (fun _ _ _ _ _ _ us hl => match us, hl with | [_, _], _ => rfl) LW.chk_law_wb_frac), Ev.Ent.e (Ev.ent_mk (d := LW.fd_law_wb_plus) (N := LW.ns_law_wb_plus) (st := LW.st_law_wb_plus) ?a37 ?l37 ?c37 ?k37 (ps := ["one", "other"]) rfl (fun _ _ _ _ _ _ us hl => match us, hl with | [_, _], _ => rfl) LW.chk_law_wb_plus), Ev.Ent.e (Ev.ent_mk (d := LW.fd_law_wb_less) (N := LW.ns_law_wb_less) (st := LW.st_law_wb_less) ?a38 ?l38 ?c38 ?k38 (ps := ["one", "other"]) rfl (fun _ _ _ _ _ _ us hl => match us, hl with | [_, _], _ => rfl) LW.chk_law_wb_less), Ev.Ent.e (Ev.ent_mk (d := LW.fd_law_wb_least) (N := LW.ns_law_wb_least) (st := LW.st_law_wb_least) ?a39 ?l39 ?c39 ?k39 (ps := ["row"]) rfl (fun _ _ _ _ _ _ us hl => match us, hl with | [_], _ => rfl) LW.chk_law_wb_least), Ev.Ent.e (Ev.ent_mk (d := LW.fd_law_wb_word) (N := LW.ns_law_wb_word) (st := LW.st_law_wb_word) ?a40 ?l40 ?c40 ?k40 (ps := ["many", "number"]) rfl (fun _ _ _ _ _ _ us hl => match us, hl with | [_, _], _ => rfl) LW.chk_law_wb_word), Ev.Ent.e (Ev.ent_mk (d := LW.fd_law_wb_bits) (N := LW.ns_law_wb_bits) (st := LW.st_law_wb_bits) ?a41 ?l41 ?c41 ?k41 (ps := ["hat", "many"]) rfl (fun _ _ _ _ _ _ us hl => match us, hl with | [_, _], _ => rfl) LW.chk_law_wb_bits), Ev.Ent.e (Ev.ent_mk (d := LW.fd_law_wb_draw) (N := LW.ns_law_wb_draw) (st := LW.st_law_wb_draw) ?a42 ?l42 ?c42 ?k42 (ps := ["hat", "many"]) rfl (fun _ _ _ _ _ _ us hl => match us, hl with | [_, _], _ => rfl) LW.chk_law_wb_draw), Ev.Ent.e (Ev.ent_mk (d := LW.fd_law_wb_excess) (N := LW.ns_law_wb_excess) (st := LW.st_law_wb_excess) ?a43 ?l43 ?c43 ?k43 (ps := ["draw", "test"]) rfl (fun _ _ _ _ _ _ us hl => match us, hl with | [_, _], _ => rfl) LW.chk_law_wb_excess), Ev.Ent.e (Ev.ent_mk (d := LW.fd_law_wb_begin) (N := LW.ns_law_wb_begin) (st := LW.st_law_wb_begin) ?a44 ?l44 ?c44 ?k44 (ps := ["draw", "m", "word"]) rfl (fun _ _ _ _ _ _ us hl => match us, hl with | [_, _, _], _ => rfl) LW.chk_law_wb_begin), Ev.Ent.e (Ev.ent_mk (d := LW.fd_law_wb_hybrid) (N := LW.ns_law_wb_hybrid) (st := LW.st_law_wb_hybrid) ?a45 ?l45 ?c45 ?k45 (ps := ["draw", "m", "i"]) rfl (fun _ _ _ _ _ _ us hl => match us, hl with | [_, _, _], _ => rfl) LW.chk_law_wb_hybrid), Ev.Ent.e (Ev.ent_mk (d := LW.fd_law_wb_even) (N := LW.ns_law_wb_even) (st := LW.st_law_wb_even) ?a46 ?l46 ?c46 ?k46 (ps := ["m"]) rfl (fun _ _ _ _ _ _ us hl => match us, hl with | [_], _ => rfl) LW.chk_law_wb_even), Ev.Ent.e (Ev.ent_mk (d := LW.fd_law_words_right) (N := LW.ns_law_words_right) (st := LW.st_law_words_right) ?a47 ?l47 ?c47 ?k47 (ps := ["m"]) rfl (fun _ _ _ _ _ _ us hl => match us, hl with | [_], _ => rfl) LW.chk_law_words_right), Ev.Ent.e (Ev.ent_mk (d := LW.fd_law_right) (N := LW.ns_law_right) (st := LW.st_law_right) ?a48 ?l48 ?c48 ?k48 (ps := ["hat"]) rfl (fun _ _ _ _ _ _ us hl => match us, hl with | [_], _ => rfl) LW.chk_law_right), Ev.Ent.e (Ev.ent_mk (d := LW.fd_law) (N := LW.ns_law) (st := LW.st_law) ?a49 ?l49 ?c49 ?k49 (ps := ["script"]) rfl (fun _ _ _ _ _ _ us hl => match us, hl with | [_], _ => rfl) LW.chk_law), trivial⟩ (Ev.BAll.all (l := LW.bl) ⟨?z0, ?z1, ?z2, ?z3, ?z4, ?z5, ?z6, ?z7, ?z8, ?z9, ?z10, ?z11, ?z12, trivial⟩) (fun _ => ?g) rfl ⟨Ev.xe_plain ?xa0 ?xh0 ?xs0 ?xt0 ?xe0 ?xk0 rfl (by decide), Ev.xe_plain ?xa1 ?xh1 ?xs1 ?xt1 ?xe1 ?xk1 rfl (by decide), Ev.xe_own (f := "given") (x1 := "self") (x2 := "given") ?y2at ?y2hd ?y2sb ?y2ty ?y2iC ?y2lI ?y2hcd ?y2lc ?y2lcc ?y2lC ?y2sa ?y2kC ?y2opq ?y2nf ?y2ve ?y2me ?y2tI ?y2ga ?y2gg ?y2hbm ?y2hv ?y2file ?y2sup ?y2top ?y2txt ?y2par ?y2sc ?y2bind rfl (by decide), trivial⟩ ?sub (Ev.MAll.all (l := LW.ms) trivial) ?rp ?su trivial ?nd (Ev.NAll.all trivial) rfl) KX G hmg (Ev.ent_mk (st := LW.st_law) ?qa ?ql ?qc ?qk (ps := ["script"]) rfl (fun _ _ _ _ _ _ us hl => match us, hl with | [_], _ => rfl) LW.chk_law) rfl rfl (fun _ _ _ _ _ _ _ => rfl) (fun ns hl => LW.law_true ns hl)
    (case a0 => k_is)
    (case a1 => k_is)
    (case a2 => k_is)
    (case l2 => k_is)
    (case c2 => k_is)
    (case k2 => k_is)
    (case a3 => k_is)
    (case l3 => k_is)
    (case c3 => k_is)
    (case k3 => k_is)
    (case a4 => k_is)
    (case l4 => k_is)
    (case c4 => k_is)
    (case k4 => k_is)
    (case a5 => k_is)
    (case l5 => k_is)
    (case c5 => k_is)
    (case k5 => k_is)
    (case a6 => k_is)
    (case l6 => k_is)
    (case c6 => k_is)
    (case k6 => k_is)
    (case a7 => k_is)
    (case l7 => k_is)
    (case c7 => k_is)
    (case k7 => k_is)
    (case a8 => k_is)
    (case l8 => k_is)
    (case c8 => k_is)
    (case k8 => k_is)
    (case a9 => k_is)
    (case l9 => k_is)
    (case c9 => k_is)
    (case k9 => k_is)
    (case a10 => k_is)
    (case l10 => k_is)
    (case c10 => k_is)
    (case k10 => k_is)
    (case a11 => k_is)
    (case l11 => k_is)
    (case c11 => k_is)
    (case k11 => k_is)
    (case a12 => k_is)
    (case l12 => k_is)
    (case c12 => k_is)
    (case k12 => k_is)
    (case a13 => k_is)
    (case l13 => k_is)
    (case c13 => k_is)
    (case k13 => k_is)
    (case a14 => k_is)
    (case l14 => k_is)
    (case c14 => k_is)
    (case k14 => k_is)
    (case a15 => k_is)
    (case l15 => k_is)
    (case c15 => k_is)
    (case k15 => k_is)
    (case a16 => k_is)
    (case l16 => k_is)
    (case c16 => k_is)
    (case k16 => k_is)
    (case a17 => k_is)
    (case a18 => k_is)
    (case l18 => k_is)
    (case c18 => k_is)
    (case k18 => k_is)
    (case a19 => k_is)
    (case l19 => k_is)
    (case c19 => k_is)
    (case k19 => k_is)
    (case a20 => k_is)
    (case l20 => k_is)
    (case c20 => k_is)
    (case k20 => k_is)
    (case a21 => k_is)
    (case l21 => k_is)
    (case c21 => k_is)
    (case k21 => k_is)
    (case a22 => k_is)
    (case l22 => k_is)
    (case c22 => k_is)
    (case k22 => k_is)
    (case a23 => k_is)
    (case l23 => k_is)
    (case c23 => k_is)
    (case k23 => k_is)
    (case a24 => k_is)
    (case l24 => k_is)
    (case c24 => k_is)
    (case k24 => k_is)
    (case a25 => k_is)
    (case l25 => k_is)
    (case c25 => k_is)
    (case k25 => k_is)
    (case a26 => k_is)
    (case l26 => k_is)
    (case c26 => k_is)
    (case k26 => k_is)
    (case a27 => k_is)
    (case l27 => k_is)
    (case c27 => k_is)
    (case k27 => k_is)
    (case a28 => k_is)
    (case l28 => k_is)
    (case c28 => k_is)
    (case k28 => k_is)
    (case a29 => k_is)
    (case l29 => k_is)
    (case c29 => k_is)
    (case k29 => k_is)
    (case a30 => k_is)
    (case l30 => k_is)
    (case c30 => k_is)
    (case k30 => k_is)
    (case a31 => k_is)
    (case l31 => k_is)
    (case c31 => k_is)
    (case k31 => k_is)
    (case a32 => k_is)
    (case l32 => k_is)
    (case c32 => k_is)
    (case k32 => k_is)
    (case a33 => k_is)
    (case l33 => k_is)
    (case c33 => k_is)
    (case k33 => k_is)
    (case a34 => k_is)
    (case l34 => k_is)
    (case c34 => k_is)
    (case k34 => k_is)
    (case a35 => k_is)
    (case l35 => k_is)
    (case c35 => k_is)
    (case k35 => k_is)
    (case a36 => k_is)
    (case l36 => k_is)
    (case c36 => k_is)
    (case k36 => k_is)
    (case a37 => k_is)
    (case l37 => k_is)
    (case c37 => k_is)
    (case k37 => k_is)
    (case a38 => k_is)
    (case l38 => k_is)
    (case c38 => k_is)
    (case k38 => k_is)
    (case a39 => k_is)
    (case l39 => k_is)
    (case c39 => k_is)
    (case k39 => k_is)
    (case a40 => k_is)
    (case l40 => k_is)
    (case c40 => k_is)
    (case k40 => k_is)
    (case a41 => k_is)
    (case l41 => k_is)
    (case c41 => k_is)
    (case k41 => k_is)
    (case a42 => k_is)
    (case l42 => k_is)
    (case c42 => k_is)
    (case k42 => k_is)
    (case a43 => k_is)
    (case l43 => k_is)
    (case c43 => k_is)
    (case k43 => k_is)
    (case a44 => k_is)
    (case l44 => k_is)
    (case c44 => k_is)
    (case k44 => k_is)
    (case a45 => k_is)
    (case l45 => k_is)
    (case c45 => k_is)
    (case k45 => k_is)
    (case a46 => k_is)
    (case l46 => k_is)
    (case c46 => k_is)
    (case k46 => k_is)
    (case a47 => k_is)
    (case l47 => k_is)
    (case c47 => k_is)
    (case k47 => k_is)
    (case a48 => k_is)
    (case l48 => k_is)
    (case c48 => k_is)
    (case k48 => k_is)
    (case a49 => k_is)
    (case l49 => k_is)
    (case c49 => k_is)
    (case k49 => k_is)
    (case z0 => k_is)
    (case z1 => k_is)
    (case z2 => k_is)
    (case z3 => k_is)
    (case z4 => k_is)
    (case z5 => k_is)
    (case z6 => k_is)
    (case z7 => k_is)
    (case z8 => k_is)
    (case z9 => k_is)
    (case z10 => k_is)
    (case z11 => k_is)
    (case z12 => k_is)
    (case g => k_is)
    (case xa0 => k_is)
    (case xh0 => k_is)
    (case xs0 => k_is)
    (case xt0 => k_is)
    (case xk0 => k_is)
    (case xa1 => k_is)
    (case xh1 => k_is)
    (case xs1 => k_is)
    (case xt1 => k_is)
    (case xk1 => k_is)
    (case y2at => k_is)
    (case y2hd => k_is)
    (case y2sb => k_is)
    (case y2ty => k_is)
    (case y2iC => k_is)
    (case y2lI => k_is)
    (case y2hcd => k_is)
    (case y2lc => k_is)
    (case y2lcc => k_is)
    (case y2lC => k_is)
    (case y2sa => k_is)
    (case y2kC => k_is)
    (case y2opq => k_is)
    (case y2nf => k_is)
    (case y2ve => k_is)
    (case y2me => k_is)
    (case y2tI => k_is)
    (case y2ga => k_is)
    (case y2gg => k_is)
    (case rp => k_is)
    (case su => k_is)
    (case qa => k_is)
    (case ql => k_is)
    (case qc => k_is)
    (case qk => k_is)
    (case xe0 => k_exc)
    (case xe1 => k_exc)
    (case y2hbm => rfl)
    (case y2hv => rfl)
    (case y2txt => exact ⟨_, _, _, _, _, _, _, _, _, _, rfl, _, fun _ => rfl⟩)
    (case y2par => exact ⟨_, rfl, rfl⟩)
    (case y2file => decide +kernel)
    (case y2sup => kernel_rfl)
    (case y2top => decide +kernel)
    (case y2sc => decide +kernel)
    (case y2bind => intro us hl; match us, hl with | [_, _], _ => rfl)
    (case sub => kernel_rfl)
    (case nd => decide)
