import PyProof.Rows.All
import Wide.All
import OpenK.AllK
import Wide.FinOn
import KE.KSortTup
import KE.KDictOf
import PyProof.AttrMissHeap
import PyProof.ListMulRoad
import PyProof.FactsAll.tuple
import Lean
import PySem.Challenge.RW_tg0027_01
set_option Elab.async false
set_option maxRecDepth 100000
set_option maxHeartbeats 8000000
set_option linter.unusedVariables false

section
section
open PySem PySem.W PyProof.Rows
namespace Mine
local macro_rules | `(tactic| o_head $_) => `(tactic| assumption)
theorem pre (h : PySem.Challenge.rw_tg0027_01.row.Holds) : PySem.Challenge.rw_tg0027_01.row.Holds := by k_head
end Mine
end
section
open PySem PySem.W
namespace Mine
noncomputable def fSt (i : Nat) : Option Stmt := (PySem.Challenge.pw_tg0027_01.main.body.drop i).head?
noncomputable def fNm (i : Nat) : Str := match fSt i with
  | some (.FunctionDef n ..) => n
  | _ => default
noncomputable def pathsN : Str := "routeloom.paths"
noncomputable def decideN : Str := "routeloom.decide"
noncomputable def law_tg0027_01N : Str := "law_tg0027_01"
noncomputable def cutN : Str := "/claim/cut.py"
noncomputable def kF (i : Nat) (md : Str) (k c : Nat) : Obj := match fSt i with
  | some (.FunctionDef n a b _ _ _ sc _ _ _) => { cls := .type "function", data := .func { name := n, qualname := n, params := a, body := .stmts b, scope := sc, globals := 3, closure := [], defaults := .none, kwdefaults := .none, pyModule := .str md k, code := .ref c } }
  | _ => default
noncomputable def kC (i k1 k2 k3 ln n1 n2 n3 n4 n5 n6 n7 k4 : Nat) (r1 r2 r3 r4 r5 : Value) : Obj :=
  { cls := .type "code", data := .fields #[.str (fNm i) k1, .str (fNm i) k2, .str cutN k3, .int ln 0, .int n1 0, .int n2 0, .int n3 0, .int n4 0, r1, .bool true, .int n5 0, r2, .none, r3, r4, r5, .int n6 0, .int n7 0, .str cutN k4] }
noncomputable def kE (P : Params) (n : Str) (k : Nat) (v : Value) : DictEntry := { hash := PyData.keyHash P n, key := .str n k, val := v }
noncomputable def kEs0 (P : Params) : List DictEntry := [kE P "__name__" 165 (.str ("law_tg0027_01") 327), kE P "__doc__" 166 (.none), kE P "__package__" 167 (.none), kE P "__loader__" 168 (.builtin "__main__.__loader__#opaque"), kE P "__spec__" 169 (.none), kE P "__annotations__" 170 (.ref 6), kE P "__builtins__" 171 (.ref 4), kE P "__file__" 173 (.str ("/claim/cut.py") 172)]
noncomputable def kEs1 (P : Params) : List DictEntry := [kE P "__cached__" 174 (.none), kE P "SET" 190 (.int 1 189), kE P "SEQUENCE" 192 (.int 2 191), kE P (fNm 3) 202 (.ref 21), kE P (fNm 4) 211 (.ref 28), kE P "USUAL_PREFERENCE" 215 (.int 100 214), kE P "WORST_MED" 221 (.int 4294967295 220), kE P (fNm 8) 228 (.ref 35)]
noncomputable def kEs2 (P : Params) : List DictEntry := [kE P (fNm 9) 236 (.ref 42), kE P (fNm 10) 244 (.ref 49), kE P (fNm 11) 252 (.ref 56), kE P (fNm 12) 260 (.ref 63), kE P (fNm 13) 266 (.ref 68), kE P (fNm 14) 272 (.ref 73), kE P (fNm 15) 278 (.ref 78), kE P (fNm 16) 284 (.ref 83)]
noncomputable def kEs3 (P : Params) : List DictEntry := [kE P (fNm 17) 290 (.ref 88), kE P (fNm 18) 300 (.ref 95), kE P (fNm 19) 312 (.ref 102), kE P (fNm 20) 326 (.ref 109), kE P "_law_rungs" 340 (.ref 110), kE P (fNm 23) 348 (.ref 117), kE P (fNm 24) 365 (.ref 124), kE P (fNm 25) 377 (.ref 131)]
noncomputable def kEs4 (P : Params) : List DictEntry := [kE P (fNm 26) 383 (.ref 136), kE P (fNm 27) 389 (.ref 141), kE P (fNm 28) 395 (.ref 146), kE P (fNm 29) 401 (.ref 151)]
noncomputable def kNs (P : Params) : Obj := { cls := .type "dict", data := .dict (kEs0 P ++ (kEs1 P ++ (kEs2 P ++ (kEs3 P ++ (kEs4 P))))).toArray 36 }
noncomputable def kT : Obj := { cls := .type "tuple", data := .seq #[.str ("usable") 329, .str ("preference") 330, .str ("own") 331, .str ("path") 332, .str ("origin") 333, .str ("med") 334, .str ("outside") 335, .str ("cost") 336, .str ("id") 337, .str ("clusters") 338, .str ("address") 339] }
noncomputable def kAs : List Nat := [3, 20, 21, 27, 28, 34, 35, 41, 42, 48, 49, 55, 56, 62, 63, 67, 68, 72, 73, 77, 78, 82, 83, 87, 88, 94, 95, 101, 102, 108, 109, 110, 116, 117, 123, 124, 130, 131, 135, 136, 140, 141, 145, 146, 150, 151]
noncomputable def kFs (P : Params) : List Obj := [kNs P, kC 3 193 194 195 4 1 0 0 3 181 200 4 201 (.ref 15) (.ref 16) (.ref 17) (.ref 18) (.ref 19), kF 3 pathsN 187 20, kC 4 203 204 205 12 1 0 0 3 181 209 12 210 (.ref 22) (.ref 23) (.ref 24) (.ref 25) (.ref 26), kF 4 pathsN 187 27, kC 8 222 223 224 22 1 0 0 3 181 226 22 227 (.ref 29) (.ref 30) (.ref 31) (.ref 32) (.ref 33), kF 8 decideN 212 34, kC 9 229 230 231 24 2 0 0 3 181 234 24 235 (.ref 36) (.ref 37) (.ref 38) (.ref 39) (.ref 40), kF 9 decideN 212 41, kC 10 237 238 239 26 2 0 0 3 181 242 26 243 (.ref 43) (.ref 44) (.ref 45) (.ref 46) (.ref 47), kF 10 decideN 212 48, kC 11 245 246 247 28 2 0 0 3 181 250 28 251 (.ref 50) (.ref 51) (.ref 52) (.ref 53) (.ref 54), kF 11 decideN 212 55, kC 12 253 254 255 32 2 0 0 3 181 258 32 259 (.ref 57) (.ref 58) (.ref 59) (.ref 60) (.ref 61), kF 12 decideN 212 62, kC 13 261 262 263 34 2 0 0 3 181 264 34 265 (.ref 64) (.ref 65) (.none) (.none) (.ref 66), kF 13 decideN 212 67, kC 14 267 268 269 37 2 0 0 3 181 270 37 271 (.ref 69) (.ref 70) (.none) (.none) (.ref 71), kF 14 decideN 212 72, kC 15 273 274 275 46 1 0 0 3 181 276 46 277 (.ref 74) (.ref 75) (.none) (.none) (.ref 76), kF 15 decideN 212 77, kC 16 279 280 281 48 3 0 0 3 181 282 48 283 (.ref 79) (.ref 80) (.none) (.none) (.ref 81), kF 16 decideN 212 82, kC 17 285 286 287 68 2 0 0 3 181 288 68 289 (.ref 84) (.ref 85) (.none) (.none) (.ref 86), kF 17 decideN 212 87, kC 18 291 292 293 76 3 0 0 3 181 298 76 299 (.ref 89) (.ref 90) (.ref 91) (.ref 92) (.ref 93), kF 18 decideN 212 94, kC 19 301 302 303 79 4 0 0 3 181 310 79 311 (.ref 96) (.ref 97) (.ref 98) (.ref 99) (.ref 100), kF 19 decideN 212 101, kC 20 313 314 315 84 4 0 0 3 181 324 84 325 (.ref 103) (.ref 104) (.ref 105) (.ref 106) (.ref 107), kF 20 decideN 212 108, kT, kC 23 341 342 343 96 2 0 0 3 181 346 96 347 (.ref 111) (.ref 112) (.ref 113) (.ref 114) (.ref 115), kF 23 law_tg0027_01N 327 116, kC 24 349 350 351 101 3 0 0 3 181 363 101 364 (.ref 118) (.ref 119) (.ref 120) (.ref 121) (.ref 122), kF 24 law_tg0027_01N 327 123, kC 25 366 367 368 109 2 0 0 3 181 375 109 376 (.ref 125) (.ref 126) (.ref 127) (.ref 128) (.ref 129), kF 25 law_tg0027_01N 327 130, kC 26 378 379 380 114 2 0 0 3 181 381 114 382 (.ref 132) (.ref 133) (.none) (.none) (.ref 134), kF 26 law_tg0027_01N 327 135, kC 27 384 385 386 116 3 0 0 3 181 387 116 388 (.ref 137) (.ref 138) (.none) (.none) (.ref 139), kF 27 law_tg0027_01N 327 140, kC 28 390 391 392 123 4 0 0 3 181 393 123 394 (.ref 142) (.ref 143) (.none) (.none) (.ref 144), kF 28 law_tg0027_01N 327 145, kC 29 396 397 398 130 1 0 0 3 181 399 130 400 (.ref 147) (.ref 148) (.none) (.none) (.ref 149), kF 29 law_tg0027_01N 327 150]
noncomputable def KK (P : Params) : Frag := kAs.zip (kFs P)
end Mine
end
section
open PySem PySem.W PyProof.Rows
namespace Mine
noncomputable def KL (P : Params) : Frag := (pre.heap_1 P).filter fun p => kAs.contains p.1
theorem KK_as (P : Params) : kAs = (KK P).map (·.1) := rfl
theorem KK_eq (P : Params) : KK P = KL P := by kernel_rfl
end Mine
end
section
open PySem PySem.W PyProof.Rows
namespace Mine
local macro_rules | `(tactic| k_head) => `(tactic| o_head (kHook KK kAs KK_as))
open_top hd for PySem.Challenge.rw_tg0027_01
theorem hook_eq : kHook KK kAs KK_as = kHook KL kAs (fun P => by rw [KK_as P, KK_eq P]) := by
  have : ∀ (K K' : Params → Frag) (e : ∀ P, kAs = (K P).map (·.1)) (e' : ∀ P, kAs = (K' P).map (·.1)), K = K' → kHook K kAs e = kHook K' kAs e' := by
    rintro K _ e e' rfl; rfl
  exact this _ _ _ _ (funext KK_eq)
end Mine
end

end

section
namespace Mine
open PySem PySem.W PySem.Calls PyProof.Rows

set_option genInjectivity false
set_option genSizeOf false
inductive D where
  | none
  | bool (b : Bool)
  | int (i : Int)
  | str (s : Str)
  | tup (l : List D)
  | lst (l : List D)
  | sd (l : List (Str × D))
  | idt (l : List (Int × D))

noncomputable def Keep (h h' : Heap) : Prop := ∀ b o, h.get? b = some o → h'.get? b = some o
theorem Keep.refl (h : Heap) : Keep h h := fun _ _ e => e
theorem Keep.trans {h₁ h₂ h₃ : Heap} (x : Keep h₁ h₂) (y : Keep h₂ h₃) : Keep h₁ h₃ := fun b o e => y b o (x b o e)

structure S0 where
  prog : Program
  w : World
  K : Frag
  mg : Str → Option Value
  mb : Str → Option Value

mutual
inductive Rd (S : S0) (U : List Addr) (h : Heap) : Value → D → Prop
  | none : Rd S U h .none .none
  | bool (b) : Rd S U h (.bool b) (.bool b)
  | int (i t) : Rd S U h (.int i t) (.int i)
  | str (x t) : Rd S U h (.str x t) (.str x)
  | tup {a o vs n ds} : a ∉ U → h.get? a = some o → o.cls = .type "tuple" → o.data = .seq vs n → RdA S U h vs.toList ds → Rd S U h (.ref a) (.tup ds)
  | lst {a o vs n ds} : a ∉ U → h.get? a = some o → (o.cls = .type "list" ∧ o.dict = none) → o.data = .seq vs n → RdA S U h vs.toList ds → Rd S U h (.ref a) (.lst ds)
  | sd {a kvs l ds} : a ∉ U → (a == sysModules) = false → h.DictOf (strKind S.prog S.w) a kvs → l.map (·.1) = kvs.map (·.1) → l.map (·.2) = ds → RdA S U h (kvs.map (·.2)) ds → Rd S U h (.ref a) (.sd l)
  | idt {a kvs l ds} : a ∉ U → (a == sysModules) = false → l ≠ [] → h.DictOf (intKind S.prog S.w) a kvs → l.map (·.1) = kvs.map (·.1) → l.map (·.2) = ds → RdA S U h (kvs.map (·.2)) ds → Rd S U h (.ref a) (.idt l)
inductive RdA (S : S0) (U : List Addr) (h : Heap) : List Value → List D → Prop
  | nil : RdA S U h [] []
  | cons {v vs d ds} : Rd S U h v d → RdA S U h vs ds → RdA S U h (v :: vs) (d :: ds)
end

/-! what a value is, from its data alone -/
inductive NoneI : Value → Prop
  | none : NoneI .none
inductive BoolI (b : Bool) : Value → Prop
  | bool : BoolI b (.bool b)
inductive IntI (i : Int) : Value → Prop
  | int (t) : IntI i (.int i t)
inductive StrI (x : Str) : Value → Prop
  | str (t) : StrI x (.str x t)
inductive TupI (S : S0) (U : List Addr) (h : Heap) (ds : List D) : Value → Prop
  | tup {a o vs n} : a ∉ U → h.get? a = some o → o.cls = .type "tuple" → o.data = .seq vs n → RdA S U h vs.toList ds → TupI S U h ds (.ref a)
inductive LstI (S : S0) (U : List Addr) (h : Heap) (ds : List D) : Value → Prop
  | lst {a o vs n} : a ∉ U → h.get? a = some o → (o.cls = .type "list" ∧ o.dict = none) → o.data = .seq vs n → RdA S U h vs.toList ds → LstI S U h ds (.ref a)
inductive SdI (S : S0) (U : List Addr) (h : Heap) (l : List (Str × D)) : Value → Prop
  | sd {a kvs ds} : a ∉ U → (a == sysModules) = false → h.DictOf (strKind S.prog S.w) a kvs → l.map (·.1) = kvs.map (·.1) → l.map (·.2) = ds → RdA S U h (kvs.map (·.2)) ds → SdI S U h l (.ref a)
inductive IdtI (S : S0) (U : List Addr) (h : Heap) (l : List (Int × D)) : Value → Prop
  | idt {a kvs ds} : a ∉ U → (a == sysModules) = false → l ≠ [] → h.DictOf (intKind S.prog S.w) a kvs → l.map (·.1) = kvs.map (·.1) → l.map (·.2) = ds → RdA S U h (kvs.map (·.2)) ds → IdtI S U h l (.ref a)
noncomputable def RdI (S : S0) (U : List Addr) (h : Heap) (d : D) : Value → Prop := match d with
  | .none => NoneI
  | .bool b => BoolI b
  | .int i => IntI i
  | .str x => StrI x
  | .tup ds => TupI S U h ds
  | .lst ds => LstI S U h ds
  | .sd l => SdI S U h l
  | .idt l => IdtI S U h l
theorem Rd.inv {S : S0} {U : List Addr} {h : Heap} {v : Value} {d : D} (r : Rd S U h v d) : RdI S U h d v := by
  cases r with
  | none => exact NoneI.none
  | bool b => exact BoolI.bool
  | int i t => exact IntI.int t
  | str x t => exact StrI.str t
  | tup a b c d e => exact TupI.tup a b c d e
  | lst a b c d e => exact LstI.lst a b c d e
  | sd a b c d e f => exact SdI.sd a b c d e f
  | idt a b c d e f g => exact IdtI.idt a b c d e f g
inductive NilI : List Value → Prop
  | nil : NilI []
inductive ConsI (S : S0) (U : List Addr) (h : Heap) (d : D) (ds : List D) : List Value → Prop
  | cons {v vs} : Rd S U h v d → RdA S U h vs ds → ConsI S U h d ds (v :: vs)
noncomputable def RdAI (S : S0) (U : List Addr) (h : Heap) (ds : List D) : List Value → Prop := match ds with
  | [] => NilI
  | d :: ds => ConsI S U h d ds
theorem RdA.inv {S : S0} {U : List Addr} {h : Heap} {vs : List Value} {ds : List D} (r : RdA S U h vs ds) : RdAI S U h ds vs := by
  cases r with
  | nil => exact NilI.nil
  | cons a b => exact ConsI.cons a b

section
variable {S : S0} {U U' : List Addr} {h h' : Heap}
theorem Rd.monoB (hk : ∀ b o, b ∉ U → h.get? b = some o → h'.get? b = some o) (hu : ∀ b o, h.get? b = some o → b ∉ U → b ∉ U') : (∀ {v : Value} {d : D}, Rd S U h v d → Rd S U' h' v d) ∧ ∀ {vs : List Value} {ds : List D}, RdA S U h vs ds → RdA S U' h' vs ds := by
  have hdu : ∀ {prog : Program} {w : World} {K : Type} [DecidableEq K] {knd : KeyKind prog w K} {a : Addr} {kvs : List (K × Value)}, a ∉ U → h.DictOf knd a kvs → a ∉ U' := fun ha hd => by obtain ⟨o, es, ep, ho, _⟩ := hd; exact hu _ _ ho ha
  constructor
  · intro v d r
    exact Rd.rec (motive_1 := fun v d _ => Rd S U' h' v d) (motive_2 := fun vs ds _ => RdA S U' h' vs ds) .none (fun b => .bool b) (fun i t => .int i t) (fun x t => .str x t)
      (fun ha ho hc hd _ r => .tup (hu _ _ ho ha) (hk _ _ ha ho) hc hd r) (fun ha ho hc hd _ r => .lst (hu _ _ ho ha) (hk _ _ ha ho) hc hd r)
      (fun ha hs hd h1 h2 _ r => .sd (hdu ha hd) hs (hd.at fun o e => hk _ o ha e) h1 h2 r) (fun ha hs hne hd h1 h2 _ r => .idt (hdu ha hd) hs hne (hd.at fun o e => hk _ o ha e) h1 h2 r)
      .nil (fun _ _ r rs => .cons r rs) r
  · intro vs ds r
    exact RdA.rec (motive_1 := fun v d _ => Rd S U' h' v d) (motive_2 := fun vs ds _ => RdA S U' h' vs ds) .none (fun b => .bool b) (fun i t => .int i t) (fun x t => .str x t)
      (fun ha ho hc hd _ r => .tup (hu _ _ ho ha) (hk _ _ ha ho) hc hd r) (fun ha ho hc hd _ r => .lst (hu _ _ ho ha) (hk _ _ ha ho) hc hd r)
      (fun ha hs hd h1 h2 _ r => .sd (hdu ha hd) hs (hd.at fun o e => hk _ o ha e) h1 h2 r) (fun ha hs hne hd h1 h2 _ r => .idt (hdu ha hd) hs hne (hd.at fun o e => hk _ o ha e) h1 h2 r)
      .nil (fun _ _ r rs => .cons r rs) r
theorem Rd.mono (hk : ∀ b o, b ∉ U → h.get? b = some o → h'.get? b = some o) (hu : ∀ b o, h.get? b = some o → b ∉ U → b ∉ U') {v : Value} {d : D} (r : Rd S U h v d) : Rd S U' h' v d := (Rd.monoB hk hu).1 r
theorem RdA.mono (hk : ∀ b o, b ∉ U → h.get? b = some o → h'.get? b = some o) (hu : ∀ b o, h.get? b = some o → b ∉ U → b ∉ U') {vs : List Value} {ds : List D} (r : RdA S U h vs ds) : RdA S U' h' vs ds := (Rd.monoB hk hu).2 r

theorem Rd.keep {v : Value} {d : D} (r : Rd S U h v d) (k : Keep h h') : Rd S U h' v d := r.mono (fun b o _ e => k b o e) fun _ _ _ n => n
theorem RdA.keep {vs : List Value} {ds : List D} (r : RdA S U h vs ds) (k : Keep h h') : RdA S U h' vs ds := r.mono (fun b o _ e => k b o e) fun _ _ _ n => n
theorem Rd.less {v : Value} {d : D} (r : Rd S U h v d) (k : ∀ a ∈ U', a ∈ U) : Rd S U' h v d := r.mono (fun _ _ _ e => e) fun _ _ _ n q => n (k _ q)
theorem RdA.less {vs : List Value} {ds : List D} (r : RdA S U h vs ds) (k : ∀ a ∈ U', a ∈ U) : RdA S U' h vs ds := r.mono (fun _ _ _ e => e) fun _ _ _ n q => n (k _ q)
theorem RdA.length {vs : List Value} {ds : List D} (r : RdA S U h vs ds) : vs.length = ds.length := by
  induction vs generalizing ds with
  | nil => cases r; rfl
  | cons v vs ih => cases r with | cons r1 r2 => simp [ih r2]
theorem RdA.get {vs : List Value} {ds : List D} (r : RdA S U h vs ds) {i : Nat} {d : D} (e : ds[i]? = some d) : ∃ v, vs[i]? = some v ∧ Rd S U h v d := by
  induction vs generalizing ds i with
  | nil => cases r; simp at e
  | cons v vs ih =>
    cases r with
    | cons r1 r2 =>
      cases i with
      | zero => simp at e; subst e; exact ⟨v, rfl, r1⟩
      | succ i => simp at e; exact ih r2 e
theorem RdA.get' {vs : List Value} {ds : List D} (r : RdA S U h vs ds) {i : Nat} {v : Value} (e : vs[i]? = some v) : ∃ d, ds[i]? = some d ∧ Rd S U h v d := by
  induction vs generalizing ds i with
  | nil => simp at e
  | cons v vs ih =>
    cases r with
    | cons r1 r2 =>
      cases i with
      | zero => simp at e; subst e; exact ⟨_, rfl, r1⟩
      | succ i => simp at e; exact ih r2 e
theorem RdA.append {vs vs' : List Value} {ds ds' : List D} (r : RdA S U h vs ds) (r' : RdA S U h vs' ds') : RdA S U h (vs ++ vs') (ds ++ ds') := by
  induction vs generalizing ds with
  | nil => cases r; exact r'
  | cons v vs ih => cases r with | cons r1 r2 => exact .cons r1 (ih r2)
theorem RdA.take {vs : List Value} {ds : List D} (r : RdA S U h vs ds) (n : Nat) : RdA S U h (vs.take n) (ds.take n) := by
  induction vs generalizing ds n with
  | nil => cases r; simpa using RdA.nil
  | cons v vs ih =>
    cases r with
    | cons r1 r2 => cases n with
      | zero => exact .nil
      | succ n => exact .cons r1 (ih r2 n)
theorem RdA.drop {vs : List Value} {ds : List D} (r : RdA S U h vs ds) (n : Nat) : RdA S U h (vs.drop n) (ds.drop n) := by
  induction vs generalizing ds n with
  | nil => cases r; simpa using RdA.nil
  | cons v vs ih =>
    cases r with
    | cons r1 r2 => cases n with
      | zero => exact .cons r1 r2
      | succ n => exact ih r2 n
end

/-- what the top's run left, and is kept -/
structure S0.Ok (S : S0) (h : Heap) : Prop where
  X : S.K.In h
  g : h.Ns mainGlobals S.mg
  b : h.Ns builtinsNs S.mb
  nolimit : h.NoLimit
  builtins : ∀ x : Str, x ≠ "__name__" → S.mb x = bootBuiltins x
theorem S0.Ok.keep {S : S0} {h h' : Heap} (x : S.Ok h) (k : Keep h h') : S.Ok h' := ⟨x.X.keeps k, x.g.keeps k, x.b.keeps k, x.nolimit.keeps k, x.builtins⟩

noncomputable def AOk (k : Nat) (A : Around) : Prop := A.handled = none ∧ A.depth + k < recursionLimit ∧ A.units + 8 * k + 200 < cLine

structure Fm where
  env : Env
  g₀ : Heap
  U₀ : List Addr
  k : Nat
  /-- something of an outer frame's may be changed -/
  bor : Bool := false

inductive LV where
  | val (d : D)
  | own (a : Addr) (d : D)

structure Dy where
  /-- struck out of what is read -/
  U : List Addr
  /-- what the frame may change -/
  M : List Addr
  look : List (Str × LV)

noncomputable abbrev lobj (vs : List Value) (n : Nat) : Obj := { cls := .type "list", data := .seq vs.toArray n }
noncomputable def KeepM (M : List Addr) (h h' : Heap) : Prop := ∀ b o, b ∉ M → h.get? b = some o → h'.get? b = some o
theorem Keep.m {M : List Addr} {h h' : Heap} (k : Keep h h') : KeepM M h h' := fun b o _ e => k b o e

noncomputable def VarAt (env : Env) (h : Heap) (x : Str) (v : Value) : Prop :=
  (env.kindOf x = some .local ∧ ∃ m, h.Ns env.locals m ∧ m x = some v) ∨
  ((env.kindOf x = some .cell ∨ env.kindOf x = some .free) ∧ (x == ("__classdict__" : Str)) = false ∧ ∃ c, env.cells.lookup x = some c ∧ h.IsCell c (some v))

/-- an object of the frame's own, and what its parts read as -/
inductive OwnAt (S : S0) (U : List Addr) (h : Heap) (a : Addr) : D → Prop
  | lst {vs n ds} : h.get? a = some (lobj vs n) → RdA S U h vs ds → OwnAt S U h a (.lst ds)
  | sd {kvs l ds} : (a == sysModules) = false → h.DictOf (strKind S.prog S.w) a kvs → l.map (·.1) = kvs.map (·.1) → l.map (·.2) = ds → RdA S U h (kvs.map (·.2)) ds → OwnAt S U h a (.sd l)
  | idt {kvs l ds} : (a == sysModules) = false → h.DictOf (intKind S.prog S.w) a kvs → l.map (·.1) = kvs.map (·.1) → l.map (·.2) = ds → RdA S U h (kvs.map (·.2)) ds → OwnAt S U h a (.idt l)
  /-- a list whose object's other parts are not known: written as a tuple -/
  | box {vs ds} : h.IsList a vs → RdA S U h vs.toList ds → OwnAt S U h a (.tup ds)

noncomputable def LvOk (S : S0) (M U : List Addr) (L : Addr) (h : Heap) (v : Value) : LV → Prop
  | .val d => Rd S U h v d
  | .own a d => v = .ref a ∧ a ∈ M ∧ a ≠ L ∧ OwnAt S U h a d

structure Ok (S : S0) (f : Fm) (y : Dy) (h : Heap) : Prop where
  top0 : S.Ok f.g₀
  keep : Keep f.g₀ h
  live : ∀ a ∈ y.U, ∃ o, h.get? a = some o
  mU : ∀ a ∈ y.M, a ∈ y.U
  mNew : ∀ a ∈ y.M, f.g₀.objs.size ≤ a
  uSub : ∀ a ∈ f.U₀, a ∈ y.U ∧ (f.bor = false → a < f.g₀.objs.size)
  kind : f.env.scope.kind = .function
  glob : f.env.globals = mainGlobals
  blt : f.env.builtins = builtinsNs
  locM : f.env.locals ∈ y.M
  ns : ∃ m, h.Ns f.env.locals m
  cells : ∀ x c, f.env.cells.lookup x = some c → c ∈ y.M ∧ ∃ v, h.IsCell c v
  cellsApart : ∀ x x' c, f.env.cells.lookup x = some c → f.env.cells.lookup x' = some c → x = x'
  vars : ∀ x lv, y.look.lookup x = some lv → ∃ v, VarAt f.env h x v ∧ LvOk S y.M y.U f.env.locals h v lv
  apart : ∀ x x' a d d', y.look.lookup x = some (.own a d) → y.look.lookup x' = some (.own a d') → x = x'

section
variable {S : S0} {f : Fm} {y : Dy} {h h' : Heap}
theorem VarAt.keep {env : Env} {x : Str} {v : Value} (r : VarAt env h x v) (k : Keep h h') : VarAt env h' x v := by
  rcases r with ⟨a, m, b, c⟩ | ⟨a, q, c, b, d⟩
  · exact .inl ⟨a, m, b.keeps k, c⟩
  · exact .inr ⟨a, q, c, b, d.keeps k⟩
theorem OwnAt.mono {U U' : List Addr} {h h' : Heap} {a : Addr} {d : D} (r : OwnAt S U h a d) (ha : ∀ o, h.get? a = some o → h'.get? a = some o) (hk : ∀ b o, b ∉ U → h.get? b = some o → h'.get? b = some o) (hu : ∀ b o, h.get? b = some o → b ∉ U → b ∉ U') : OwnAt S U' h' a d := by
  cases r with
  | lst g r => exact .lst (ha _ g) (r.mono hk hu)
  | sd hs hd h1 h2 r => exact .sd hs (hd.at fun o e => ha o e) h1 h2 (r.mono hk hu)
  | idt hs hd h1 h2 r => exact .idt hs (hd.at fun o e => ha o e) h1 h2 (r.mono hk hu)
  | box g r => obtain ⟨o, e, q⟩ := g; exact .box ⟨o, ha _ e, q⟩ (r.mono hk hu)
theorem OwnAt.keep {U : List Addr} {h h' : Heap} {a : Addr} {d : D} (r : OwnAt S U h a d) (k : Keep h h') : OwnAt S U h' a d := r.mono (fun o e => k a o e) (fun b o _ e => k b o e) fun _ _ _ n => n
theorem OwnAt.less {U U' : List Addr} {h : Heap} {a : Addr} {d : D} (r : OwnAt S U h a d) (k : ∀ a ∈ U', a ∈ U) : OwnAt S U' h a d := r.mono (fun o e => e) (fun b o _ e => e) fun _ _ _ n q => n (k _ q)
theorem OwnAt.live {U : List Addr} {h : Heap} {a : Addr} {d : D} (r : OwnAt S U h a d) : ∃ o, h.get? a = some o := by
  cases r with
  | lst g r => exact ⟨_, g⟩
  | sd hs hd h1 h2 r => obtain ⟨o, es, ep, ho, _⟩ := hd; exact ⟨o, ho⟩
  | idt hs hd h1 h2 r => obtain ⟨o, es, ep, ho, _⟩ := hd; exact ⟨o, ho⟩
  | box g r => obtain ⟨o, e, q⟩ := g; exact ⟨o, e⟩
theorem OwnAt.ne_cell {U : List Addr} {h : Heap} {a c : Addr} {d : D} {v : Option Value} (r : OwnAt S U h a d) (n : h.IsCell c v) : a ≠ c := fun e => by
  obtain ⟨o', ho', hd'⟩ := n
  cases r with
  | lst g r => rw [e, ho'] at g; cases g; cases hd'
  | sd hs hd h1 h2 r => obtain ⟨o, es, ep, ho, _, hd, _⟩ := hd; rw [e, ho'] at ho; cases ho; rw [hd'] at hd; cases hd
  | idt hs hd h1 h2 r => obtain ⟨o, es, ep, ho, _, hd, _⟩ := hd; rw [e, ho'] at ho; cases ho; rw [hd'] at hd; cases hd
  | box g r => obtain ⟨o, g, _, n, hd⟩ := g; rw [e, ho'] at g; cases g; rw [hd'] at hd; cases hd
theorem LvOk.keep {M U : List Addr} {L : Addr} {v : Value} {lv : LV} (r : LvOk S M U L h v lv) (k : Keep h h') : LvOk S M U L h' v lv := by
  cases lv with
  | val d => exact Rd.keep r k
  | own a ds => obtain ⟨e, u, n, q⟩ := r; exact ⟨e, u, n, q.keep k⟩
theorem Ok.top (x : Ok S f y h) : S.Ok h := x.top0.keep x.keep
theorem Ok.keeps (x : Ok S f y h) (k : Keep h h') : Ok S f y h' where
  top0 := x.top0
  keep := x.keep.trans k
  live := fun a ha => let ⟨o, e⟩ := x.live a ha; ⟨o, k a o e⟩
  mU := x.mU
  mNew := x.mNew
  uSub := x.uSub
  kind := x.kind
  glob := x.glob
  blt := x.blt
  locM := x.locM
  ns := let ⟨m, q⟩ := x.ns; ⟨m, q.keeps k⟩
  cells := fun n c e => let ⟨a, v, b⟩ := x.cells n c e; ⟨a, v, b.keeps k⟩
  cellsApart := x.cellsApart
  vars := fun n lv e => let ⟨v, a, b⟩ := x.vars n lv e; ⟨v, a.keep k, b.keep k⟩
  apart := x.apart
end
end Mine

end

section
namespace Mine
open PySem PySem.W PySem.Calls PyProof.Rows

noncomputable def Ev (S : S0) (f : Fm) (y : Dy) (e : Expr) (d : D) : Prop :=
  ∀ (A : Around) (s : Shared) (Q E : Value → Shared → Prop), AOk f.k A → Ok S f y s.heap →
    (∀ v h' tk, Keep s.heap h' → Rd S y.U h' v d → Q v { s with heap := h', toks := tk }) → wpAny (model S.prog S.w) A (eval e f.env) Q E s
noncomputable def EvT (S : S0) (f : Fm) (y : Dy) (e : Expr) (b : Bool) : Prop :=
  ∀ (A : Around) (s : Shared) (Q : Bool → Shared → Prop) (E : Value → Shared → Prop), AOk f.k A → Ok S f y s.heap →
    (∀ h' tk, Keep s.heap h' → Q b { s with heap := h', toks := tk }) → wpAny (model S.prog S.w) A (isTrue e f.env (eval e f.env)) Q E s
/-- a list of arguments, or of a display's items -/
noncomputable def EvL (S : S0) (f : Fm) (y : Dy) (es : List Expr) (ds : List D) : Prop :=
  ∀ (pos : Pos) (A : Around) (s : Shared) (Q : List Value → Shared → Prop) (E : Value → Shared → Prop), AOk f.k A → Ok S f y s.heap →
    (∀ vs h' tk, Keep s.heap h' → RdA S y.U h' vs ds → Q vs { s with heap := h', toks := tk }) → wpAny (model S.prog S.w) A (spliced (backTo pos (starEach es f.env))) Q E s

noncomputable def CmpR (S : S0) (op : CmpOp) (da db : D) (b : Bool) : Prop :=
  ∀ (U : List Addr) (A : Around) (s : Shared) (v1 v2 : Value) (Q E : Value → Shared → Prop), A.handled = none → A.units + 200 < cLine → Rd S U s.heap v1 da → Rd S U s.heap v2 db →
    Q (.bool b) s → wpAny (model S.prog S.w) A (compareOp op v1 v2) Q E s
noncomputable def BinR (S : S0) (op : Operator) (da db d : D) : Prop :=
  ∀ (U : List Addr) (A : Around) (s : Shared) (v1 v2 : Value) (Q E : Value → Shared → Prop), A.handled = none → A.units + 200 < cLine → (∀ a ∈ U, ∃ o, s.heap.get? a = some o) → Rd S U s.heap v1 da → Rd S U s.heap v2 db →
    (∀ v h' tk, Keep s.heap h' → Rd S U h' v d → Q v { s with heap := h', toks := tk }) → wpAny (model S.prog S.w) A (binaryOp op v1 v2) Q E s

section
variable {S : S0} {f : Fm} {y : Dy}
theorem AOk.units {k : Nat} {A : Around} (h : AOk k A) : A.units + 200 < cLine := by have := h.2.2; omega

theorem Ev.int {i k pos} : Ev S f y (.Constant (.int i) k pos) (.int i) := fun _ _ _ _ _ _ hq => wpAny_Constant_int (hq _ _ _ (Keep.refl _) (.int _ _))
theorem Ev.cstr {x k pos} : Ev S f y (.Constant (.str x) k pos) (.str x) := fun _ _ _ _ _ _ hq => wpAny_Constant_str (hq _ _ _ (Keep.refl _) (.str _ _))
theorem Ev.cbool {b k pos} : Ev S f y (.Constant (.bool b) k pos) (.bool b) := fun _ s _ _ _ _ hq => wpAny_Constant_bool (hq _ s.heap s.toks (Keep.refl _) (.bool _))
theorem Ev.cnone {k pos} : Ev S f y (.Constant .none k pos) .none := fun _ s _ _ _ _ hq => wpAny_Constant_none (hq _ s.heap s.toks (Keep.refl _) .none)

theorem load_var {x : Str} {v : Value} {pos : Pos} {A : Around} {s : Shared} {Q E : Value → Shared → Prop} (hk : f.env.scope.kind = .function) (hv : VarAt f.env s.heap x v)
    (hd : (x == ("__debug__" : Str)) = false) (h : Q v s) : wpAny (model S.prog S.w) A (eval (.Name x pos) f.env) Q E s := by
  rcases hv with ⟨a, m, b, c⟩ | ⟨a | a, q, c, b, d⟩
  · exact wpAny_Name (wpAny_loadName_local hk a b c h) hd
  · exact wpAny_Name (wpAny_loadName_cell hk a b d h) hd
  · exact wpAny_Name (wpAny_loadName_free hk a b d h q) hd
theorem Ev.name {x : Str} {d : D} {pos : Pos} (e : y.look.lookup x = some (.val d)) (hd : (x == ("__debug__" : Str)) = false) : Ev S f y (.Name x pos) d := by
  intro A s Q E hA ok hq
  obtain ⟨v, hv, r⟩ := ok.vars x _ e
  exact load_var ok.kind hv hd (hq v s.heap s.toks (Keep.refl _) r)
/-- a name of the module's own, that is an int -/
theorem Ev.globInt {x : Str} {i : Int} {t : Tok} {pos : Pos} (hx : f.env.kindOf x = some .globalImplicit) (hv : nsIn S.K mainGlobals x = some (some (.int i t))) (hd : (x == ("__debug__" : Str)) = false) : Ev S f y (.Name x pos) (.int i) := by
  intro A s Q E hA ok hq
  exact Name_function_global ok.kind hx (loadGlobal_global (env := f.env) (by rw [ok.glob]; exact ok.top.g) (mg_of ok.top.X ok.top.g hv) (hq _ s.heap s.toks (Keep.refl _) (.int _ _))) hd

theorem EvL.nil : EvL S f y [] [] := fun _ _ s _ _ _ _ hq => spliced_nil (hq [] s.heap s.toks (Keep.refl _) .nil)
theorem EvL.cons {e : Expr} {es : List Expr} {d : D} {ds : List D} (h : Ev S f y e d) (hs : EvL S f y es ds) (he : starEach (e :: es) f.env = (false, eval e f.env) :: starEach es f.env) : EvL S f y (e :: es) (d :: ds) := by
  intro pos A s Q E hA ok hq
  rw [he]
  show wpAny _ A (spliced ((false, eval e f.env) :: backTo pos (starEach es f.env))) Q E s
  unfold spliced
  refine wpAny_bind (h A s _ _ hA ok fun v h1 t1 k1 r1 => ?_)
  simp only [Bool.false_eq_true, if_false]
  refine wpAny_bind (wpAny_pure (wpAny_bind (wpAny_holding ?_)))
  refine hs pos A _ _ _ hA (ok.keeps k1) fun vs h2 t2 k2 r2 => wpAny_pure ?_
  exact hq _ h2 t2 (k1.trans k2) (.cons (r1.keep k2) r2)

theorem Keep.push (h : Heap) (o : Obj) : Keep h (h.push o) := fun _ _ e => Heap.get?_push_of_some _ e
theorem fresh_notin {U : List Addr} {h : Heap} (live : ∀ a ∈ U, ∃ o, h.get? a = some o) : h.objs.size ∉ U := fun q => let ⟨_, e⟩ := live _ q; Nat.lt_irrefl _ (Heap.lt_size e)
theorem RdA.short {U : List Addr} {h : Heap} {vs : List Value} {ds : List D} (r : RdA S U h vs ds) (hz : ds.length ≤ 1000) : vs.length ≤ sizeLine := by rw [r.length, sizeLine_eq]; omega

theorem Ev.tuple {es : List Expr} {ds : List D} {k pos} (h : EvL S f y es ds) (hz : ds.length ≤ 1000) : Ev S f y (.Tuple es k pos) (.tup ds) := by
  intro A s Q E hA ok hq
  refine Tuple_ (h pos A s _ _ hA ok fun vs h1 t1 k1 r1 => ?_)
  refine wpAny_newObj_type ?_ (by show vs.toArray.size ≤ sizeLine; rw [List.size_toArray]; exact r1.short hz)
  have live := (ok.keeps k1).live
  exact hq _ _ t1 (k1.trans (Keep.push _ _)) (.tup (fresh_notin live) (Heap.get?_push_size _ rfl) rfl rfl (by simpa using r1.keep (Keep.push _ _)))
theorem Ev.list {es : List Expr} {ds : List D} {pos} (h : EvL S f y es ds) (hz : ds.length ≤ 1000) : Ev S f y (.List es pos) (.lst ds) := by
  intro A s Q E hA ok hq
  refine List_ (h pos A s _ _ hA ok fun vs h1 t1 k1 r1 => ?_)
  refine wpAny_newObj_type ?_ (by show vs.toArray.size ≤ sizeLine; rw [List.size_toArray]; exact r1.short hz)
  have live := (ok.keeps k1).live
  exact hq _ _ t1 (k1.trans (Keep.push _ _)) (.lst (fresh_notin live) (Heap.get?_push_size _ rfl) ⟨rfl, rfl⟩ rfl (by simpa using r1.keep (Keep.push _ _)))

theorem Ev.binop {l r : Expr} {op : Operator} {pos} {da db d : D} (h1 : Ev S f y l da) (h2 : Ev S f y r db) (hb : BinR S op da db d) : Ev S f y (.BinOp l op r pos) d := by
  intro A s Q E hA ok hq
  refine wpAny_BinOp (h1 A s _ _ hA ok fun v1 g1 t1 k1 r1 => h2 A _ _ _ hA (ok.keeps k1) fun v2 g2 t2 k2 r2 => ?_)
  exact hb y.U A _ v1 v2 Q E hA.1 hA.units ((ok.keeps k1).keeps k2).live (r1.keep k2) r2 fun v g3 t3 k3 r3 => hq v g3 t3 ((k1.trans k2).trans k3) r3
theorem Ev.cmp {l r : Expr} {op : CmpOp} {pos} {da db : D} {b : Bool} (h1 : Ev S f y l da) (h2 : Ev S f y r db) (hc : CmpR S op da db b) (hm : behindInMarks op r = false) : Ev S f y (.Compare l [op] [r] pos) (.bool b) := by
  intro A s Q E hA ok hq
  refine wpAny_Compare1 (h1 A s _ _ hA ok fun v1 g1 t1 k1 r1 => h2 A _ _ _ hA (ok.keeps k1) fun v2 g2 t2 k2 r2 => ?_) hm
  exact hc y.U A _ v1 v2 Q E hA.1 hA.units (r1.keep k2) r2 (hq _ g2 t2 (k1.trans k2) (.bool b))
theorem EvT.cmp {l r : Expr} {op : CmpOp} {pos} {da db : D} {b : Bool} (h1 : Ev S f y l da) (h2 : Ev S f y r db) (hc : CmpR S op da db b) (hm : behindInMarks op r = false) : EvT S f y (.Compare l [op] [r] pos) b := by
  intro A s Q E hA ok hq
  refine wpAny_isTrue_Compare1 (h1 A s _ _ hA ok fun v1 g1 t1 k1 r1 => h2 A _ _ _ hA (ok.keeps k1) fun v2 g2 t2 k2 r2 => ?_) hm
  exact hc y.U A _ v1 v2 _ E hA.1 hA.units (r1.keep k2) r2 (wpAny_truthy_bool (hq g2 t2 (k1.trans k2)))
/-- a test that is no Compare, not, and, or, if -/
theorem EvT.plain {e : Expr} {b : Bool} (h : Ev S f y e (.bool b)) (he : isTrue e f.env (eval e f.env) = (do let v ← eval e f.env; standAt e.pos; holding [v] (truthy v))) : EvT S f y e b := by
  intro A s Q E hA ok hq
  refine isTrue_plain (h A s _ _ hA ok fun v1 g1 t1 k1 r1 => ?_) he
  replace r1 := r1.inv
  cases r1
  exact wpAny_truthy_bool (hq g1 t1 k1)
theorem EvT.not {e : Expr} {b : Bool} {pos} (h : EvT S f y e b) : EvT S f y (.UnaryOp .Not e pos) (!b) := fun A s Q E hA ok hq => isTrue_not (h A s _ _ hA ok fun g t k => hq g t k)
theorem EvT.andNil {pos} : EvT S f y (.BoolOp .And [] pos) true := fun _ s _ _ _ _ hq => isTrue_and_nil (hq s.heap s.toks (Keep.refl _))
theorem EvT.orNil {pos} : EvT S f y (.BoolOp .Or [] pos) false := fun _ s _ _ _ _ hq => isTrue_or_nil (hq s.heap s.toks (Keep.refl _))
theorem EvT.andCons {e : Expr} {es : List Expr} {pos} {a b : Bool} (h : EvT S f y e a) (hs : a = true → EvT S f y (.BoolOp .And es pos) b) : EvT S f y (.BoolOp .And (e :: es) pos) (a && b) := by
  intro A s Q E hA ok hq
  refine isTrue_and (h A s _ _ hA ok fun g t k => ?_)
  cases a with
  | false => exact hq g t k
  | true => exact hs rfl A _ _ _ hA (ok.keeps k) fun g2 t2 k2 => hq g2 t2 (k.trans k2)
theorem EvT.orCons {e : Expr} {es : List Expr} {pos} {a b : Bool} (h : EvT S f y e a) (hs : a = false → EvT S f y (.BoolOp .Or es pos) b) : EvT S f y (.BoolOp .Or (e :: es) pos) (a || b) := by
  intro A s Q E hA ok hq
  refine isTrue_or (h A s _ _ hA ok fun g t k => ?_)
  cases a with
  | true => exact hq g t k
  | false => exact hs rfl A _ _ _ hA (ok.keeps k) fun g2 t2 k2 => hq g2 t2 (k.trans k2)
theorem Ev.not {e : Expr} {b : Bool} {pos} (h : Ev S f y e (.bool b)) : Ev S f y (.UnaryOp .Not e pos) (.bool (!b)) := by
  intro A s Q E hA ok hq
  refine UnaryOp_ (h A s _ _ hA ok fun v1 g1 t1 k1 r1 => not_of ?_)
  replace r1 := r1.inv
  cases r1
  exact wpAny_truthy_bool (hq _ g1 t1 k1 (.bool _))
theorem Ev.boolOne {op : BoolOp} {e : Expr} {pos} {d : D} (h : Ev S f y e d) : Ev S f y (.BoolOp op [e] pos) d := fun A s Q E hA ok hq => BoolOp_one (h A s Q E hA ok hq)
theorem Ev.and {e e' : Expr} {es : List Expr} {pos} {a b : Bool} (h : Ev S f y e (.bool a)) (hs : a = true → Ev S f y (.BoolOp .And (e' :: es) pos) (.bool b)) : Ev S f y (.BoolOp .And (e :: e' :: es) pos) (.bool (a && b)) := by
  intro A s Q E hA ok hq
  refine BoolOp_and (h A s _ _ hA ok fun v1 g1 t1 k1 r1 => ?_)
  replace r1 := r1.inv
  cases r1
  refine wpAny_truthy_bool ?_
  cases a with
  | false => exact hq _ g1 t1 k1 (.bool _)
  | true => exact hs rfl A _ _ _ hA (ok.keeps k1) fun v g2 t2 k2 r2 => hq v g2 t2 (k1.trans k2) r2
theorem Ev.or {e e' : Expr} {es : List Expr} {pos} {a b : Bool} (h : Ev S f y e (.bool a)) (hs : a = false → Ev S f y (.BoolOp .Or (e' :: es) pos) (.bool b)) : Ev S f y (.BoolOp .Or (e :: e' :: es) pos) (.bool (a || b)) := by
  intro A s Q E hA ok hq
  refine BoolOp_or (h A s _ _ hA ok fun v1 g1 t1 k1 r1 => ?_)
  replace r1 := r1.inv
  cases r1
  refine wpAny_truthy_bool ?_
  cases a with
  | true => exact hq _ g1 t1 k1 (.bool _)
  | false => exact hs rfl A _ _ _ hA (ok.keeps k1) fun v g2 t2 k2 r2 => hq v g2 t2 (k1.trans k2) r2
theorem Ev.ifexp {t e1 e2 : Expr} {pos} {b : Bool} {d : D} (h : EvT S f y t b) (h1 : b = true → Ev S f y e1 d) (h2 : b = false → Ev S f y e2 d) : Ev S f y (.IfExp t e1 e2 pos) d := by
  intro A s Q E hA ok hq
  refine IfExp_ (h A s _ _ hA ok fun g1 t1 k1 => ?_)
  cases b with
  | true => exact h1 rfl A _ _ _ hA (ok.keeps k1) fun v g2 t2 k2 r2 => hq v g2 t2 (k1.trans k2) r2
  | false => exact h2 rfl A _ _ _ hA (ok.keeps k1) fun v g2 t2 k2 r2 => hq v g2 t2 (k1.trans k2) r2
end

section
variable {S : S0}
theorem CmpR.eqInt {i j : Int} : CmpR S .Eq (.int i) (.int j) (i == j) := by intro U A s v1 v2 Q E _ _ r1 r2 h; replace r1 := r1.inv; cases r1; replace r2 := r2.inv; cases r2; exact PyProof.Rows.eq_int h
theorem CmpR.ltInt {i j : Int} : CmpR S .Lt (.int i) (.int j) (decide (i < j)) := by intro U A s v1 v2 Q E _ _ r1 r2 h; replace r1 := r1.inv; cases r1; replace r2 := r2.inv; cases r2; exact PyProof.Rows.lt_int h
theorem CmpR.gtInt {i j : Int} : CmpR S .Gt (.int i) (.int j) (decide (j < i)) := by intro U A s v1 v2 Q E _ _ r1 r2 h; replace r1 := r1.inv; cases r1; replace r2 := r2.inv; cases r2; exact PyProof.Rows.gt_int h
theorem CmpR.leInt {i j : Int} : CmpR S .LtE (.int i) (.int j) (decide (i ≤ j)) := by intro U A s v1 v2 Q E _ _ r1 r2 h; replace r1 := r1.inv; cases r1; replace r2 := r2.inv; cases r2; exact PyProof.Rows.le_int h
theorem CmpR.eqStr {i j : Str} : CmpR S .Eq (.str i) (.str j) (i == j) := by intro U A s v1 v2 Q E _ _ r1 r2 h; replace r1 := r1.inv; cases r1; replace r2 := r2.inv; cases r2; exact PyProof.Rows.eq_str h
noncomputable def D.isNone : D → Bool
  | .none => true
  | _ => false
theorem CmpR.isNone {d : D} : CmpR S .Is d .none d.isNone := by
  intro U A s v1 v2 Q E _ _ r1 r2 h
  replace r2 := r2.inv
  cases r2
  cases r1 <;> first | exact is_none_none h | exact is_none_ne (by intro x; cases x) h
theorem CmpR.isNotNone {d : D} : CmpR S .IsNot d .none (!d.isNone) := by
  intro U A s v1 v2 Q E _ _ r1 r2 h
  replace r2 := r2.inv
  cases r2
  cases r1 <;> first | exact isnot_none_none h | exact isnot_none_ne (by intro x; cases x) h
theorem BinR.add {i j : Int} : BinR S .Add (.int i) (.int j) (.int (i + j)) := by intro U A s v1 v2 Q E _ _ _ r1 r2 h; replace r1 := r1.inv; cases r1; replace r2 := r2.inv; cases r2; exact PyProof.Rows.add_int (h _ _ _ (Keep.refl _) (.int _ _))
theorem BinR.sub {i j : Int} : BinR S .Sub (.int i) (.int j) (.int (i - j)) := by intro U A s v1 v2 Q E _ _ _ r1 r2 h; replace r1 := r1.inv; cases r1; replace r2 := r2.inv; cases r2; exact PyProof.Rows.sub_int (h _ _ _ (Keep.refl _) (.int _ _))
theorem BinR.mod {i j : Int} (hj : j ≠ 0) : BinR S .Mod (.int i) (.int j) (.int (i.fmod j)) := by intro U A s v1 v2 Q E _ _ _ r1 r2 h; replace r1 := r1.inv; cases r1; replace r2 := r2.inv; cases r2; exact PyProof.Rows.mod_int hj (h _ _ _ (Keep.refl _) (.int _ _))
end
end Mine

end

section
namespace Mine
open PySem PySem.W PySem.Calls PyProof.Rows

noncomputable def kfind {K α : Type} [DecidableEq K] (l : List (K × α)) (k : K) : Option α := (l.find? fun p => p.1 = k).map (·.2)
theorem kfind_some {S : S0} {U : List Addr} {h : Heap} {K : Type} [DecidableEq K] {k : K} {d : D} : ∀ {l : List (K × D)} {kvs : List (K × Value)}, l.map (·.1) = kvs.map (·.1) → RdA S U h (kvs.map (·.2)) (l.map (·.2)) → kfind l k = some d →
    ∃ v, valueAt kvs k = some v ∧ Rd S U h v d
  | [], [], _, _, e => by simp [kfind] at e
  | [], _ :: _, e, _, _ => by simp at e
  | _ :: _, [], e, _, _ => by simp at e
  | (k1, d1) :: l, (k2, v2) :: kvs, e1, r, e2 => by
    simp only [List.map_cons, List.cons.injEq] at e1
    obtain ⟨ek, er⟩ := e1
    subst ek
    simp only [List.map_cons] at r
    replace r := r.inv
    cases r with
    | cons r1 r2 =>
      by_cases hk : k1 = k
      · subst hk
        simp [kfind] at e2
        subst e2
        exact ⟨v2, by simp [valueAt], r1⟩
      · have e2' : kfind l k = some d := by simpa [kfind, List.find?_cons, hk] using e2
        obtain ⟨v, a, b⟩ := kfind_some er r2 e2'
        exact ⟨v, by simpa [valueAt, List.find?_cons, hk] using a, b⟩
theorem kfind_none {K : Type} [DecidableEq K] {k : K} : ∀ {l : List (K × D)} {kvs : List (K × Value)}, l.map (·.1) = kvs.map (·.1) → kfind l k = none → valueAt kvs k = none
  | [], [], _, _ => rfl
  | [], _ :: _, e, _ => by simp at e
  | _ :: _, [], e, _ => by simp at e
  | (k1, d1) :: l, (k2, v2) :: kvs, e1, e2 => by
    simp only [List.map_cons, List.cons.injEq] at e1
    obtain ⟨ek, er⟩ := e1
    subst ek
    by_cases hk : k1 = k
    · subst hk; simp [kfind] at e2
    · have e2' : kfind l k = none := by simpa [kfind, List.find?_cons, hk] using e2
      have := kfind_none er e2'
      simpa [valueAt, List.find?_cons, hk] using this

/-- o[i] -/
noncomputable def ItemR (S : S0) (da db d : D) : Prop :=
  ∀ (U : List Addr) (A : Around) (s : Shared) (v1 v2 : Value) (Q E : Value → Shared → Prop), Rd S U s.heap v1 da → Rd S U s.heap v2 db → (∀ v tk, Rd S U s.heap v d → Q v { s with toks := tk }) →
    (∃ T id, s.TypeIs v1 T ∧ typeLookup (.type T) "__getitem__" = pure (some (.builtin id))) ∧ wpAny (model S.prog S.w) A (getItem v1 v2) Q E s

section
variable {S : S0} {f : Fm} {y : Dy}
theorem ItemR.tup {l : List D} {i : Int} {j : Nat} {d : D} (hi : -(2 ^ 62) ≤ i ∧ i < 2 ^ 62) (hj : seqIndex? i l.length = some j) (hd : l[j]? = some d) : ItemR S (.tup l) (.int i) d := by
  intro U A s v1 v2 Q E r1 r2 h
  replace r2 := r2.inv
  cases r2
  replace r1 := r1.inv
  cases r1 with
  | @tup a o vs n ha ho hc hdd r =>
    obtain ⟨v, hv, rv⟩ := r.get hd
    have ht : IsTup s.heap a vs := ⟨o, ho, hc, n, hdd⟩
    have hl : vs.size = l.length := by rw [← r.length, Array.length_toList]
    refine ⟨⟨_, _, ht.typeIs, slot_tuple_getitem.lookup⟩, getItem_tuple ht (by omega) (by omega) (by rw [hl]; exact hj) (by simpa using hv) (h v s.toks rv)⟩
theorem ItemR.lst {l : List D} {i : Int} {d : D} (h0 : 0 ≤ i) (hi : i < 2 ^ 62) (hd : l[i.toNat]? = some d) : ItemR S (.lst l) (.int i) d := by
  intro U A s v1 v2 Q E r1 r2 h
  replace r2 := r2.inv
  cases r2
  replace r1 := r1.inv
  cases r1 with
  | @lst a o vs n ha ho hc hdd r =>
    obtain ⟨hc, hcd⟩ := hc
    obtain ⟨v, hv, rv⟩ := r.get hd
    have ht : s.heap.IsList a vs := ⟨o, ho, hc, n, hdd⟩
    exact ⟨⟨_, _, ht.typeIs, slot_list_getitem.lookup⟩, wpAny_getItem_list ht h0 (by omega) (by simpa using hv) (h v s.toks rv)⟩
theorem ItemR.lstNeg {l : List D} {i : Int} {d : D} (h0 : i < 0) (h1 : -(l.length : Int) ≤ i) (hi : -(2 ^ 62) ≤ i) (hd : l[(i + l.length).toNat]? = some d) : ItemR S (.lst l) (.int i) d := by
  intro U A s v1 v2 Q E r1 r2 h
  replace r2 := r2.inv
  cases r2
  replace r1 := r1.inv
  cases r1 with
  | @lst a o vs n ha ho hc hdd r =>
    obtain ⟨hc, hcd⟩ := hc
    obtain ⟨v, hv, rv⟩ := r.get hd
    have hl : vs.size = l.length := by rw [← r.length, Array.length_toList]
    have ht : s.heap.IsList a vs := ⟨o, ho, hc, n, hdd⟩
    exact ⟨⟨_, _, ht.typeIs, slot_list_getitem.lookup⟩, wpAny_getItem_list_neg ht h0 (by rw [hl]; exact h1) (by omega) (by rw [hl]; simpa using hv) (h v s.toks rv)⟩
theorem ItemR.sd {l : List (Str × D)} {x : Str} {d : D} (hd : kfind l x = some d) : ItemR S (.sd l) (.str x) d := by
  intro U A s v1 v2 Q E r1 r2 h
  replace r2 := r2.inv
  cases r2
  replace r1 := r1.inv
  cases r1 with
  | @sd a kvs ds ha hs hdo h1 h2 r =>
    subst h2
    obtain ⟨v, hv, rv⟩ := kfind_some h1 r hd
    exact ⟨⟨_, _, hdo.mapOf.typeIs, slot_dict_getitem.lookup⟩, wpAny_getItem_of (strKind_is S.prog S.w x _) hdo.mapOf hv (h v _ rv)⟩
theorem ItemR.idt {l : List (Int × D)} {x : Int} {d : D} (hd : kfind l x = some d) : ItemR S (.idt l) (.int x) d := by
  intro U A s v1 v2 Q E r1 r2 h
  replace r2 := r2.inv
  cases r2
  replace r1 := r1.inv
  cases r1 with
  | @idt a kvs ds ha hs hne hdo h1 h2 r =>
    subst h2
    obtain ⟨v, hv, rv⟩ := kfind_some h1 r hd
    exact ⟨⟨_, _, hdo.mapOf.typeIs, slot_dict_getitem.lookup⟩, wpAny_getItem_of (intKind_is S.prog S.w x _) hdo.mapOf hv (h v _ rv)⟩
theorem Ev.item {e i : Expr} {pos} {da db d : D} (h1 : Ev S f y e da) (h2 : Ev S f y i db) (hr : ItemR S da db d) (hs : ∀ o k, subscripted i false o k = operate [o, k] (getItem o k)) : Ev S f y (.Subscript e i pos) d := by
  intro A s Q E hA ok hq
  refine Subscript_ (h1 A s _ _ hA ok fun v1 g1 t1 k1 r1 => h2 A _ _ _ hA (ok.keeps k1) fun v2 g2 t2 k2 r2 => ?_)
  obtain ⟨⟨T, id, hT, hl⟩, hg⟩ := hr y.U A { s with heap := g2, toks := t2 } v1 v2 Q E (r1.keep k2) r2 fun v tk r => hq v g2 tk (k1.trans k2) r
  exact tail_any hT hl hg (hs _ _)

/-- a call, by what it is called on and what comes back -/
noncomputable def FnC (S : S0) (g : Value) (k : Nat) (ds : List D) (d : D) : Prop :=
  ∀ (A : Around) (s : Shared) (U : List Addr) (vs : List Value) (Q E : Value → Shared → Prop), AOk k A → S.Ok s.heap → (∀ a ∈ U, ∃ o, s.heap.get? a = some o) → RdA S U s.heap vs ds →
    (∀ v h' tk, Keep s.heap h' → Rd S U h' v d → Q v { s with heap := h', toks := tk }) → wpAny (model S.prog S.w) A (call g vs) Q E s
theorem FnC.use {g : Value} {ds : List D} {d : D} (h : FnC S g f.k ds d) {A : Around} {s : Shared} {vs : List Value} {Q E : Value → Shared → Prop} (hA : AOk f.k A) (ok : Ok S f y s.heap) (r : RdA S y.U s.heap vs ds)
    (hq : ∀ v h' tk, Keep s.heap h' → Rd S y.U h' v d → Q v { s with heap := h', toks := tk }) : wpAny (model S.prog S.w) A (call g vs) Q E s := h A s y.U vs Q E hA ok.top ok.live r hq

/-- a def of the module's -/
theorem Ev.call {x : Str} {p pos : Pos} {e : Expr} {es : List Expr} {a : Addr} {ds : List D} {d : D} (hx : f.env.kindOf x = some .globalImplicit) (hv : nsIn S.K mainGlobals x = some (some (.ref a))) (hkp : keepIn S.K (.ref a) = true)
    (hs : EvL S f y (e :: es) ds) (hf : FnC S (.ref a) f.k ds d) (he : starEach (e :: es) f.env = (false, eval e f.env) :: starEach es f.env) (hp : ∀ pos, (backTo pos (starEach es f.env)).any (·.1) = false) (hd : (x == ("__debug__" : Str)) = false) :
    Ev S f y (.Call (.Name x p) (e :: es) [] pos) d := by
  intro A s Q E hA ok hq
  refine Call_ (Name_function_global ok.kind hx (loadGlobal_global (env := f.env) (by rw [ok.glob]; exact ok.top.g) (mg_of ok.top.X ok.top.g hv) ?_) hd)
  refine callWith_K (h₀ := s.heap) ok.top.X hkp ?_ he (hp _)
  refine hs pos A s _ _ hA ok fun vs g1 t1 k1 r1 => ⟨ok.top.X.keeps k1, ?_⟩
  exact hf.use hA (ok.keeps k1) r1 fun v g2 t2 k2 r2 => hq v g2 t2 (k1.trans k2) r2
/-- a built-in function -/
theorem Ev.callB {x : Str} {p pos : Pos} {e : Expr} {es : List Expr} {id : String} {ds : List D} {d : D} (hx : f.env.kindOf x = some .globalImplicit) (hv : nsIn S.K mainGlobals x = some none) (hb : bootBuiltins x = some (.builtin id)) (hn : x ≠ "__name__")
    (hs : EvL S f y (e :: es) ds) (hf : FnC S (.builtin id) f.k ds d) (he : starEach (e :: es) f.env = (false, eval e f.env) :: starEach es f.env) (hp : ∀ pos, (backTo pos (starEach es f.env)).any (·.1) = false) (hd : (x == ("__debug__" : Str)) = false) :
    Ev S f y (.Call (.Name x p) (e :: es) [] pos) d := by
  intro A s Q E hA ok hq
  refine Call_ (Name_function_global ok.kind hx (loadGlobal_builtin (env := f.env) (by rw [ok.glob]; exact ok.top.g) (mg_none_of ok.top.X ok.top.g hv) (by rw [ok.blt]; exact ok.top.b) ((ok.top.builtins x hn).trans hb) ?_) hd)
  refine PyProof.Rows.callWith_builtin1 ?_ he (hp _)
  refine hs pos A s _ _ hA ok fun vs g1 t1 k1 r1 => ?_
  exact hf.use hA (ok.keeps k1) r1 fun v g2 t2 k2 r2 => hq v g2 t2 (k1.trans k2) r2
/-- a built-in type, called -/
theorem Ev.callT {x : Str} {p pos : Pos} {e : Expr} {es : List Expr} {T : String} {ds : List D} {d : D} (hx : f.env.kindOf x = some .globalImplicit) (hv : nsIn S.K mainGlobals x = some none) (hb : bootBuiltins x = some (.type T)) (hn : x ≠ "__name__")
    (hs : EvL S f y (e :: es) ds) (hf : FnC S (.type T) f.k ds d) (he : starEach (e :: es) f.env = (false, eval e f.env) :: starEach es f.env) (hp : ∀ pos, (backTo pos (starEach es f.env)).any (·.1) = false) (hd : (x == ("__debug__" : Str)) = false) :
    Ev S f y (.Call (.Name x p) (e :: es) [] pos) d := by
  intro A s Q E hA ok hq
  refine Call_ (Name_function_global ok.kind hx (loadGlobal_builtin (env := f.env) (by rw [ok.glob]; exact ok.top.g) (mg_none_of ok.top.X ok.top.g hv) (by rw [ok.blt]; exact ok.top.b) ((ok.top.builtins x hn).trans hb) ?_) hd)
  refine PyProof.Rows.callWith_type1 ?_ he (hp _)
  refine hs pos A s _ _ hA ok fun vs g1 t1 k1 r1 => ?_
  exact hf.use hA (ok.keeps k1) r1 fun v g2 t2 k2 r2 => hq v g2 t2 (k1.trans k2) r2
theorem FnC.mono {g : Value} {k k' : Nat} {ds : List D} {d : D} (h : FnC S g k ds d) (hk : k ≤ k') : FnC S g k' ds d := fun A s U vs Q E hA => h A s U vs Q E ⟨hA.1, by have := hA.2.1; omega, by have := hA.2.2; omega⟩

/-- d.get(x, e) -/
theorem Ev.get2 {o e1 e2 : Expr} {apos pos : Pos} {l : List (Str × D)} {x : Str} {dd : D} (ho : Ev S f y o (.sd l)) (h1 : Ev S f y e1 (.str x)) (h2 : Ev S f y e2 dd)
    (hbase : attributeBase o "get" f.env (eval o f.env) = eval o f.env) (hse : starEach [e1, e2] f.env = [(false, eval e1 f.env), (false, eval e2 f.env)]) (hline : (apos.endLine == pos.line) = true) :
    Ev S f y (.Call (.Attribute o "get" apos) [e1, e2] [] pos) ((kfind l x).getD dd) := by
  intro A s Q E hA ok hq
  have hb : backTo pos (starEach [e1, e2] f.env) = [(false, eval e1 f.env), (false, eval e2 f.env)] := by rw [hse]; rfl
  refine wpAny_Call_method (T := "dict") (id := "dict.get") hbase (by rw [hb]; rfl) hline F.plainAttrs_dict F.slot_dict_get F.type_dict_get ?_
  refine ho A s _ _ hA ok fun v g1 t1 k1 r1 => ?_
  replace r1 := r1.inv
  cases r1 with
  | @sd a kvs ds ha hs hdo e1' e2' r =>
    subst e2'
    refine ⟨hdo.mapOf.typeIs, hdo.mapOf.noDict, ?_⟩
    rw [hb]
    refine wpAny_dict_get2 (knd := strKind S.prog S.w) hs ?_
    refine h1 A _ _ _ hA (ok.keeps k1) fun v2 g2 t2 k2 r2 => h2 A _ _ _ hA ((ok.keeps k1).keeps k2) fun v3 g3 t3 k3 r3 => ?_
    replace r2 := r2.inv
    cases r2
    refine ⟨x, valueAt kvs, strKind_is S.prog S.w x _, (hdo.keep (k2.trans k3)).mapOf, ?_⟩
    cases hf : kfind l x with
    | none =>
      rw [kfind_none e1' hf]
      rw [hf] at hq
      exact hq _ g3 _ ((k1.trans k2).trans k3) r3
    | some d =>
      obtain ⟨v, hv, rv⟩ := kfind_some e1' r hf
      rw [hv]
      rw [hf] at hq
      exact hq _ g3 _ ((k1.trans k2).trans k3) (rv.keep (k2.trans k3))
end

section
variable {S : S0} {k : Nat}
theorem FnC.lenL {l : List D} (hz : (l.length : Int) < 2 ^ 62) : FnC S (.builtin "len") k [.lst l] (.int l.length) := by
  intro A s U vs Q E hA top live r hq
  replace r := r.inv
  cases r with
  | cons r1 r2 =>
    replace r2 := r2.inv
    cases r2
    replace r1 := r1.inv
    cases r1 with
    | @lst a o vs n ha ho hc hdd r =>
      obtain ⟨hc, hcd⟩ := hc
      have hl : vs.size = l.length := by rw [← r.length, Array.length_toList]
      refine Calls.call_len_list (items := vs) ⟨o, ho, hc, n, hdd⟩ (by rw [hl]; omega) ?_
      rw [hl]
      exact hq _ s.heap _ (Keep.refl _) (.int _ _)
theorem FnC.lenT {l : List D} (hz : (l.length : Int) < 2 ^ 62) : FnC S (.builtin "len") k [.tup l] (.int l.length) := by
  intro A s U vs Q E hA top live r hq
  replace r := r.inv
  cases r with
  | cons r1 r2 =>
    replace r2 := r2.inv
    cases r2
    replace r1 := r1.inv
    cases r1 with
    | @tup a o vs n ha ho hc hdd r =>
      have hl : vs.size = l.length := by rw [← r.length, Array.length_toList]
      refine PyProof.Rows.len_tuple (items := vs) ⟨o, ho, hc, n, hdd⟩ (by rw [hl]; omega) ?_
      rw [hl]
      exact hq _ s.heap _ (Keep.refl _) (.int _ _)
theorem FnC.abs {i : Int} : FnC S (.builtin "abs") k [.int i] (.int (if i < 0 then -i else i)) := by
  intro A s U vs Q E hA top live r hq
  replace r := r.inv
  cases r with
  | cons r1 r2 =>
    replace r2 := r2.inv
    cases r2
    replace r1 := r1.inv
    cases r1
    exact call_abs_int fun u tk => hq _ s.heap tk (Keep.refl _) (.int _ _)
theorem FnC.min2 {i j : Int} : FnC S (.builtin "min") k [.int i, .int j] (.int (if j < i then j else i)) := by
  intro A s U vs Q E hA top live r hq
  replace r := r.inv
  cases r with
  | cons r1 r2 =>
    replace r2 := r2.inv
    cases r2 with
    | cons r2 r3 =>
      replace r3 := r3.inv
      cases r3
      replace r1 := r1.inv
      cases r1
      replace r2 := r2.inv
      cases r2
      refine min_two_ints hA.1 fun h' tk kp => hq _ h' tk kp ?_
      split <;> exact .int _ _
end
end Mine

end

section
namespace Mine
open PySem PySem.W PySem.Calls PyProof.Rows PySem.SeqAt

/-- the least of a list of ints -/
noncomputable def lmin : List Int → Int
  | [] => 0
  | [a] => a
  | a :: b :: l => if lmin (b :: l) < a then lmin (b :: l) else a
theorem lmin_mem : ∀ l : List Int, l ≠ [] → lmin l ∈ l
  | [], h => absurd rfl h
  | [a], _ => by simp [lmin]
  | a :: b :: l, _ => by
    have ih := lmin_mem (b :: l) (by simp)
    unfold lmin
    split
    · exact List.mem_cons_of_mem _ ih
    · exact List.mem_cons_self
theorem lmin_le : ∀ (l : List Int) (x : Int), x ∈ l → lmin l ≤ x
  | [], _, h => by cases h
  | [a], x, h => by simp at h; subst h; simp [lmin]
  | a :: b :: l, x, h => by
    unfold lmin
    rcases List.mem_cons.mp h with rfl | h
    · split <;> omega
    · have := lmin_le (b :: l) x h
      split <;> omega
theorem lmin_uniq {l : List Int} {m : Int} (h1 : m ∈ l) (h2 : ∀ x ∈ l, m ≤ x) : m = lmin l := by
  have a := lmin_le l m h1
  have b := h2 _ (lmin_mem l (by intro e; subst e; cases h1))
  omega

theorem ints_of {S : S0} {U : List Addr} {h : Heap} : ∀ {vs : List Value} {ns : List Int}, RdA S U h vs (ns.map D.int) → IntsAre vs ns
  | [], [], _ => .nil
  | [], _ :: _, r => by cases r
  | _ :: _, [], r => by cases r
  | v :: vs, n :: ns, r => by
    simp only [List.map_cons] at r
    replace r := r.inv
    cases r with
    | cons r1 r2 => replace r1 := r1.inv; cases r1 with | int t => exact .cons n t (ints_of r2)

theorem FnC.minL {S : S0} {k : Nat} {ns : List Int} (hne : ns ≠ []) : FnC S (.builtin "min") k [.lst (ns.map D.int)] (.int (lmin ns)) := by
  intro A s U vs Q E hA top live r hq
  replace r := r.inv
  cases r with
  | cons r1 r2 =>
    replace r2 := r2.inv
    cases r2
    replace r1 := r1.inv
    cases r1 with
    | @lst a o vs n ha ho hc hdd r =>
      obtain ⟨hc, hcd⟩ := hc
      have hi := ints_of r
      obtain ⟨xs, e⟩ := hi.allInts.items
      have hns : ns = xs.toList.map (·.1) := by rw [← hi.numsOf, ← nums_intItems, ← e]
      have hsz : 0 < xs.size := by
        have h3 : ns.length ≠ 0 := by simpa using hne
        rw [hns, List.length_map, Array.length_toList] at h3; omega
      have hl : s.heap.IsList a (intItems xs) := by rw [← e]; exact ⟨o, ho, hc, n, by rw [hdd]⟩
      refine min_intList hA.1 hl hsz fun v h' tk hv hk => ?_
      obtain ⟨t, rfl⟩ := intItems_at hv
      obtain ⟨h1, h2⟩ := argBest_lt (numAt xs) (xs.size - 1)
      have hm : numAt xs (argBest (fun i j => decide (numAt xs i < numAt xs j)) (xs.size - 1)) = lmin ns := by
        refine lmin_uniq ?_ fun x hx => ?_
        · rw [hns, numAt_eq]; exact getD_mem (by rw [List.length_map, Array.length_toList]; omega)
        · rw [hns] at hx
          obtain ⟨j, hj, rfl⟩ := mem_getD hx
          rw [List.length_map, Array.length_toList] at hj
          rw [← numAt_eq]; exact h2 j (by omega)
      rw [hm]
      exact hq _ h' tk hk (.int _ _)

noncomputable def cmpL (c : D → D → Option Bool) : List D → List D → Option Bool
  | a :: l, b :: l' => match c a b, cmpL c l l' with
    | some x, some y => some (x && y)
    | _, _ => none
  | _, _ => some true
noncomputable def cmp (n : Nat) (a b : D) : Option Bool := match n with
  | 0 => none
  | n + 1 => match a, b with
    | .none, .none => some true
    | .none, .int _ => some false
    | .int _, .none => some false
    | .none, .tup _ => some false
    | .tup _, .none => some false
    | .bool x, .bool y => some (x == y)
    | .int i, .int j => some (i == j)
    | .str x, .str y => some (x == y)
    | .tup l, .tup m => (cmpL (cmp n) l m).map fun e => e && l.length == m.length
    | .lst l, .lst m => if l.length = m.length then cmpL (cmp n) l m else some false
    | .sd l, .sd m => if l.map (·.1) = m.map (·.1) then cmpL (cmp n) (l.map (·.2)) (m.map (·.2)) else none
    | _, _ => none

noncomputable def eOf (c : D → D → Option Bool) (l m : List D) (j : Nat) : Bool := match l[j]?, m[j]? with
  | some a, some b => (c a b).getD true
  | _, _ => true
theorem cmpL_spec (c : D → D → Option Bool) : ∀ (l m : List D) (b : Bool), cmpL c l m = some b →
    (∀ (j : Nat) (x y : D), l[j]? = some x → m[j]? = some y → c x y = some (eOf c l m j)) ∧ b = (List.range (min l.length m.length)).all (eOf c l m)
  | [], m, b, h => by
    simp only [cmpL, Option.some.injEq] at h
    exact ⟨fun j x y e => by simp at e, by simp [← h]⟩
  | _ :: _, [], b, h => by
    simp only [cmpL, Option.some.injEq] at h
    exact ⟨fun j x y _ e => by simp at e, by simp [← h]⟩
  | a :: l, a' :: m, b, h => by
    simp only [cmpL] at h
    split at h
    · rename_i x y hx hy
      cases h
      obtain ⟨p, q⟩ := cmpL_spec c l m y hy
      refine ⟨fun j u v hu hv => ?_, ?_⟩
      · cases j with
        | zero => simp at hu hv; subst hu hv; simp [eOf, hx]
        | succ j => simp at hu hv; have := p j u v hu hv; rw [this]; simp [eOf]
      · have e1 : min (a :: l).length (a' :: m).length = min l.length m.length + 1 := by simp only [List.length_cons]; omega
        rw [e1, List.range_succ_eq_map, List.all_cons, List.all_map, q]
        congr 1
        simp [eOf, hx]
    · cases h

section
variable {S : S0} {U : List Addr}

theorem find_str {prog : Program} {w : World} {A : Around} {E : Value → Shared → Prop} {s : Shared} {d : Addr} {o : Obj} {es : Array DictEntry} {ep : Nat} {x : Str} {t : Tok} {hsh : Int} {Q : Option Nat → Shared → Prop}
    (ho : s.heap.get? d = some o) (hd : o.data = .dict es ep) (hk : ∀ e ∈ es, ∃ y u, e.key = .str y u) (h : Q (es.findIdx? fun e => e.key.isStr x) s) : wpAny (model prog w) A (dictFind d (.str x t) hsh) Q E s := by
  unfold dictFind
  try with_reducible refine wpAny_holding ?_
  refine wpAny_bind (wpAny_dictEntries ho hd ?_)
  dsimp only
  rw [if_pos (by
    rw [Array.all_eq_true]
    intro i hi
    obtain ⟨y, u, e⟩ := hk es[i] (Array.getElem_mem hi)
    rw [e]; rfl)]
  unfold foundByValue
  cases hf : es.findIdx? (fun e => e.key.isStr x) with
  | none => rw [hf] at h; exact wpAny_bind (wpAny_pure (wpAny_pure h))
  | some i =>
    rw [hf] at h
    obtain ⟨hlt, hi, _⟩ := Array.findIdx?_eq_some_iff_getElem.mp hf
    obtain ⟨y, u, e⟩ := hk es[i] (Array.getElem_mem hlt)
    have ey : y = x := by rw [e] at hi; simpa [Value.isStr] using hi
    subst ey
    simp only [Array.getElem?_eq_getElem hlt]
    refine wpAny_bind (wpAny_dictEpoch ho hd (wpAny_bind ?_))
    rw [e]
    refine wpAny_eqBool_str (wpAny_bind (wpAny_dictEpoch ho hd ?_))
    show wpAny _ _ (if (ep != ep) = true then _ else _) _ E _
    rw [if_neg (by simp), decide_eq_true rfl]
    exact wpAny_bind (wpAny_rule (wpAny_pure h))

theorem pairs_uniq {prog : Program} {w : World} {K : Type} [DecidableEq K] {knd : KeyKind prog w K} : ∀ {es : List DictEntry} {kvs kvs' : List (K × Value)}, Pairs knd es kvs → Pairs knd es kvs' → kvs = kvs' := by
  intro es kvs kvs' p q
  induction p generalizing kvs' with
  | nil => cases q; rfl
  | cons a1 a2 a3 ih =>
    cases q with
    | cons b1 b2 b3 =>
      rw [ih b3]
      congr 1
      exact Prod.ext (knd.inj _ _ _ a1 b1) (a2.symm.trans b2)
theorem dictOf_uniq {prog : Program} {w : World} {K : Type} [DecidableEq K] {knd : KeyKind prog w K} {h : Heap} {a : Addr} {kvs kvs' : List (K × Value)} (x : h.DictOf knd a kvs) (y : h.DictOf knd a kvs') : kvs = kvs' := by
  obtain ⟨o, es, ep, ho, _, hd, _, hp, _⟩ := x
  obtain ⟨o', es', ep', ho', _, hd', _, hp', _⟩ := y
  rw [ho] at ho'; cases ho'
  rw [hd] at hd'; cases hd'
  exact pairs_uniq hp hp'

theorem cmp_same {h : Heap} : ∀ (n : Nat) (a b : D) (bb : Bool) (v : Value), cmp n a b = some bb → Rd S U h v a → Rd S U h v b → bb = true
  | 0, _, _, _, _, e, _, _ => by cases e
  | n + 1, a, b, bb, v, e, ra, rb => by
    have all : ∀ (vs : List Value) (l m : List D) (b' : Bool), cmpL (cmp n) l m = some b' → RdA S U h vs l → RdA S U h vs m → b' = true := by
      intro vs
      induction vs with
      | nil => intro l m b' e r1 r2; cases r1; cases r2; simpa [cmpL] using e.symm
      | cons x vs ih =>
        intro l m b' e r1 r2
        cases r1 with
        | cons p1 p2 =>
          cases r2 with
          | cons q1 q2 =>
            simp only [cmpL] at e
            split at e
            · rename_i u z hu hz
              cases e
              rw [cmp_same n _ _ u x hu p1 q1, ih _ _ z hz p2 q2]; rfl
            · cases e
    cases ra with
    | none => cases rb; cases e; rfl
    | bool x => cases rb; cases e; exact beq_self_eq_true _
    | int x t => cases rb; cases e; exact beq_self_eq_true _
    | str x t => cases rb; cases e; exact beq_self_eq_true _
    | tup h1 h2 h3 h4 h5 =>
      cases rb with
      | tup k1 k2 k3 k4 k5 =>
        rw [h2] at k2; cases k2; rw [h4] at k4; cases k4
        obtain ⟨z, e1, rfl⟩ := Option.map_eq_some_iff.mp (show (cmpL (cmp n) _ _).map _ = some _ from e)
        rw [all _ _ _ z e1 h5 k5]
        have := h5.length; have := k5.length
        simp; omega
      | lst k1 k2 k3 k4 k5 => rw [h2] at k2; cases k2; rw [h3] at k3; simp at k3
      | sd => cases e
      | idt => cases e
    | lst h1 h2 h3 h4 h5 =>
      obtain ⟨h3, h3d⟩ := h3
      cases rb with
      | lst k1 k2 k3 k4 k5 =>
        obtain ⟨k3, k3d⟩ := k3
        rw [h2] at k2; cases k2; rw [h4] at k4; cases k4
        have l1 := h5.length; have l2 := k5.length
        change (if _ then cmpL (cmp n) _ _ else _) = _ at e
        rw [if_pos (by omega)] at e
        exact all _ _ _ _ e h5 k5
      | tup k1 k2 k3 k4 k5 => rw [h2] at k2; cases k2; rw [h3] at k3; simp at k3
      | sd => cases e
      | idt => cases e
    | sd h1 hs h2 h3 h4 h5 =>
      cases rb with
      | sd k1 ks k2 k3 k4 k5 =>
        have := dictOf_uniq h2 k2
        subst this
        subst h4 k4
        change (if _ then cmpL (cmp n) _ _ else _) = _ at e
        split at e
        · exact all _ _ _ _ e h5 k5
        · cases e
      | tup => cases e
      | lst => cases e
      | idt => cases e
    | idt => cases rb <;> cases e
end
end Mine

end

section
namespace Mine
open PySem PySem.W PySem.Calls PyProof.Rows PySem.SeqAt

theorem samePairs_str {prog : Program} {w : World} {A : Around} {E : Value → Shared → Prop} {s : Shared} {nm : String} {a b : Addr} {oa ob : Obj} {es es' : Array DictEntry} {ep ep' : Nat} {e : Nat → Bool} {Q : Bool → Shared → Prop}
    (ha : (a == sysModules) = false) (hb : (b == sysModules) = false) (hoa : s.heap.get? a = some oa) (hda : oa.data = .dict es ep) (hob : s.heap.get? b = some ob) (hdb : ob.data = .dict es' ep') (hsz : es.size = es'.size)
    (hkb : ∀ e ∈ es', ∃ y u, e.key = .str y u)
    (hk : ∀ i (h1 : i < es.size), ∃ x t, es[i].key = .str x t ∧ es'.findIdx? (fun e => e.key.isStr x) = some i)
    (he : ∀ i (h1 : i < es.size) (h2 : i < es'.size), EqAt A s es[i].val es'[i].val (e i)) (h : Q ((List.range es.size).all e) s) :
    wpAny (model prog w) A (Builtin.Dict.samePairs nm a b) Q E s := by
  unfold Builtin.Dict.samePairs Builtin.Dict.showsAll
  rw [if_neg (show ¬ (a == sysModules) = true by rw [ha]; exact Bool.false_ne_true), if_neg (show ¬ (b == sysModules) = true by rw [hb]; exact Bool.false_ne_true)]
  refine wpAny_bind (wpAny_pure (wpAny_bind (wpAny_pure ?_)))
  refine wpAny_bind (wpAny_dictEntries hoa hda ?_)
  dsimp only
  refine wpAny_bind (wpAny_dictEntries hob hdb ?_)
  rw [if_neg (by rw [hsz]; simp)]
  refine wpAny_bind (wpAny_dictEpoch hoa hda ?_)
  refine wpAny_bind ?_
  rw [Std.Legacy.Range.forIn_eq_forIn_range']
  simp only [Std.Legacy.Range.size, Nat.sub_zero, Nat.add_sub_cancel, Nat.div_one]
  refine wpAny_forIn_list _
    (fun rest q s' => s' = s ∧ q = (none, ()) ∧ ∃ i, rest = List.range' i (es.size - i) ∧ i ≤ es.size ∧ (∀ j, j < i → e j = true))
    _ ?_ ?_ _ _ ⟨rfl, rfl, 0, by simp, Nat.zero_le _, fun _ h => absurd h (Nat.not_lt_zero _)⟩
  · rintro x rest q s' ⟨rfl, rfl, i, hr, hi, hpre⟩
    have hlt : i < es.size := by
      rcases Nat.lt_or_ge i es.size with h | h
      · exact h
      · rw [Nat.sub_eq_zero_of_le h] at hr; simp at hr
    obtain ⟨rfl, hrest⟩ : x = i ∧ rest = List.range' (i + 1) (es.size - (i + 1)) := by
      have e : es.size - i = (es.size - (i + 1)) + 1 := by omega
      rw [e, List.range'_succ] at hr
      injection hr with h1 h2
      exact ⟨h1, h2⟩
    refine wpAny_bind (wpAny_dictEntries hoa hda ?_)
    rw [Array.getElem?_eq_getElem hlt]
    have hlt' : x < es'.size := hsz ▸ hlt
    obtain ⟨y, t, hkey, hfind⟩ := hk x hlt
    show wpAny _ _ (holding [es[x].key, es[x].val] _ >>= _) _ _ _
    rw [hkey]
    refine wpAny_bind (wpAny_holding (wpAny_bind (find_str hob hdb hkb ?_)))
    rw [hfind]
    refine wpAny_bind (wpAny_dictEntries hob hdb ?_)
    rw [Array.getElem?_eq_getElem hlt']
    have hev := he x hlt hlt'
    refine wpAny_holding (hev prog w _ _ ?_)
    cases hc : e x with
    | false =>
      have hall : (List.range es.size).all e = false := by
        rw [Bool.eq_false_iff]
        intro q
        have := List.all_eq_true.mp q x (List.mem_range.mpr hlt)
        rw [hc] at this; cases this
      rw [hall] at h
      show wpAny _ _ (if (!false) = true then _ else _) _ _ _
      rw [if_pos (by decide)]
      exact wpAny_pure (wpAny_pure h)
    | true =>
      show wpAny _ _ (if (!true) = true then _ else _) _ _ _
      rw [if_neg (by decide)]
      refine wpAny_bind (wpAny_dictEpoch hoa hda ?_)
      rw [if_neg (by simp)]
      refine wpAny_pure ⟨rfl, rfl, x + 1, hrest, hlt, fun j hj => ?_⟩
      rcases Nat.lt_or_ge j x with q | q
      · exact hpre j q
      · have : j = x := by omega
        rw [this]; exact hc
  · rintro q s' ⟨rfl, rfl, i, hr, hi, hpre⟩
    have hin : i = es.size := by
      rcases Nat.lt_or_ge i es.size with h | h
      · have e : es.size - i = (es.size - (i + 1)) + 1 := by omega
        rw [e, List.range'_succ] at hr; exact nomatch hr
      · exact Nat.le_antisymm hi h
    have hall : (List.range es.size).all e = true := List.all_eq_true.mpr fun j hj => hpre j (by rw [hin]; exact List.mem_range.mp hj)
    rw [hall] at h
    exact wpAny_pure h

theorem rcAt_dict {A : Around} {s : Shared} {a b : Addr} {oa ob : Obj} {es es' : Array DictEntry} {ep ep' : Nat} {e : Nat → Bool}
    (ha : (a == sysModules) = false) (hb : (b == sysModules) = false) (hoa : s.heap.get? a = some oa) (hca : oa.cls = .type "dict") (hda : oa.data = .dict es ep) (hob : s.heap.get? b = some ob) (hcb : ob.cls = .type "dict") (hdb : ob.data = .dict es' ep') (hsz : es.size = es'.size)
    (hkb : ∀ e ∈ es', ∃ y u, e.key = .str y u)
    (hk : ∀ i (h1 : i < es.size), ∃ x t, es[i].key = .str x t ∧ es'.findIdx? (fun e => e.key.isStr x) = some i) (hu : A.units < cLine)
    (he : ∀ i (h1 : i < es.size) (h2 : i < es'.size), EqAt A.in1 s es[i].val es'[i].val (e i)) : RcAt A s (.ref a) (.ref b) ((List.range es.size).all e) := by
  intro prog w E Q h
  have ta : s.TypeIs (.ref a) "dict" := ⟨_, hoa, hca⟩
  have tb : s.TypeIs (.ref b) "dict" := ⟨_, hob, hcb⟩
  refine wpAny_richCompare_same_room (op := .Eq) ta tb PySem.F.slot_dict_eq (wpAny_call_entry PySem.F.slot_dict_eq ta PySem.F.entry_dict_eq ?_ (PySem.F.args_dict_eq_2 _ _)) hu
  show wpAny _ _ (Builtin.Dict.dictSlotArgs "__eq__" ⟨[.ref a, .ref b], []⟩ >>= _) _ _ s
  refine wpAny_bind ?_
  unfold Builtin.Dict.dictSlotArgs
  refine wpAny_bind (wpAny_notOrdered_dict ta ?_)
  show wpAny _ _ (pure (Value.ref a, Value.ref b)) _ _ s
  refine wpAny_pure ?_
  refine wpAny_bind (wpAny_isInstance (T := "dict") tb PySem.F.sub_dict_dict ?_)
  simp only [Bool.not_true, Bool.false_eq_true, if_false]
  refine wpAny_bind (wpAny_pure (wpAny_bind (wpAny_pure ?_)))
  refine wpAny_bind (samePairs_str ha hb hoa hda hob hdb hsz hkb hk he ?_)
  refine wpAny_pure ⟨_, rfl, ?_, ?_⟩
  · exact fun x => nomatch x
  · simpa using h

section
variable {S : S0} {U : List Addr}
theorem strKeys_of {prog : Program} {w : World} {es : Array DictEntry} (h : KeysOf (strKind prog w) es) : ∀ e ∈ es, ∃ y u, e.key = .str y u := fun e he => by
  obtain ⟨k, h1, _⟩ := h e he
  obtain ⟨t, ht⟩ := Value.isStrOf_shape (show Value.isStrOf k e.key = true from h1)
  exact ⟨k, t, ht⟩
theorem pairs_key {prog : Program} {w : World} {K : Type} [DecidableEq K] {knd : KeyKind prog w K} : ∀ {es : List DictEntry} {kvs : List (K × Value)} (_ : Pairs knd es kvs) (i : Nat) (h1 : i < es.length) (h2 : i < kvs.length), knd.is kvs[i].1 es[i].key = true ∧ es[i].val = kvs[i].2 := by
  intro es kvs p
  induction p with
  | nil => exact fun i h1 _ => (Nat.not_lt_zero _ h1).elim
  | cons a b c ih =>
    intro i
    cases i with
    | zero => exact fun _ _ => ⟨a, b⟩
    | succ i => exact fun h1 h2 => ih i (Nat.lt_of_succ_lt_succ h1) (Nat.lt_of_succ_lt_succ h2)

theorem eqAt_cmp : ∀ (n : Nat) (a b : D) (bb : Bool) (x y : Value) (A : Around) (s : Shared), cmp n a b = some bb → Rd S U s.heap x a → Rd S U s.heap y b → A.units + n < cLine → EqAt A s x y bb
  | 0, _, _, _, _, _, _, _, e, _, _, _ => by cases e
  | n + 1, a, b, bb, x, y, A, s, e, ra, rb, hu => by
    have hu1 : A.units < cLine := by omega
    have hu2 : A.in1.units + n < cLine := by show A.units + 1 + n < cLine; omega
    have items : ∀ (l m : List D) (b' : Bool) (vs ws : Array Value), cmpL (cmp n) l m = some b' → RdA S U s.heap vs.toList l → RdA S U s.heap ws.toList m →
        (∀ j (h1 : j < vs.size) (h2 : j < ws.size), EqAt A.in1 s vs[j] ws[j] (eOf (cmp n) l m j)) ∧ b' = (List.range (min vs.size ws.size)).all (eOf (cmp n) l m) := by
      intro l m b' vs ws e1 r1 r2
      obtain ⟨p, q⟩ := cmpL_spec _ l m b' e1
      refine ⟨fun j h1 h2 => ?_, ?_⟩
      · obtain ⟨d1, g1, g2⟩ := r1.get' (i := j) (v := vs[j]) (by simp [h1])
        obtain ⟨d2, k1, k2⟩ := r2.get' (i := j) (v := ws[j]) (by simp [h2])
        exact eqAt_cmp n d1 d2 _ _ _ A.in1 s (p j d1 d2 g1 k1) g2 k2 hu2
      · rw [q, ← r1.length, ← r2.length, Array.length_toList, Array.length_toList]
    cases ra with
    | none =>
      cases rb with
      | none => cases e; exact EqAt.same _
      | int i t => cases e; exact EqAt.none_int i t
      | tup k1 k2 k3 k4 k5 => cases e; exact EqAt.none_tuple ⟨_, k2, k3, _, k4⟩ hu1
      | _ => cases e
    | bool x =>
      cases rb with
      | bool y => cases e; exact EqAt.bool_bool x y
      | _ => cases e
    | int i t =>
      cases rb with
      | none => cases e; exact EqAt.int_none i t
      | int j u => cases e; exact EqAt.int_int i t j u
      | _ => cases e
    | str x t =>
      cases rb with
      | str y u => cases e; exact EqAt.str_str x t y u
      | _ => cases e
    | @tup xa xo vs xn l h1 h2 h3 h4 h5 =>
      cases rb with
      | none => cases e; exact EqAt.tuple_none ⟨_, h2, h3, _, h4⟩ hu1
      | @tup ya yo ws yn m k1 k2 k3 k4 k5 =>
        by_cases hne : xa = ya
        · subst hne
          have := cmp_same (n + 1) _ _ bb (.ref xa) e (.tup h1 h2 h3 h4 h5) (.tup k1 k2 k3 k4 k5)
          subst this
          exact EqAt.same _
        · obtain ⟨z, e1, rfl⟩ := Option.map_eq_some_iff.mp (show (cmpL (cmp n) _ _).map _ = some _ from e)
          obtain ⟨p, q⟩ := items l m z vs ws e1 h5 k5
          have hl1 : vs.size = l.length := by rw [← h5.length, Array.length_toList]
          have hl2 : ws.size = m.length := by rw [← k5.length, Array.length_toList]
          have := RcAt.tuples (s := s) (A := A) (l := xa) (b := ya) ⟨_, h2, h3, _, h4⟩ ⟨_, k2, k3, _, k4⟩ hu1 p
          rw [← q, hl1, hl2] at this
          exact EqAt.of_refs hne this
      | _ => cases e
    | @lst xa xo vs xn l h1 h2 h3 h4 h5 =>
      obtain ⟨h3, h3d⟩ := h3
      cases rb with
      | @lst ya yo ws yn m k1 k2 k3 k4 k5 =>
        obtain ⟨k3, k3d⟩ := k3
        by_cases hne : xa = ya
        · subst hne
          have := cmp_same (n + 1) _ _ bb (.ref xa) e (.lst h1 h2 ⟨h3, h3d⟩ h4 h5) (.lst k1 k2 ⟨k3, k3d⟩ k4 k5)
          subst this
          exact EqAt.same _
        · have hl1 : vs.size = l.length := by rw [← h5.length, Array.length_toList]
          have hl2 : ws.size = m.length := by rw [← k5.length, Array.length_toList]
          change (if _ then cmpL (cmp n) _ _ else _) = _ at e
          split at e
          · rename_i hlen
            obtain ⟨p, q⟩ := items l m bb vs ws e h5 k5
            have hsz : vs.size = ws.size := by omega
            have := RcAt.lists (s := s) (A := A) (l := xa) (b := ya) ⟨_, h2, h3, _, h4⟩ ⟨_, k2, k3, _, k4⟩ hsz hu1 p
            rw [hsz, Nat.min_self, ← hsz] at q
            rw [← q] at this
            exact EqAt.of_refs hne this
          · rename_i hlen
            cases e
            exact EqAt.of_refs hne (RcAt.lists_lengths ⟨_, h2, h3, _, h4⟩ ⟨_, k2, k3, _, k4⟩ (by rw [hl1, hl2]; simpa using hlen) hu1)
      | _ => cases e
    | @sd xa kvs l ds h1 hs h2 h3 h4 h5 =>
      cases rb with
      | @sd ya kvs' m ds' k1 ks k2 k3 k4 k5 =>
        by_cases hne : xa = ya
        · subst hne
          have := cmp_same (n + 1) _ _ bb (.ref xa) e (.sd h1 hs h2 h3 h4 h5) (.sd k1 ks k2 k3 k4 k5)
          subst this
          exact EqAt.same _
        · subst h4 k4
          change (if _ then cmpL (cmp n) _ _ else _) = _ at e
          split at e
          · rename_i hkeys
            obtain ⟨p, q⟩ := items _ _ bb (kvs.map (·.2)).toArray (kvs'.map (·.2)).toArray e (by simpa using h5) (by simpa using k5)
            obtain ⟨o, es, ep, ho, hx, hd, hke, hp, hnd⟩ := h2
            obtain ⟨o', es', ep', ho', hx', hd', hke', hp', hnd'⟩ := k2
            have hkk : kvs.map (·.1) = kvs'.map (·.1) := by rw [← h3, ← k3, hkeys]
            have hlen : kvs.length = kvs'.length := by have := congrArg List.length hkk; simpa using this
            have hz : es.size = kvs.length := by rw [← hp.length, Array.length_toList]
            have hz' : es'.size = kvs'.length := by rw [← hp'.length, Array.length_toList]
            refine EqAt.of_refs hne ?_
            have main : RcAt A s (.ref xa) (.ref ya) ((List.range es.size).all (eOf (cmp n) (l.map (·.2)) (m.map (·.2)))) := by
              refine rcAt_dict hs ks ho hx.1 hd ho' hx'.1 hd' (by omega) (strKeys_of hke') (fun i hi => ?_) hu1 (fun i hi hi' => ?_)
              · obtain ⟨a1, a2⟩ := pairs_key hp i (by simpa using hi) (by omega)
                obtain ⟨t, ht⟩ := Value.isStrOf_shape (show Value.isStrOf kvs[i].1 es.toList[i].key = true from a1)
                refine ⟨kvs[i].1, t, by simpa using ht, ?_⟩
                have hi2 : i < kvs'.length := by omega
                have hie : i < es'.toList.length := by rw [Array.length_toList]; omega
                have hkey : kvs'[i].1 = kvs[i].1 := by
                  have := congrArg (fun l => l[i]?) hkk
                  simpa [hi2, show i < kvs.length by omega] using this.symm
                rw [Array.findIdx?_eq_some_iff_getElem]
                refine ⟨by omega, ?_, fun j hj => ?_⟩
                · obtain ⟨b1, _⟩ := pairs_key hp' i (by first | (simp only [Array.length_toList, List.length_map, List.length_toArray, List.size_toArray]; omega) | (simp; omega)) hi2
                  obtain ⟨u, hu'⟩ := Value.isStrOf_shape (show Value.isStrOf kvs'[i].1 es'.toList[i].key = true from b1)
                  have : es'[i].key = .str kvs[i].1 u := by rw [← hkey]; simpa using hu'
                  rw [this]; simp [Value.isStr]
                · have hje : j < es'.toList.length := by omega
                  obtain ⟨b1, _⟩ := pairs_key hp' j (by first | (simp only [Array.length_toList, List.length_map, List.length_toArray, List.size_toArray]; omega) | (simp; omega)) (by omega)
                  obtain ⟨u, hu'⟩ := Value.isStrOf_shape (show Value.isStrOf kvs'[j].1 es'.toList[j].key = true from b1)
                  have hj2 : es'[j].key = .str kvs'[j].1 u := by simpa using hu'
                  rw [hj2]
                  simp only [Value.isStr, beq_iff_eq]
                  intro q
                  rw [← hkey] at q
                  have hlj : j < (kvs'.map (·.1)).length := by rw [List.length_map]; omega
                  have hli : i < (kvs'.map (·.1)).length := by rw [List.length_map]; omega
                  exact List.pairwise_iff_getElem.mp hnd' j i hlj hli hj (by simpa using q)
              · obtain ⟨_, a2⟩ := pairs_key hp i (by simpa using hi) (by omega)
                obtain ⟨_, b2⟩ := pairs_key hp' i (by simpa using hi') (by omega)
                have := p i (by first | (simp only [Array.length_toList, List.length_map, List.length_toArray, List.size_toArray]; omega) | (simp; omega)) (by first | (simp only [Array.length_toList, List.length_map, List.length_toArray, List.size_toArray]; omega) | (simp; omega))
                have ea : es[i].val = kvs[i].2 := by simpa using a2
                have eb : es'[i].val = kvs'[i].2 := by simpa using b2
                rw [ea, eb]
                simpa using this
            have hmin : min ((kvs.map (·.2)).toArray.size) ((kvs'.map (·.2)).toArray.size) = es.size := by simp; omega
            rw [hmin] at q
            rw [← q] at main
            exact main
          · cases e
      | _ => cases e
    | idt => cases rb <;> cases e
end
end Mine

end

section
namespace Mine
open PySem PySem.W PySem.Calls PyProof.Rows PySem.SeqAt

section
variable {S : S0} {U : List Addr} {h : Heap}
theorem kv_ext {K : Type} : ∀ {l m : List (K × D)}, l.map (·.1) = m.map (·.1) → l.map (·.2) = m.map (·.2) → l = m
  | [], [], _, _ => rfl
  | [], _ :: _, e, _ => by simp at e
  | _ :: _, [], e, _ => by simp at e
  | (a, b) :: l, (c, d) :: m, e1, e2 => by
    simp only [List.map_cons, List.cons.injEq] at e1 e2
    rw [kv_ext e1.2 e2.2, e1.1, e2.1]
theorem ne_tl : ¬ (.type "tuple" : Value) = .type "list" := by simp
theorem ne_td : ¬ (.type "dict" : Value) = .type "tuple" := by simp
theorem ne_ld : ¬ (.type "dict" : Value) = .type "list" := by simp
theorem dictOf_cls {prog : Program} {w : World} {K : Type} [DecidableEq K] {knd : KeyKind prog w K} {a : Addr} {o : Obj} {kvs : List (K × Value)} (x : h.DictOf knd a kvs) (ho : h.get? a = some o) : o.cls = .type "dict" := by
  obtain ⟨o', es, ep, ho', hx, _⟩ := x
  rw [ho] at ho'; cases ho'; exact hx.1
theorem sd_idt {a : Addr} {kvs : List (Str × Value)} {kvs' : List (Int × Value)} (x : h.DictOf (strKind S.prog S.w) a kvs) (y : h.DictOf (intKind S.prog S.w) a kvs') : kvs' = [] := by
  obtain ⟨o, es, ep, ho, hx, hd, _, hp, _⟩ := x
  obtain ⟨o', es', ep', ho', hx', hd', _, hp', _⟩ := y
  rw [ho] at ho'; cases ho'; rw [hd] at hd'; cases hd'
  generalize es.toList = L at hp hp'
  cases hp' with
  | nil => rfl
  | cons q1 q2 q3 =>
    cases hp with
    | cons p1 p2 p3 =>
      obtain ⟨t, e1⟩ := Value.isStrOf_shape p1
      obtain ⟨u, e2⟩ := Value.isInt_shape q1
      rw [e1] at e2; cases e2
theorem nil_of_map {K : Type} {l : List (K × D)} {kvs : List (K × Value)} (e : l.map (·.1) = kvs.map (·.1)) (e2 : kvs = []) : l = [] := by
  subst e2
  cases l with
  | nil => rfl
  | cons => cases e
theorem Rd.uniq {v : Value} {d d' : D} (r : Rd S U h v d) : Rd S U h v d' → d = d' := by
  refine Rd.rec (motive_1 := fun v d _ => ∀ d', Rd S U h v d' → d = d') (motive_2 := fun vs ds _ => ∀ ds', RdA S U h vs ds' → ds = ds') ?_ ?_ ?_ ?_ ?_ ?_ ?_ ?_ ?_ ?_ r d'
  · intro d' r; cases r; rfl
  · intro b d' r; cases r; rfl
  · intro i t d' r; cases r; rfl
  · intro x t d' r; cases r; rfl
  · intro a o vs n ds h1 h2 h3 h4 h5 ih d' r
    cases r with
    | tup k1 k2 k3 k4 k5 => rw [h2] at k2; cases k2; rw [h4] at k4; cases k4; rw [ih _ k5]
    | lst k1 k2 k3 k4 k5 => rw [h2] at k2; cases k2; exact (ne_tl (h3.symm.trans k3.1)).elim
    | sd k1 ks k2 => exact (ne_td ((dictOf_cls k2 h2).symm.trans h3)).elim
    | idt k1 ks kn k2 => exact (ne_td ((dictOf_cls k2 h2).symm.trans h3)).elim
  · intro a o vs n ds h1 h2 h3 h4 h5 ih d' r
    cases r with
    | lst k1 k2 k3 k4 k5 => rw [h2] at k2; cases k2; rw [h4] at k4; cases k4; rw [ih _ k5]
    | tup k1 k2 k3 k4 k5 => rw [h2] at k2; cases k2; exact (ne_tl (k3.symm.trans h3.1)).elim
    | sd k1 ks k2 => exact (ne_ld ((dictOf_cls k2 h2).symm.trans h3.1)).elim
    | idt k1 ks kn k2 => exact (ne_ld ((dictOf_cls k2 h2).symm.trans h3.1)).elim
  · intro a kvs l ds h1 hs h2 h3 h4 h5 ih d' r
    cases r with
    | tup k1 k2 k3 k4 k5 => exact (ne_td ((dictOf_cls h2 k2).symm.trans k3)).elim
    | lst k1 k2 k3 k4 k5 => exact (ne_ld ((dictOf_cls h2 k2).symm.trans k3.1)).elim
    | sd k1 ks k2 k3 k4 k5 =>
      have := dictOf_uniq h2 k2
      subst this
      have := ih _ k5
      subst h4 k4
      rw [kv_ext (h3.trans k3.symm) this]
    | idt k1 ks kn k2 k3 => exact (kn (nil_of_map k3 (sd_idt h2 k2))).elim
  · intro a kvs l ds h1 hs hn h2 h3 h4 h5 ih d' r
    cases r with
    | tup k1 k2 k3 k4 k5 => exact (ne_td ((dictOf_cls h2 k2).symm.trans k3)).elim
    | lst k1 k2 k3 k4 k5 => exact (ne_ld ((dictOf_cls h2 k2).symm.trans k3.1)).elim
    | idt k1 ks kn k2 k3 k4 k5 =>
      have := dictOf_uniq h2 k2
      subst this
      have := ih _ k5
      subst h4 k4
      rw [kv_ext (h3.trans k3.symm) this]
    | sd k1 ks k2 k3 => exact (hn (nil_of_map h3 (sd_idt k2 h2))).elim
  · intro ds' r; cases r; rfl
  · intro v vs d ds _ _ ih1 ih2 ds' r
    cases r with
    | cons c1 c2 => rw [ih1 _ c1, ih2 _ c2]
end

section
variable {S : S0}
theorem items_eq {U : List Addr} {s : Shared} {A : Around} (n : Nat) (l m : List D) (b' : Bool) (vs ws : Array Value) (e1 : cmpL (cmp n) l m = some b') (r1 : RdA S U s.heap vs.toList l) (r2 : RdA S U s.heap ws.toList m) (hu : A.in1.units + n < cLine) :
    (∀ j (h1 : j < vs.size) (h2 : j < ws.size), EqAt A.in1 s vs[j] ws[j] (eOf (cmp n) l m j)) ∧ b' = (List.range (min vs.size ws.size)).all (eOf (cmp n) l m) := by
  obtain ⟨p, q⟩ := cmpL_spec _ l m b' e1
  refine ⟨fun j h1 h2 => ?_, ?_⟩
  · obtain ⟨d1, g1, g2⟩ := r1.get' (i := j) (v := vs[j]) (by simp [h1])
    obtain ⟨d2, k1, k2⟩ := r2.get' (i := j) (v := ws[j]) (by simp [h2])
    exact eqAt_cmp n d1 d2 _ _ _ A.in1 s (p j d1 d2 g1 k1) g2 k2 hu
  · rw [q, ← r1.length, ← r2.length, Array.length_toList, Array.length_toList]

theorem CmpR.eqTup {l m : List D} {b : Bool} (e : cmp 9 (.tup l) (.tup m) = some b) : CmpR S .Eq (.tup l) (.tup m) b := by
  intro U A s v1 v2 Q E hh hu r1 r2 h
  replace r1 := r1.inv
  cases r1 with
  | @tup xa xo vs xn h1 h2 h3 h4 h5 =>
    replace r2 := r2.inv
    cases r2 with
    | @tup ya yo ws yn k1 k2 k3 k4 k5 =>
      replace e : (cmpL (cmp 8) l m).map (fun e => e && l.length == m.length) = some b := e
      rw [Option.map_eq_some_iff] at e
      obtain ⟨z, e1, rfl⟩ := e
      obtain ⟨p, q⟩ := items_eq (A := A) 8 l m z vs ws e1 h5 k5 (by show A.units + 1 + 8 < cLine; omega)
      have hl1 : vs.size = l.length := by rw [← h5.length, Array.length_toList]
      have hl2 : ws.size = m.length := by rw [← k5.length, Array.length_toList]
      have := RcAt.tuples (s := s) (A := A) (l := xa) (b := ya) ⟨_, h2, h3, _, h4⟩ ⟨_, k2, k3, _, k4⟩ (by omega) p
      rw [← q, hl1, hl2] at this
      exact this S.prog S.w E Q h
theorem CmpR.neTup {l m : List D} {b : Bool} (e : cmp 9 (.tup l) (.tup m) = some b) : CmpR S .NotEq (.tup l) (.tup m) (!b) := by
  intro U A s v1 v2 Q E hh hu r1 r2 h
  replace r1 := r1.inv
  cases r1 with
  | @tup xa xo vs xn h1 h2 h3 h4 h5 =>
    replace r2 := r2.inv
    cases r2 with
    | @tup ya yo ws yn k1 k2 k3 k4 k5 =>
      replace e : (cmpL (cmp 8) l m).map (fun e => e && l.length == m.length) = some b := e
      rw [Option.map_eq_some_iff] at e
      obtain ⟨z, e1, rfl⟩ := e
      obtain ⟨p, q⟩ := items_eq (A := A) 8 l m z vs ws e1 h5 k5 (by show A.units + 1 + 8 < cLine; omega)
      have hl1 : vs.size = l.length := by rw [← h5.length, Array.length_toList]
      have hl2 : ws.size = m.length := by rw [← k5.length, Array.length_toList]
      have := RcNeAt.tuples (s := s) (A := A) (l := xa) (b := ya) ⟨_, h2, h3, _, h4⟩ ⟨_, k2, k3, _, k4⟩ (by omega) p
      rw [← q, hl1, hl2] at this
      exact this S.prog S.w E Q h
theorem CmpR.eqLst {l m : List D} {b : Bool} (e : cmp 9 (.lst l) (.lst m) = some b) : CmpR S .Eq (.lst l) (.lst m) b := by
  intro U A s v1 v2 Q E hh hu r1 r2 h
  replace r1 := r1.inv
  cases r1 with
  | @lst xa xo vs xn h1 h2 h3 h4 h5 =>
    obtain ⟨h3, h3d⟩ := h3
    replace r2 := r2.inv
    cases r2 with
    | @lst ya yo ws yn k1 k2 k3 k4 k5 =>
      obtain ⟨k3, k3d⟩ := k3
      have hl1 : vs.size = l.length := by rw [← h5.length, Array.length_toList]
      have hl2 : ws.size = m.length := by rw [← k5.length, Array.length_toList]
      replace e : (if l.length = m.length then cmpL (cmp 8) l m else some false) = some b := e
      split at e
      · rename_i hlen
        obtain ⟨p, q⟩ := items_eq (A := A) 8 l m b vs ws e h5 k5 (by show A.units + 1 + 8 < cLine; omega)
        have hsz : vs.size = ws.size := by omega
        have := RcAt.lists (s := s) (A := A) (l := xa) (b := ya) ⟨_, h2, h3, _, h4⟩ ⟨_, k2, k3, _, k4⟩ hsz (by omega) p
        rw [hsz, Nat.min_self, ← hsz] at q
        rw [← q] at this
        exact this S.prog S.w E Q h
      · rename_i hlen
        cases e
        exact RcAt.lists_lengths ⟨_, h2, h3, _, h4⟩ ⟨_, k2, k3, _, k4⟩ (by rw [hl1, hl2]; simpa using hlen) (by omega) S.prog S.w E Q h
theorem CmpR.neLst {l m : List D} {b : Bool} (e : cmp 9 (.lst l) (.lst m) = some b) : CmpR S .NotEq (.lst l) (.lst m) (!b) := by
  intro U A s v1 v2 Q E hh hu r1 r2 h
  replace r1 := r1.inv
  cases r1 with
  | @lst xa xo vs xn h1 h2 h3 h4 h5 =>
    obtain ⟨h3, h3d⟩ := h3
    replace r2 := r2.inv
    cases r2 with
    | @lst ya yo ws yn k1 k2 k3 k4 k5 =>
      obtain ⟨k3, k3d⟩ := k3
      have hl1 : vs.size = l.length := by rw [← h5.length, Array.length_toList]
      have hl2 : ws.size = m.length := by rw [← k5.length, Array.length_toList]
      replace e : (if l.length = m.length then cmpL (cmp 8) l m else some false) = some b := e
      split at e
      · rename_i hlen
        obtain ⟨p, q⟩ := items_eq (A := A) 8 l m b vs ws e h5 k5 (by show A.units + 1 + 8 < cLine; omega)
        have hsz : vs.size = ws.size := by omega
        have := RcNeAt.lists (s := s) (A := A) (l := xa) (b := ya) ⟨_, h2, h3, _, h4⟩ ⟨_, k2, k3, _, k4⟩ hsz (by omega) p
        rw [hsz, Nat.min_self, ← hsz] at q
        rw [← q] at this
        exact this S.prog S.w E Q h
      · rename_i hlen
        cases e
        exact RcNeAt.lists_lengths ⟨_, h2, h3, _, h4⟩ ⟨_, k2, k3, _, k4⟩ (by rw [hl1, hl2]; simpa using hlen) (by omega) S.prog S.w E Q h
theorem CmpR.neBool {a b : Bool} : CmpR S .NotEq (.bool a) (.bool b) (!(a == b)) := by
  intro U A s v1 v2 Q E hh hu r1 r2 h
  replace r1 := r1.inv; replace r2 := r2.inv; cases r1; cases r2
  exact RcNeAt.bool_bool a b S.prog S.w E Q h
theorem CmpR.neInt {i j : Int} : CmpR S .NotEq (.int i) (.int j) (i != j) := by intro U A s v1 v2 Q E _ _ r1 r2 h; replace r1 := r1.inv; replace r2 := r2.inv; cases r1; cases r2; exact PyProof.Rows.ne_int h

/-- x in a list -/
noncomputable def inD (d : D) (l : List D) : Bool := l.any fun d' => (cmp 9 d' d).getD false
open Classical in
noncomputable def readD (S : S0) (U : List Addr) (h : Heap) (v : Value) : D := if q : ∃ d, Rd S U h v d then q.choose else .none
theorem readD_eq {U : List Addr} {h : Heap} {v : Value} {d : D} (r : Rd S U h v d) : readD S U h v = d := by
  have q : ∃ d, Rd S U h v d := ⟨d, r⟩
  unfold readD
  rw [dif_pos q]
  exact q.choose_spec.uniq r
theorem readD_map {U : List Addr} {h : Heap} : ∀ {vs : List Value} {ds : List D}, RdA S U h vs ds → vs.map (readD S U h) = ds
  | _, _, .nil => rfl
  | _, _, .cons a b => by rw [List.map_cons, readD_eq a, readD_map b]
theorem in_any {U : List Addr} {s : Shared} {vs : Array Value} {l : List D} {d : D} (r : RdA S U s.heap vs.toList l) : vs.any (fun y => (cmp 9 (readD S U s.heap y) d).getD false) = inD d l := by
  unfold inD
  rw [← readD_map r, List.any_map, ← Array.any_toList]
  rfl
theorem in_items {U : List Addr} {A : Around} {s : Shared} {vs : Array Value} {l : List D} {d : D} {x : Value} (hs : ∀ d' ∈ l, (cmp 9 d' d).isSome = true) (r : RdA S U s.heap vs.toList l) (rx : Rd S U s.heap x d) (hu : A.units + 200 < cLine) :
    ∀ y, y ∈ vs → EqAt A.in1 s y x ((cmp 9 (readD S U s.heap y) d).getD false) := by
  intro y hy
  obtain ⟨i, hi, rfl⟩ := Array.mem_iff_getElem.mp hy
  obtain ⟨d1, g1, g2⟩ := r.get' (i := i) (v := vs[i]) (by simp [hi])
  rw [readD_eq g2]
  obtain ⟨b, hb⟩ := Option.isSome_iff_exists.mp (hs d1 (List.mem_of_getElem? g1))
  rw [hb]
  exact eqAt_cmp 9 d1 d b _ _ A.in1 s hb g2 rx (by show A.units + 1 + 9 < cLine; omega)
theorem CmpR.inLst {d : D} {l : List D} (hs : ∀ d' ∈ l, (cmp 9 d' d).isSome = true) : CmpR S .In d (.lst l) (inD d l) := by
  intro U A s v1 v2 Q E hh hu r1 r2 h
  replace r2 := r2.inv
  cases r2 with
  | @lst ya yo ws yn k1 k2 k3 k4 k5 =>
    obtain ⟨k3, k3d⟩ := k3
    refine in_listAt _ ⟨_, k2, k3, _, k4⟩ (in_items hs k5 r1 hu) ?_
    rw [in_any k5]; exact h
theorem CmpR.notInLst {d : D} {l : List D} (hs : ∀ d' ∈ l, (cmp 9 d' d).isSome = true) : CmpR S .NotIn d (.lst l) (!inD d l) := by
  intro U A s v1 v2 Q E hh hu r1 r2 h
  replace r2 := r2.inv
  cases r2 with
  | @lst ya yo ws yn k1 k2 k3 k4 k5 =>
    obtain ⟨k3, k3d⟩ := k3
    refine notIn_listAt _ ⟨_, k2, k3, _, k4⟩ (in_items hs k5 r1 hu) ?_
    rw [in_any k5]; exact h
end
end Mine

end

section
namespace Mine
open PySem PySem.W PySem.Calls PyProof.Rows

noncomputable def Step (M M' : List Addr) (h h' : Heap) : Prop := KeepM M h h' ∧ ∀ a ∈ M', a ∈ M ∨ h.get? a = none
theorem Step.trans {M M1 M2 : List Addr} {h h1 h2 : Heap} (x : Step M M1 h h1) (y : Step M1 M2 h1 h2) : Step M M2 h h2 := by
  refine ⟨fun b o hb e => ?_, fun a ha => ?_⟩
  · have e1 := x.1 b o hb e
    refine y.1 b o (fun q => ?_) e1
    rcases x.2 b q with q | q
    · exact hb q
    · rw [q] at e; cases e
  · rcases y.2 a ha with q | q
    · exact x.2 a q
    · by_cases hm : a ∈ M
      · exact .inl hm
      · refine .inr ?_
        cases e : h.get? a with
        | none => rfl
        | some o => have := x.1 a o hm e; rw [q] at this; cases this
theorem Step.ret {M M1 : List Addr} {h h1 h2 : Heap} (x : Step M M1 h h1) (y : KeepM M1 h1 h2) : KeepM M h h2 := fun b o hb e => by
  refine y b o (fun q => ?_) (x.1 b o hb e)
  rcases x.2 b q with q | q
  · exact hb q
  · rw [q] at e; cases e
theorem Step.refl (M : List Addr) (h : Heap) : Step M M h h := ⟨fun _ _ _ e => e, fun _ h => .inl h⟩
theorem Step.keep {M : List Addr} {h h' : Heap} (k : Keep h h') : Step M M h h' := ⟨k.m, fun _ h => .inl h⟩

noncomputable def Ex (S : S0) (f : Fm) (y : Dy) (ss : List Stmt) (N : Dy → Prop) (R : D → Dy → Prop) : Prop :=
  ∀ (A : Around) (s : Shared) (Q : Flow → Shared → Prop) (E : Value → Shared → Prop), AOk f.k A → Ok S f y s.heap →
    (∀ y' h' tk, N y' → Step y.M y'.M s.heap h' → Ok S f y' h' → Q .next { s with heap := h', toks := tk }) →
    (∀ v d y' h' tk, R d y' → KeepM y.M s.heap h' → Rd S f.U₀ h' v d → Ok S f y' h' → Q (.ret v) { s with heap := h', toks := tk }) → wpAny (model S.prog S.w) A (execs ss f.env) Q E s
noncomputable def ExS (S : S0) (f : Fm) (y : Dy) (st : Stmt) (N : Dy → Prop) (R : D → Dy → Prop) : Prop :=
  ∀ (A : Around) (s : Shared) (Q : Flow → Shared → Prop) (E : Value → Shared → Prop), AOk f.k A → Ok S f y s.heap →
    (∀ y' h' tk, N y' → Step y.M y'.M s.heap h' → Ok S f y' h' → Q .next { s with heap := h', toks := tk }) →
    (∀ v d y' h' tk, R d y' → KeepM y.M s.heap h' → Rd S f.U₀ h' v d → Ok S f y' h' → Q (.ret v) { s with heap := h', toks := tk }) → wpAny (model S.prog S.w) A (exec st f.env) Q E s

section
variable {S : S0} {f : Fm} {y : Dy} {N N' : Dy → Prop} {R : D → Dy → Prop}

theorem Ex.nil (h : N y) : Ex S f y [] N R := fun _ s _ _ _ ok hn _ => wpAny_execs_nil (hn y s.heap s.toks h (.refl _ _) ok)
theorem Ex.cons {st : Stmt} {ss : List Stmt} (h : ExS S f y st N' R) (hs : ∀ y', N' y' → Ex S f y' ss N R) : Ex S f y (st :: ss) N R := by
  intro A s Q E hA ok hn hr
  refine wpAny_execs_cons (h A s _ _ hA ok (fun y1 h1 t1 n1 s1 ok1 => ?_) fun v d y1 h1 t1 q k r ok1 => hr v d y1 h1 t1 q k r ok1)
  exact hs y1 n1 A _ _ _ hA ok1 (fun y2 h2 t2 n2 s2 ok2 => hn y2 h2 t2 n2 (s1.trans s2) ok2) fun v d y2 h2 t2 q k r ok2 => hr v d y2 h2 t2 q (s1.ret k) r ok2
/-- a statement behind which the context is one -/
theorem Ex.one {st : Stmt} {ss : List Stmt} {y1 : Dy} (h : ExS S f y st (fun y' => y' = y1) R) (hs : Ex S f y1 ss N R) : Ex S f y (st :: ss) N R := Ex.cons h fun _ e => e ▸ hs
theorem Ex.last {st : Stmt} (h : ExS S f y st N R) : Ex S f y [st] N R := Ex.cons h fun _ n => Ex.nil n
theorem Ex.mono {ss : List Stmt} {R' : D → Dy → Prop} (h : Ex S f y ss N R) (hn : ∀ y', N y' → N' y') (hr : ∀ d y', R d y' → R' d y') : Ex S f y ss N' R' :=
  fun A s Q E hA ok qn qr => h A s Q E hA ok (fun y' h' tk n st ok' => qn y' h' tk (hn y' n) st ok') fun v d y1 h' tk r k rd ok1 => qr v d y1 h' tk (hr d y1 r) k rd ok1
theorem ExS.ret {e : Expr} {d : D} {pos} (h : Ev S f y e d) (hr : R d y) : ExS S f y (.Return (some e) pos) N R := by
  intro A s Q E hA ok hn hq
  refine wpAny_Return_some (h A s _ _ hA ok fun v h1 t1 k1 r1 => ?_)
  exact hq v d y h1 t1 hr k1.m (r1.less fun a ha => (ok.uSub a ha).1) (ok.keeps k1)
theorem ExS.if {t : Expr} {b : Bool} {body orelse : List Stmt} {pos} (h : EvT S f y t b) (h1 : b = true → Ex S f y body N R) (h2 : b = false → Ex S f y orelse N R) : ExS S f y (.If t body orelse pos) N R := by
  intro A s Q E hA ok hn hq
  refine wpAny_If (h A s _ _ hA ok fun g1 t1 k1 => ?_)
  cases b with
  | true => exact h1 rfl A _ _ _ hA (ok.keeps k1) (fun y2 h2 t2 n2 s2 ok2 => hn y2 h2 t2 n2 ((Step.keep k1).trans s2) ok2) fun v d y2 h2 t2 q k r ok2 => hq v d y2 h2 t2 q ((Step.keep k1).ret k) r ok2
  | false => exact h2 rfl A _ _ _ hA (ok.keeps k1) (fun y2 h2 t2 n2 s2 ok2 => hn y2 h2 t2 n2 ((Step.keep k1).trans s2) ok2) fun v d y2 h2 t2 q k r ok2 => hq v d y2 h2 t2 q ((Step.keep k1).ret k) r ok2

/-- one object that the frame may change is changed -/
theorem Ok.poke {h h' : Heap} {c : Addr} {look' : List (Str × LV)} (x : Ok S f y h) (hc : c ∈ y.M) (hs : Heap.SameBut c h h') (hl : ∃ o, h'.get? c = some o) (hns : ∃ m, h'.Ns f.env.locals m)
    (hcells : ∀ z k, f.env.cells.lookup z = some k → ∃ v, h'.IsCell k v) (vars' : ∀ z lv, look'.lookup z = some lv → ∃ v, VarAt f.env h' z v ∧ LvOk S y.M y.U f.env.locals h' v lv)
    (apart' : ∀ x x' a ds ds', look'.lookup x = some (.own a ds) → look'.lookup x' = some (.own a ds') → x = x') : Ok S f { y with look := look' } h' where
  top0 := x.top0
  keep := fun b o e => (hs.2 b (fun q => by have h1 := x.mNew c hc; have h2 := Heap.lt_size e; rw [q] at h2; exact absurd h2 (Nat.not_lt.mpr h1))).trans (x.keep b o e)
  live := fun a ha => by
    by_cases q : a = c
    · subst q; exact hl
    · obtain ⟨o, e⟩ := x.live a ha; exact ⟨o, (hs.2 a q).trans e⟩
  mU := x.mU
  mNew := x.mNew
  uSub := x.uSub
  kind := x.kind
  glob := x.glob
  blt := x.blt
  locM := x.locM
  ns := hns
  cells := fun z k e => ⟨(x.cells z k e).1, hcells z k e⟩
  cellsApart := x.cellsApart
  vars := vars'
  apart := apart'
theorem KeepM.of_same {M : List Addr} {h h' : Heap} {c : Addr} (hc : c ∈ M) (hs : Heap.SameBut c h h') : KeepM M h h' := fun b o hb e => (hs.2 b fun q => hb (q ▸ hc)).trans e
theorem Rd.same {U : List Addr} {h h' : Heap} {c : Addr} {v : Value} {d : D} (r : Rd S U h v d) (hc : c ∈ U) (hs : Heap.SameBut c h h') : Rd S U h' v d := r.mono (fun b o hb e => (hs.2 b fun q => hb (q ▸ hc)).trans e) fun _ _ _ n => n
theorem RdA.same {U : List Addr} {h h' : Heap} {c : Addr} {v : List Value} {d : List D} (r : RdA S U h v d) (hc : c ∈ U) (hs : Heap.SameBut c h h') : RdA S U h' v d := r.mono (fun b o hb e => (hs.2 b fun q => hb (q ▸ hc)).trans e) fun _ _ _ n => n
theorem OwnAt.same {U : List Addr} {h h' : Heap} {a c : Addr} {d : D} (r : OwnAt S U h a d) (hc : c ∈ U) (hs : Heap.SameBut c h h') (hn : a ≠ c) : OwnAt S U h' a d := r.mono (fun o e => (hs.2 a hn).trans e) (fun b o hb e => (hs.2 b fun q => hb (q ▸ hc)).trans e) fun _ _ _ n => n
theorem ns_ne_cell {h : Heap} {a c : Addr} {m : Str → Option Value} {v : Option Value} (n : h.Ns a m) (k : h.IsCell c v) : c ≠ a := fun e => by
  obtain ⟨o, es, ep, ho, hd, _⟩ := n
  obtain ⟨o', ho', hd'⟩ := k
  rw [e, ho] at ho'; cases ho'; rw [hd] at hd'; cases hd'
theorem ns_ne_list {h : Heap} {a c : Addr} {m : Str → Option Value} {vs : List Value} {k : Nat} (n : h.Ns a m) (e1 : h.get? c = some (lobj vs k)) : c ≠ a := fun e => by
  obtain ⟨o, es, ep, ho, hd, _⟩ := n
  rw [e, ho] at e1; cases e1; cases hd
theorem cell_ne_list {h : Heap} {a c : Addr} {v : Option Value} {vs : List Value} {k : Nat} (n : h.IsCell a v) (e1 : h.get? c = some (lobj vs k)) : c ≠ a := fun e => by
  obtain ⟨o, ho, hd⟩ := n
  rw [e, ho] at e1; cases e1; cases hd
theorem ns_fun {h : Heap} {a : Addr} {m m' : Str → Option Value} (x : h.Ns a m) (y : h.Ns a m') : m = m' := by
  obtain ⟨o, es, ep, ho, hd, _, hf⟩ := x
  obtain ⟨o', es', ep', ho', hd', _, hf'⟩ := y
  rw [ho] at ho'; cases ho'; rw [hd] at hd'; cases hd'
  funext n; rw [← hf, ← hf']

theorem lookup_cons_ne {α : Type} {x z : Str} {a : α} {l : List (Str × α)} (h : z ≠ x) : List.lookup z ((x, a) :: l) = l.lookup z := by
  rw [List.lookup_cons, beq_eq_false_iff_ne.mpr h]
theorem lookup_cons_eq {α : Type} {x : Str} {a : α} {l : List (Str × α)} : List.lookup x ((x, a) :: l) = some a := by
  rw [List.lookup_cons, beq_self_eq_true]

/-- a name is stored -/
theorem store_lv {x : Str} {v : Value} {lv : LV} {A : Around} {s : Shared} {Q : Unit → Shared → Prop} {E : Value → Shared → Prop} (ok : Ok S f y s.heap) (hk : f.env.kindOf x = some .local ∨ (f.env.kindOf x = some .cell ∧ (f.env.cells.lookup x).isSome = true ∧ (x == ("__classdict__" : Str)) = false))
    (hv : LvOk S y.M y.U f.env.locals s.heap v lv) (hap : ∀ a ds, lv = .own a ds → ∀ x' ds', y.look.lookup x' = some (.own a ds') → x' = x)
    (h : ∀ h' tk, KeepM y.M s.heap h' → Ok S f { y with look := (x, lv) :: y.look } h' → Q () { s with heap := h', toks := tk }) : wpAny (model S.prog S.w) A (storeName f.env x v) Q E s := by
  have apart' : ∀ x1 x2 a ds ds', List.lookup x1 ((x, lv) :: y.look) = some (.own a ds) → List.lookup x2 ((x, lv) :: y.look) = some (.own a ds') → x1 = x2 := by
    intro x1 x2 a ds ds' e1 e2
    by_cases h1 : x1 = x
    · by_cases h2 : x2 = x
      · rw [h1, h2]
      · subst h1
        rw [lookup_cons_eq] at e1
        rw [lookup_cons_ne h2] at e2
        cases e1
        exact (hap a ds rfl x2 ds' e2).symm
    · rw [lookup_cons_ne h1] at e1
      by_cases h2 : x2 = x
      · subst h2
        rw [lookup_cons_eq] at e2
        cases e2
        exact hap a ds' rfl x1 ds e1
      · rw [lookup_cons_ne h2] at e2
        exact ok.apart x1 x2 a ds ds' e1 e2
  have lvsame : ∀ {c : Addr} {h' : Heap} {v : Value} {l : LV}, c ∈ y.M → Heap.SameBut c s.heap h' → (∀ (a : Addr) d, a ≠ f.env.locals → OwnAt S y.U s.heap a d → a ≠ c) → LvOk S y.M y.U f.env.locals s.heap v l → LvOk S y.M y.U f.env.locals h' v l := by
    intro c h' v l hc hs hne q
    cases l with
    | val d => exact Rd.same q (ok.mU c hc) hs
    | own a ds =>
      obtain ⟨e, u, nl, g⟩ := q
      exact ⟨e, u, nl, g.same (ok.mU c hc) hs (hne a ds nl g)⟩
  obtain ⟨m, hm⟩ := ok.ns
  rcases hk with hk | ⟨hk, hc, hcd⟩
  · refine wpAny_storeName_local hk hm (fun h' hn hs => ?_) (by rw [ok.kind]; rfl)
    refine h h' _ (KeepM.of_same ok.locM hs) (ok.poke ok.locM hs ?_ ⟨_, hn⟩ (fun z k e => ?_) (fun z l e => ?_) apart')
    · obtain ⟨o, _, _, ho, _⟩ := hn; exact ⟨o, ho⟩
    · obtain ⟨_, v, c⟩ := ok.cells z k e
      exact ⟨v, c.sameBut hs (ns_ne_cell hm c)⟩
    · by_cases hz : z = x
      · subst hz
        rw [lookup_cons_eq] at e
        cases e
        exact ⟨v, .inl ⟨hk, _, hn, by simp⟩, lvsame ok.locM hs (fun a d n g => n) hv⟩
      · rw [lookup_cons_ne hz] at e
        obtain ⟨v', a, b⟩ := ok.vars z l e
        refine ⟨v', ?_, lvsame ok.locM hs (fun a d n g => n) b⟩
        rcases a with ⟨a1, m', a2, a3⟩ | ⟨a1, a2, c, a3, a4⟩
        · have := ns_fun hm a2; subst this
          exact .inl ⟨a1, _, hn, by simp [hz, a3]⟩
        · exact .inr ⟨a1, a2, c, a3, a4.sameBut hs (ns_ne_cell hm a4)⟩
  · obtain ⟨c, hc⟩ := Option.isSome_iff_exists.mp hc
    obtain ⟨cM, v0, cv⟩ := ok.cells x c hc
    refine wpAny_storeName_cell ok.kind hk hc cv fun h' hn hs => ?_
    refine h h' s.toks (KeepM.of_same cM hs) (ok.poke cM hs ?_ ⟨m, hm.sameBut hs (Ne.symm (ns_ne_cell hm cv))⟩ (fun z k e => ?_) (fun z l e => ?_) apart')
    · obtain ⟨o, ho, _⟩ := hn; exact ⟨o, ho⟩
    · by_cases hz : k = c
      · subst hz; exact ⟨_, hn⟩
      · obtain ⟨_, v, q⟩ := ok.cells z k e
        exact ⟨v, q.sameBut hs hz⟩
    · by_cases hz : z = x
      · subst hz
        rw [lookup_cons_eq] at e
        cases e
        exact ⟨v, .inr ⟨.inl hk, hcd, c, hc, hn⟩, lvsame cM hs (fun a d n g => g.ne_cell cv) hv⟩
      · rw [lookup_cons_ne hz] at e
        obtain ⟨v', a, b⟩ := ok.vars z l e
        refine ⟨v', ?_, lvsame cM hs (fun a d n g => g.ne_cell cv) b⟩
        rcases a with ⟨a1, m', a2, a3⟩ | ⟨a1, a2, c', a3, a4⟩
        · exact .inl ⟨a1, m', a2.sameBut hs (Ne.symm (ns_ne_cell a2 cv)), a3⟩
        · exact .inr ⟨a1, a2, c', a3, a4.sameBut hs fun q => hz (ok.cellsApart _ _ _ a3 (q ▸ hc))⟩

noncomputable def CanStore (f : Fm) (x : Str) : Prop := f.env.kindOf x = some .local ∨ (f.env.kindOf x = some .cell ∧ (f.env.cells.lookup x).isSome = true ∧ (x == ("__classdict__" : Str)) = false)
theorem ExS.assign {x : Str} {e : Expr} {d : D} {p pos : Pos} (h : Ev S f y e d) (hk : CanStore f x) (hs : swapsWith e (some (.Name x p)) pos.line f.env = pure false) : ExS S f y (.Assign [.Name x p] e pos) (fun y' => y' = { y with look := (x, .val d) :: y.look }) R := by
  intro A s Q E hA ok hn hq
  refine wpAny_Assign_Name (h A s _ _ hA ok fun v h1 t1 k1 r1 => ?_) hs
  refine store_lv (lv := .val d) (ok.keeps k1) hk r1 (fun _ _ e => by cases e) fun h2 t2 k2 ok2 => ?_
  exact hn _ h2 t2 rfl ((Step.keep k1).trans ⟨k2, fun _ h => .inl h⟩) ok2
end
end Mine

end

section
namespace Mine
open PySem PySem.W PySem.Calls PyProof.Rows

section
variable {S : S0} {f : Fm} {y : Dy} {N N' : Dy → Prop} {R : D → Dy → Prop}

theorem fresh_none (h : Heap) : h.get? h.objs.size = none := by
  cases e : h.get? h.objs.size with
  | none => rfl
  | some o => exact absurd (Heap.lt_size e) (Nat.lt_irrefl _)
/-- a new object of the frame's own: it may be changed, it is read by nothing -/
theorem Ok.push (x : Ok S f y h) (o : Obj) (hf : o.isFreed = false) : Ok S f { y with U := h.objs.size :: y.U, M := h.objs.size :: y.M } (h.push o) := by
  have k := Keep.push h o
  have x' := x.keeps k
  refine { x' with live := fun a ha => ?_, mU := fun a ha => ?_, mNew := fun a ha => ?_, uSub := fun a ha => ⟨List.mem_cons_of_mem _ (x.uSub a ha).1, (x.uSub a ha).2⟩, locM := List.mem_cons_of_mem _ x.locM, cells := fun z c e => ?_, vars := fun z l e => ?_ }
  · rcases List.mem_cons.mp ha with rfl | ha
    · exact ⟨o, Heap.get?_push_size _ hf⟩
    · exact x'.live a ha
  · rcases List.mem_cons.mp ha with rfl | ha
    · exact List.mem_cons_self
    · exact List.mem_cons_of_mem _ (x.mU a ha)
  · rcases List.mem_cons.mp ha with rfl | ha
    · refine Nat.le_of_not_lt fun q => ?_
      obtain ⟨o', es, ep, ho, _⟩ := x.ns
      have h1 := x.mNew _ x.locM
      have : f.env.locals < h.objs.size := by obtain ⟨m, hm⟩ := x.ns; exact hm.lt
      have h2 : f.g₀.objs.size ≤ f.env.locals := h1
      exact absurd (Nat.lt_of_le_of_lt h2 this) (Nat.not_lt.mpr (Nat.le_of_lt q))
    · exact x.mNew a ha
  · obtain ⟨a, b⟩ := x'.cells z c e
    exact ⟨List.mem_cons_of_mem _ a, b⟩
  · obtain ⟨v, a, b⟩ := x.vars z l e
    refine ⟨v, a.keep k, ?_⟩
    cases l with
    | val d => exact Rd.mono (fun b o _ e => k b o e) (fun b o e hb q => by
        rcases List.mem_cons.mp q with rfl | q
        · exact absurd (Heap.lt_size e) (Nat.lt_irrefl _)
        · exact hb q) b
    | own a ds =>
      obtain ⟨e1, u, nl, g⟩ := b
      refine ⟨e1, List.mem_cons_of_mem _ u, nl, OwnAt.mono g (fun o e => k _ o e) (fun b o _ e => k b o e) (fun b o e hb q => ?_)⟩
      rcases List.mem_cons.mp q with rfl | q
      · exact absurd (Heap.lt_size e) (Nat.lt_irrefl _)
      · exact hb q

/-- x = [..]: the frame's own list -/
theorem ExS.assignOwn {x : Str} {es : List Expr} {ds : List D} {p pos lpos : Pos} (h : EvL S f y es ds) (hz : ds.length ≤ 1000) (hk : CanStore f x) (hs : swapsWith (.List es lpos) (some (.Name x p)) pos.line f.env = pure false) :
    ExS S f y (.Assign [.Name x p] (.List es lpos) pos) (fun y' => ∃ a, y' = { U := a :: y.U, M := a :: y.M, look := (x, .own a (.lst ds)) :: y.look }) R := by
  intro A s Q E hA ok hn hq
  refine wpAny_Assign_Name (List_ (h lpos A s _ _ hA ok fun vs h1 t1 k1 r1 => ?_)) hs
  refine wpAny_newObj_type ?_ (by show vs.toArray.size ≤ sizeLine; rw [List.size_toArray]; exact r1.short hz)
  have ok1 := (ok.keeps k1).push (o := lobj vs 0) rfl
  have kp := Keep.push h1 (lobj vs 0)
  refine store_lv (S := S) (f := f) (lv := .own h1.objs.size (.lst ds)) ok1 hk ⟨rfl, List.mem_cons_self, fun q => ?_, .lst (Heap.get?_push_size _ rfl) ?_⟩ (fun a ds' e x' ds'' e' => ?_) fun h2 t2 k2 ok2 => ?_
  · obtain ⟨m, hm⟩ := (ok.keeps k1).ns
    exact Nat.lt_irrefl _ (q ▸ hm.lt)
  · refine RdA.mono (fun b o _ e => kp b o e) (fun b o e hb q => ?_) r1
    rcases List.mem_cons.mp q with rfl | q
    · exact absurd (Heap.lt_size e) (Nat.lt_irrefl _)
    · exact hb q
  · cases e
    exfalso
    obtain ⟨v, _, hv⟩ := (ok.keeps k1).vars x' _ e'
    obtain ⟨_, _, _, g⟩ := hv
    obtain ⟨o, g⟩ := g.live
    exact absurd (Heap.lt_size g) (Nat.lt_irrefl _)
  · refine hn _ h2 t2 ⟨h1.objs.size, rfl⟩ ⟨fun b o hb e => ?_, fun a ha => ?_⟩ ok2
    · refine k2 b o (fun q => ?_) (kp b o (k1 b o e))
      rcases List.mem_cons.mp q with rfl | q
      · exact absurd (Heap.lt_size (k1 _ _ e)) (Nat.lt_irrefl _)
      · exact hb q
    · rcases List.mem_cons.mp ha with rfl | ha
      · refine .inr ?_
        cases e : s.heap.get? h1.objs.size with
        | none => rfl
        | some o => exact absurd (Heap.lt_size (k1 _ _ e)) (Nat.lt_irrefl _)
      · exact .inl ha

/-- x.append(e), x the frame's own list -/
theorem ExS.append {x : Str} {e : Expr} {d : D} {a : Addr} {ds : List D} {p apos cpos pos : Pos} (hx : y.look.lookup x = some (.own a (.lst ds))) (h : Ev S f y e d) (hz : ds.length ≤ 1000)
    (hse : starEach [e] f.env = [(false, eval e f.env)]) (hline : (apos.endLine == cpos.line) = true) (hd : (x == ("__debug__" : Str)) = false) (hi : interactive f.env = false)
    (hs : swapsWith (.Call (.Attribute (.Name x p) "append" apos) [e] [] cpos) none pos.line f.env = pure false) (hbase : attributeBase (.Name x p) "append" f.env (eval (.Name x p) f.env) = eval (.Name x p) f.env) :
    ExS S f y (.Expr (.Call (.Attribute (.Name x p) "append" apos) [e] [] cpos) pos) (fun y' => y' = { y with look := (x, .own a (.lst (ds ++ [d]))) :: y.look }) R := by
  intro A s Q E hA ok hn hq
  have hb : backTo cpos (starEach [e] f.env) = [(false, eval e f.env)] := by rw [hse]; rfl
  obtain ⟨v, hv, rfl, aM, aL, og⟩ := ok.vars x _ hx
  obtain @⟨vs, n, _, g, r⟩ := og
  refine wpAny_Expr (wpAny_Call_append hbase (by rw [hb]; rfl) hline hb ?_) hi hs
  refine load_var ok.kind hv hd ⟨a, vs.toArray, rfl, ⟨_, n, g, rfl, rfl, rfl⟩, ?_⟩
  refine h A s _ _ hA ok fun v1 h1 t1 k1 r1 => ?_
  refine append_at (k1 _ _ g) (fun h2 hs2 g2 => ?_) (by rw [List.size_toArray]; exact r.short hz)
  have ok1 := ok.keeps k1
  have aU := ok.mU a aM
  have g1 := k1 _ _ g
  refine hn _ h2 t1 rfl ((Step.keep k1).trans ⟨KeepM.of_same aM hs2, fun _ h => .inl h⟩) (ok1.poke aM hs2 ⟨_, g2⟩ ?_ (fun z k e => ?_) (fun z l e => ?_) ?_)
  · obtain ⟨m, hm⟩ := ok1.ns
    exact ⟨m, hm.sameBut hs2 (Ne.symm (ns_ne_list hm g1))⟩
  · obtain ⟨_, v, q⟩ := ok1.cells z k e
    exact ⟨v, q.sameBut hs2 (Ne.symm (cell_ne_list q g1))⟩
  · have vat : ∀ {z : Str} {v : Value}, VarAt f.env h1 z v → VarAt f.env h2 z v := by
      rintro z v (⟨a1, m', a2, a3⟩ | ⟨a1, a2, c, a3, a4⟩)
      · exact .inl ⟨a1, m', a2.sameBut hs2 (Ne.symm (ns_ne_list a2 g1)), a3⟩
      · exact .inr ⟨a1, a2, c, a3, a4.sameBut hs2 (Ne.symm (cell_ne_list a4 g1))⟩
    by_cases hzx : z = x
    · subst hzx
      rw [lookup_cons_eq] at e
      cases e
      refine ⟨_, vat (hv.keep k1), rfl, aM, aL, .lst (vs := vs ++ [v1]) (n := n + 1) ?_ ?_⟩
      · rw [g2]; simp [lobj]
      · exact ((r.keep k1).same aU hs2).append (.cons (r1.same aU hs2) .nil)
    · rw [lookup_cons_ne hzx] at e
      obtain ⟨v', a', b'⟩ := ok1.vars z l e
      refine ⟨v', vat a', ?_⟩
      cases l with
      | val d => exact Rd.same b' aU hs2
      | own a2 ds2 =>
        obtain ⟨e1, u, nl, g3⟩ := b'
        refine ⟨e1, u, nl, g3.same aU hs2 fun q => ?_⟩
        subst q
        exact hzx (ok.apart z x a2 ds2 _ e hx)
  · intro x1 x2 b ds1 ds2 e1 e2
    by_cases h1 : x1 = x
    · by_cases h2 : x2 = x
      · rw [h1, h2]
      · subst h1
        rw [lookup_cons_eq] at e1
        rw [lookup_cons_ne h2] at e2
        cases e1
        exact ok.apart _ _ _ _ _ hx e2
    · rw [lookup_cons_ne h1] at e1
      by_cases h2 : x2 = x
      · subst h2
        rw [lookup_cons_eq] at e2
        cases e2
        exact ok.apart _ _ _ _ _ e1 hx
      · rw [lookup_cons_ne h2] at e2
        exact ok.apart _ _ _ _ _ e1 e2

theorem lookup_mem {α : Type} {z : Str} {l : α} : ∀ {L : List (Str × α)}, L.lookup z = some l → (z, l) ∈ L
  | (k, v) :: L, e => by
    by_cases h : z = k
    · subst h; rw [lookup_cons_eq] at e; cases e; exact List.mem_cons_self
    · rw [lookup_cons_ne h] at e; exact List.mem_cons_of_mem _ (lookup_mem e)
/-- the names' data alone -/
noncomputable def reach (look : List (Str × LV)) (names : List Str) : List (Str × LV) := names.filterMap fun z => match look.lookup z with
  | some (.val d) => some (z, .val d)
  | _ => none
theorem reach_spec {look : List (Str × LV)} {names : List Str} {z : Str} {l : LV} (e : (reach look names).lookup z = some l) : look.lookup z = some l ∧ ∃ d, l = .val d := by
  obtain ⟨z', _, h⟩ := List.mem_filterMap.mp (lookup_mem e)
  split at h
  · rename_i d hd; cases h; exact ⟨hd, d, rfl⟩
  · cases h

/-- an own list is changed no more -/
theorem Ok.freeze {h : Heap} {x : Str} {a : Addr} {ds : List D} (names : List Str) (hbor : f.bor = false) (ok : Ok S f y h) (hx : y.look.lookup x = some (.own a (.lst ds))) :
    Ok S f { U := y.U.filter (· ≠ a), M := y.M.filter (· ≠ a), look := (x, .val (.lst ds)) :: reach y.look names } h := by
  obtain ⟨v, hv, rfl, aM, aL, og⟩ := ok.vars x _ hx
  obtain @⟨vs, n, _, g, r⟩ := og
  have hsub : ∀ b ∈ y.U.filter (· ≠ a), b ∈ y.U := fun b hb => (List.mem_filter.mp hb).1
  obtain ⟨m, hm⟩ := ok.ns
  have hap : ∀ x1 b ds1, List.lookup x1 ((x, LV.val (.lst ds)) :: reach y.look names) ≠ some (.own b ds1) := by
    intro x1 b ds1 e
    by_cases h1 : x1 = x
    · subst h1; rw [lookup_cons_eq] at e; cases e
    · rw [lookup_cons_ne h1] at e
      obtain ⟨_, d, q⟩ := reach_spec e
      cases q
  refine { ok with live := fun b hb => ok.live b (hsub b hb), mU := fun b hb => ?_, mNew := fun b hb => ok.mNew b (List.mem_filter.mp hb).1, uSub := fun b hb => ?_, locM := ?_, cells := fun z c e => ?_, vars := fun z l e => ?_, apart := fun x1 x2 b ds1 ds2 e1 _ => absurd e1 (hap _ _ _) }
  · obtain ⟨h1, h2⟩ := List.mem_filter.mp hb
    exact List.mem_filter.mpr ⟨ok.mU b h1, h2⟩
  · refine ⟨List.mem_filter.mpr ⟨(ok.uSub b hb).1, ?_⟩, (ok.uSub b hb).2⟩
    simp only [ne_eq, decide_not, Bool.not_eq_eq_eq_not, Bool.not_true, decide_eq_false_iff_not]
    intro q
    have := (ok.uSub b ‹_›).2 hbor
    rw [q] at this
    exact absurd this (Nat.not_lt.mpr (ok.mNew a aM))
  · refine List.mem_filter.mpr ⟨ok.locM, ?_⟩
    simpa using Ne.symm (ns_ne_list hm g)
  · obtain ⟨h1, v, h2⟩ := ok.cells z c e
    exact ⟨List.mem_filter.mpr ⟨h1, by simpa using Ne.symm (cell_ne_list h2 g)⟩, v, h2⟩
  · by_cases hz : z = x
    · subst hz
      rw [lookup_cons_eq] at e
      cases e
      exact ⟨_, hv, .lst (fun q => by simpa using (List.mem_filter.mp q).2) g ⟨rfl, rfl⟩ rfl (RdA.less r hsub)⟩
    · rw [lookup_cons_ne hz] at e
      obtain ⟨e', d, rfl⟩ := reach_spec e
      obtain ⟨v', h1, h2⟩ := ok.vars z _ e'
      exact ⟨v', h1, Rd.less h2 hsub⟩
theorem Ex.freeze {x : Str} {a : Addr} {ds : List D} {ss : List Stmt} (names : List Str) (hbor : f.bor = false) (hx : y.look.lookup x = some (.own a (.lst ds))) (h : Ex S f { U := y.U.filter (· ≠ a), M := y.M.filter (· ≠ a), look := (x, .val (.lst ds)) :: reach y.look names } ss N R) : Ex S f y ss N R := by
  intro A s Q E hA ok hn hq
  have sub : ∀ b ∈ y.M.filter (· ≠ a), b ∈ y.M := fun b hb => (List.mem_filter.mp hb).1
  refine h A s Q E hA (ok.freeze names hbor hx) (fun y' h' tk n st ok' => hn y' h' tk n ⟨fun b o hb e => st.1 b o (fun q => hb (sub b q)) e, fun b hb => (st.2 b hb).imp (sub b) id⟩ ok') fun v d y1 h' tk r k rd ok1 => hq v d y1 h' tk r (fun b o hb e => k b o (fun q => hb (sub b q)) e) rd ok1
/-- fewer names -/
theorem Ok.narrow {h : Heap} (names : List Str) (ok : Ok S f y h) : Ok S f { y with look := reach y.look names } h :=
  { ok with vars := fun z l e => ok.vars z l (reach_spec e).1, apart := fun x1 x2 b ds1 ds2 e1 _ => by obtain ⟨_, d, q⟩ := reach_spec e1; cases q }
end
end Mine

end

section
namespace Mine
open PySem PySem.W PySem.Calls PyProof.Rows

structure Itr (S : S0) (A : Around) (U : List Addr) (tgt : Expr) (I : Addr) (wr : List Addr) (ds : List D) (St : Nat → Heap → Prop) (Mid : Nat → Value → Heap → Prop) : Prop where
  live : ∀ i h, St i h → ∀ a ∈ wr, ∃ o, h.get? a = some o
  frame : ∀ i h h', St i h → (∀ b o, b ∉ U → h.get? b = some o → h'.get? b = some o) → St i h'
  next : ∀ i (s : Shared) (Q : Option Value → Shared → Prop) (E : Value → Shared → Prop), i < ds.length → (∀ a ∈ U, ∃ o, s.heap.get? a = some o) → St i s.heap →
    (∀ v h' tk, Mid i v h' → KeepM wr s.heap h' → Q (some v) { s with heap := h', toks := tk }) → wpAny (model S.prog S.w) A (pyNext (.ref I)) Q E s
  go : ∀ i v (s : Shared) (Q : Unit → Shared → Prop) (E : Value → Shared → Prop), Mid i v s.heap →
    (∀ h' d, ds[i]? = some d → Rd S (wr ++ U) h' v d → St (i + 1) h' → KeepM wr s.heap h' → Q () { s with heap := h' }) → wpAny (model S.prog S.w) A (letOwnedTupleGo tgt (.ref I) v) Q E s
  done : ∀ (s : Shared) (Q : Option Value → Shared → Prop) (E : Value → Shared → Prop), St ds.length s.heap →
    (∀ h' tk, KeepM wr s.heap h' → Q none { s with heap := h', toks := tk }) → wpAny (model S.prog S.w) A (pyNext (.ref I)) Q E s
  self : ∀ i (s : Shared) (Q : Value → Shared → Prop) (E : Value → Shared → Prop), St i s.heap → Q (.ref I) s → wpAny (model S.prog S.w) A (pyIter (.ref I)) Q E s

noncomputable def Src (S : S0) (f : Fm) (y : Dy) (e tgt : Expr) (ds : List D) : Prop :=
  ∀ (A : Around) (s : Shared) (Q E : Value → Shared → Prop), AOk f.k A → Ok S f y s.heap →
    (∀ I wr h' tk, (∀ X : List Addr, (∀ a ∈ X, h'.get? a = none) → ∃ St Mid, Itr S A (X ++ y.U) tgt I wr ds St Mid ∧ St 0 h') → Keep s.heap h' → (∀ a ∈ wr, s.heap.get? a = none) → (∀ a ∈ wr, ∃ o, h'.get? a = some o) → Q (.ref I) { s with heap := h', toks := tk }) →
    wpAny (model S.prog S.w) A (eval e f.env) (fun x s₁ => wpAny (model S.prog S.w) A (pyIter x) Q E s₁) E s

noncomputable def ownsNames : List String := ["enumerate", "zip", "dict_itemiterator", "dict_reverseitemiterator", "odict_iterator", "itertools.zip_longest", "itertools.pairwise"]
theorem letGo_other {M : Model} {A : Around} {E : Value → Shared → Prop} {s : Shared} {tgt : Expr} {I : Addr} {o : Obj} {n : String} {v : Value} {vs : Array Value} {Q : Unit → Shared → Prop} (ho : s.heap.get? I = some o) (hc : o.cls = .type n) (hd : o.data = .fields vs) (hn : ownsNames.contains n = false) (h : Q () s) :
    wpAny M A (letOwnedTupleGo tgt (.ref I) v) Q E s := by
  have main : ∀ a : Addr, wpAny M A (do
      let o ← load I
      match o.cls, o.data with
      | .type n, .fields vs =>
        if ownsNames.contains n && vs[0]? == some (rawInt a) then
          rule "for.unpacks-the-owned-tuple"
          updateField I 0 .none
      | _, _ => pure () : Sem Unit) Q E s := by
    intro a
    refine wpAny_bind (wpAny_load ho ?_)
    rw [hc, hd]
    show wpAny M A (if (ownsNames.contains n && vs[0]? == some (rawInt a)) = true then _ else _) Q E s
    rw [if_neg (by rw [hn, Bool.false_and]; exact Bool.false_ne_true)]
    exact wpAny_pure h
  cases tgt <;> first
    | exact wpAny_pure h
    | (cases v <;> first
        | exact main _
        | exact wpAny_pure h)

section
variable {S : S0} {f : Fm} {y : Dy}

theorem rd_fresh {U : List Addr} {h h' : Heap} {wr : List Addr} {v : Value} {d : D} (r : Rd S U h v d) (k : Keep h h') (hw : ∀ a ∈ wr, h.get? a = none) : Rd S (wr ++ U) h' v d :=
  r.mono (fun b o _ e => k b o e) fun b o e hb q => by
    rcases List.mem_append.mp q with q | q
    · rw [hw b q] at e; cases e
    · exact hb q
theorem rdA_fresh {U : List Addr} {h h' : Heap} {wr : List Addr} {v : List Value} {d : List D} (r : RdA S U h v d) (k : Keep h h') (hw : ∀ a ∈ wr, h.get? a = none) : RdA S (wr ++ U) h' v d :=
  r.mono (fun b o _ e => k b o e) fun b o e hb q => by
    rcases List.mem_append.mp q with q | q
    · rw [hw b q] at e; cases e
    · exact hb q
theorem Rd.keepM {U M : List Addr} {h h' : Heap} {v : Value} {d : D} (r : Rd S U h v d) (k : KeepM M h h') (hm : ∀ a ∈ M, a ∈ U) : Rd S U h' v d := r.mono (fun b o hb e => k b o (fun q => hb (hm b q)) e) fun _ _ _ n => n
theorem RdA.keepM {U M : List Addr} {h h' : Heap} {v : List Value} {d : List D} (r : RdA S U h v d) (k : KeepM M h h') (hm : ∀ a ∈ M, a ∈ U) : RdA S U h' v d := r.mono (fun b o hb e => k b o (fun q => hb (hm b q)) e) fun _ _ _ n => n

theorem Src.list {e tgt : Expr} {ds : List D} (he : Ev S f y e (.lst ds)) : Src S f y e tgt ds := by
  intro A s Q E hA ok hq
  refine he A s _ _ hA ok fun v h1 t1 k1 r1 => ?_
  have ok1 := ok.keeps k1
  replace r1 := r1.inv
  cases r1 with
  | @lst ax o vs n ha ho hc hd r =>
    obtain ⟨hc, hcd⟩ := hc
    have hl : h1.IsList ax vs := ⟨o, ho, hc, n, hd⟩
    refine wpAny_pyIter_list (s := { s with heap := h1, toks := t1 }) hl ?_
    have hIU : h1.objs.size ∉ y.U := fresh_notin ok1.live
    have hne : ax ≠ h1.objs.size := Nat.ne_of_lt (Heap.lt_size ho)
    have kp := Keep.push h1 { cls := .type "list_iterator", data := .fields #[.ref ax, .int 0 0] }
    have hn : s.heap.get? h1.objs.size = none := by
      cases e : s.heap.get? h1.objs.size with
      | none => rfl
      | some o => exact absurd (Heap.lt_size (k1 _ _ e)) (Nat.lt_irrefl _)
    have hlen : vs.size = ds.length := by rw [← r.length, Array.length_toList]
    have hIlive : ∃ o, (h1.push { cls := .type "list_iterator", data := .fields #[.ref ax, .int 0 0] }).get? h1.objs.size = some o := ⟨_, Heap.get?_push_size _ rfl⟩
    refine hq h1.objs.size [h1.objs.size] _ t1 (fun X hX => ?_) (k1.trans kp) (fun a ha => by rw [List.mem_singleton.mp ha]; exact hn) (fun a ha => by rw [List.mem_singleton.mp ha]; exact hIlive)
    have hIX : h1.objs.size ∉ X ++ y.U := fun q => by
      rcases List.mem_append.mp q with q | q
      · obtain ⟨o, e⟩ := hIlive; rw [hX _ q] at e; cases e
      · exact hIU q
    have haX : ax ∉ X ++ y.U := fun q => by
      rcases List.mem_append.mp q with q | q
      · have := kp _ _ ho; rw [hX _ q] at this; cases this
      · exact ha q
    have rX : RdA S ([h1.objs.size] ++ (X ++ y.U)) (h1.push { cls := .type "list_iterator", data := .fields #[.ref ax, .int 0 0] }) vs.toList ds := r.mono (fun b o _ e => kp b o e) fun b o e hb q => by
      rcases List.mem_append.mp q with q | q
      · rw [List.mem_singleton.mp q, fresh_none] at e; cases e
      · rcases List.mem_append.mp q with q | q
        · have := kp _ _ e; rw [hX _ q] at this; cases this
        · exact hb q
    refine ⟨fun i h => h.IsListIter h1.objs.size ax i ∧ h.IsList ax vs ∧ RdA S ([h1.objs.size] ++ (X ++ y.U)) h vs.toList ds,
      fun i v h => h.IsListIter h1.objs.size ax (i + 1) ∧ h.IsList ax vs ∧ RdA S ([h1.objs.size] ++ (X ++ y.U)) h vs.toList ds ∧ vs[i]? = some v, ?_, ⟨_, Heap.get?_push_size _ rfl, rfl, rfl⟩, hl.push _, rX⟩
    exact {
      live := fun i h st a ha => by rw [List.mem_singleton.mp ha]; obtain ⟨o, e, _⟩ := st.1; exact ⟨o, e⟩
      frame := fun i h h' st k => ⟨st.1.at fun o e => k _ o hIX e, st.2.1.at fun o e => k _ o haX e, st.2.2.mono (fun b o hb e => k b o (fun q => hb (List.mem_append_right _ q)) e) fun _ _ _ n => n⟩
      next := fun i s Q E hi _ st hQ => by
        refine wpAny_pyNext_list_item st.1 st.2.1 (x := vs[i]) (by simp [hlen, hi]) fun h' hit' hs' => ?_
        refine hQ _ h' s.toks ⟨hit', st.2.1.extBut hs'.extBut hne, st.2.2.keepM (M := [h1.objs.size]) (fun b o hb e => hs'.extBut b o (by simpa using hb) e) (fun a ha => List.mem_append_left _ ha), by simp [hlen, hi]⟩ fun b o hb e => hs'.extBut b o (by simpa using hb) e
      go := fun i v s Q E m hQ => by
        obtain ⟨m1, m2, m3, m4⟩ := m
        obtain ⟨o, ho', hc', hd'⟩ := id m1
        refine letGo_other ho' hc' hd' (by decide) ?_
        obtain ⟨d, e1, e2⟩ := m3.get' (i := i) (v := v) (by simpa using m4)
        exact hQ s.heap d e1 e2 ⟨m1, m2, m3⟩ fun _ _ _ e => e
      done := fun s Q E st hQ => wpAny_pyNext_list_end hA.1 st.1 st.2.1 (by simp [hlen]) fun h' he' => hQ h' s.toks fun b o hb e => he' b o (by simpa using hb) e
      self := fun i s Q E st hQ => wpAny_pyIter_listiter st.1 hQ }

theorem Src.tup {e tgt : Expr} {ds : List D} (he : Ev S f y e (.tup ds)) : Src S f y e tgt ds := by
  intro A s Q E hA ok hq
  refine he A s _ _ hA ok fun v h1 t1 k1 r1 => ?_
  have ok1 := ok.keeps k1
  replace r1 := r1.inv
  cases r1 with
  | @tup ax o vs n ha ho hc hd r =>
    have hl : h1.IsTuple ax vs := ⟨o, ho, hc, n, hd⟩
    refine wpAny_pyIter_tuple (s := { s with heap := h1, toks := t1 }) hl ?_
    have hIU : h1.objs.size ∉ y.U := fresh_notin ok1.live
    have hne : ax ≠ h1.objs.size := Nat.ne_of_lt (Heap.lt_size ho)
    have kp := Keep.push h1 { cls := .type "tuple_iterator", data := .fields #[.ref ax, .int 0 0] }
    have hn : s.heap.get? h1.objs.size = none := by
      cases e : s.heap.get? h1.objs.size with
      | none => rfl
      | some o => exact absurd (Heap.lt_size (k1 _ _ e)) (Nat.lt_irrefl _)
    have hlen : vs.size = ds.length := by rw [← r.length, Array.length_toList]
    have hIlive : ∃ o, (h1.push { cls := .type "tuple_iterator", data := .fields #[.ref ax, .int 0 0] }).get? h1.objs.size = some o := ⟨_, Heap.get?_push_size _ rfl⟩
    refine hq h1.objs.size [h1.objs.size] _ t1 (fun X hX => ?_) (k1.trans kp) (fun a ha => by rw [List.mem_singleton.mp ha]; exact hn) (fun a ha => by rw [List.mem_singleton.mp ha]; exact hIlive)
    have hIX : h1.objs.size ∉ X ++ y.U := fun q => by
      rcases List.mem_append.mp q with q | q
      · obtain ⟨o, e⟩ := hIlive; rw [hX _ q] at e; cases e
      · exact hIU q
    have haX : ax ∉ X ++ y.U := fun q => by
      rcases List.mem_append.mp q with q | q
      · have := kp _ _ ho; rw [hX _ q] at this; cases this
      · exact ha q
    have rX : RdA S ([h1.objs.size] ++ (X ++ y.U)) (h1.push { cls := .type "tuple_iterator", data := .fields #[.ref ax, .int 0 0] }) vs.toList ds := r.mono (fun b o _ e => kp b o e) fun b o e hb q => by
      rcases List.mem_append.mp q with q | q
      · rw [List.mem_singleton.mp q, fresh_none] at e; cases e
      · rcases List.mem_append.mp q with q | q
        · have := kp _ _ e; rw [hX _ q] at this; cases this
        · exact hb q
    refine ⟨fun i h => h.IsTupleIter h1.objs.size ax i ∧ h.IsTuple ax vs ∧ RdA S ([h1.objs.size] ++ (X ++ y.U)) h vs.toList ds,
      fun i v h => h.IsTupleIter h1.objs.size ax (i + 1) ∧ h.IsTuple ax vs ∧ RdA S ([h1.objs.size] ++ (X ++ y.U)) h vs.toList ds ∧ vs[i]? = some v, ?_, ⟨_, Heap.get?_push_size _ rfl, rfl, rfl⟩, hl.push _, rX⟩
    exact {
      live := fun i h st a ha => by rw [List.mem_singleton.mp ha]; obtain ⟨o, e, _⟩ := st.1; exact ⟨o, e⟩
      frame := fun i h h' st k => ⟨st.1.at fun o e => k _ o hIX e, st.2.1.at fun o e => k _ o haX e, st.2.2.mono (fun b o hb e => k b o (fun q => hb (List.mem_append_right _ q)) e) fun _ _ _ n => n⟩
      next := fun i s Q E hi _ st hQ => by
        refine wpAny_pyNext_tuple_item st.1 st.2.1 (x := vs[i]) (by simp [hlen, hi]) fun h' hit' hs' => ?_
        refine hQ _ h' s.toks ⟨hit', st.2.1.extBut hs'.extBut hne, st.2.2.keepM (M := [h1.objs.size]) (fun b o hb e => hs'.extBut b o (by simpa using hb) e) (fun a ha => List.mem_append_left _ ha), by simp [hlen, hi]⟩ fun b o hb e => hs'.extBut b o (by simpa using hb) e
      go := fun i v s Q E m hQ => by
        obtain ⟨m1, m2, m3, m4⟩ := m
        obtain ⟨o, ho', hc', hd'⟩ := id m1
        refine letGo_other ho' hc' hd' (by decide) ?_
        obtain ⟨d, e1, e2⟩ := m3.get' (i := i) (v := v) (by simpa using m4)
        exact hQ s.heap d e1 e2 ⟨m1, m2, m3⟩ fun _ _ _ e => e
      done := fun s Q E st hQ => wpAny_pyNext_tuple_end hA.1 st.1 st.2.1 (by simp [hlen]) fun h' he' => hQ h' s.toks fun b o hb e => he' b o (by simpa using hb) e
      self := fun i s Q E st hQ => wpAny_pyIter_tupleiter st.1 hQ }
end
end Mine

end

section
namespace Mine
open PySem PySem.W PySem.Calls PyProof.Rows

section
variable {S : S0} {f : Fm} {y : Dy}

/-- enumerate(..) -/
noncomputable def enumD (k : Nat) : List D → List D
  | [] => []
  | d :: l => .tup [.int k, d] :: enumD (k + 1) l
theorem enumD_length : ∀ (l : List D) (k : Nat), (enumD k l).length = l.length
  | [], _ => rfl
  | _ :: l, k => by simp [enumD, enumD_length l (k + 1)]
theorem enumD_get : ∀ (l : List D) (k i : Nat) (d : D), l[i]? = some d → (enumD k l)[i]? = some (.tup [.int ((k + i : Nat) : Int), d])
  | [], _, _, _, e => by simp at e
  | a :: l, k, 0, d, e => by simp at e; subst e; simp [enumD]
  | a :: l, k, i + 1, d, e => by
    have := enumD_get l (k + 1) i d (by simpa using e)
    simp only [enumD, List.getElem?_cons_succ, this]
    rw [show k + 1 + i = k + (i + 1) by omega]

theorem Src.enum {x : Str} {p pos : Pos} {e : Expr} {elts : List Expr} {tk0 : Nat} {tp : Pos} {ds : List D} (hx : f.env.kindOf x = some .globalImplicit) (hv : nsIn S.K mainGlobals x = some none) (hb : bootBuiltins x = some (.type "enumerate")) (hn : x ≠ "__name__")
    (he : Ev S f y e (.lst ds)) (hse : starEach [e] f.env = (false, eval e f.env) :: starEach [] f.env) (hd : (x == ("__debug__" : Str)) = false) :
    Src S f y (.Call (.Name x p) [e] [] pos) (.Tuple elts tk0 tp) (enumD 0 ds) := by
  intro A s Q E hA ok hq
  refine Call_ (Name_function_global ok.kind hx (loadGlobal_builtin (env := f.env) (by rw [ok.glob]; exact ok.top.g) (mg_none_of ok.top.X ok.top.g hv) (by rw [ok.blt]; exact ok.top.b) ((ok.top.builtins x hn).trans hb) ?_) hd)
  refine PyProof.Rows.callWith_type1 ?_ hse rfl
  refine (EvL.cons he EvL.nil hse) pos A s _ _ hA ok fun vs h1 t1 k1 r1 => ?_
  have ok1 := ok.keeps k1
  replace r1 := r1.inv
  cases r1 with
  | cons r1 r2 =>
  replace r2 := r2.inv
  cases r2
  replace r1 := r1.inv
  cases r1 with
  | @lst ax o vs n ha ho hc hd r =>
    obtain ⟨hc, hcd⟩ := hc
    have hl : h1.IsList ax vs := ⟨o, ho, hc, n, hd⟩
    refine call_enumerate_list (s := { s with heap := h1, toks := t1 }) hl fun h2 hen hit hsz kp => ?_
    refine wpAny_pyIter_enum (s := { s with heap := h2, toks := t1 }) hen ?_
    have kp' : Keep h1 h2 := kp
    dsimp only at hen hit hsz
    generalize hit0 : h1.objs.size = it at hen hit hsz
    generalize hen0 : it + 1 = en at hen
    have hne : en ≠ it := by rw [← hen0]; exact Nat.succ_ne_self _
    have gt1 : ∀ b o, h1.get? b = some o → b ≠ it ∧ b ≠ en := fun b o e => by
      have := Heap.lt_size e
      have q : h1.objs.size = it := hit0
      have : b < it := q ▸ this
      exact ⟨Nat.ne_of_lt this, by rw [← hen0]; exact Nat.ne_of_lt (Nat.lt_succ_of_lt this)⟩
    have hw : ∀ a ∈ [en, it], h1.get? a = none := fun a ha => by
      cases e : h1.get? a with
      | none => rfl
      | some o => have := gt1 a o e; simp at ha; rcases ha with rfl | rfl <;> simp_all
    have hIU : ∀ a ∈ [en, it], a ∉ y.U := fun a ha q => by obtain ⟨o, e⟩ := ok1.live a q; rw [hw a ha] at e; cases e
    have hax := gt1 ax o ho
    have hlen : vs.size = ds.length := by rw [← r.length, Array.length_toList]
    refine hq en [en, it] h2 t1 (fun X hX => ?_) (k1.trans kp') (fun a ha => by
        cases e : s.heap.get? a with
        | none => rfl
        | some o => have := k1 _ _ e; rw [hw a ha] at this; cases this) (fun a ha => by
        simp at ha
        rcases ha with rfl | rfl
        · exact ⟨_, hen⟩
        · obtain ⟨o, e, _⟩ := hit; exact ⟨o, e⟩)
    have hIX : ∀ a ∈ [en, it], a ∉ X ++ y.U := fun a ha q => by
      rcases List.mem_append.mp q with q | q
      · simp at ha
        rcases ha with rfl | rfl
        · have := hX _ q; rw [hen] at this; cases this
        · obtain ⟨o, e, _⟩ := hit; rw [hX _ q] at e; cases e
      · exact hIU a ha q
    have haX : ax ∉ X ++ y.U := fun q => by
      rcases List.mem_append.mp q with q | q
      · have := kp _ _ ho; rw [hX _ q] at this; cases this
      · exact ha q
    have rX : RdA S ([en, it] ++ (X ++ y.U)) h2 vs.toList ds := r.mono (fun b o _ e => kp b o e) fun b o e hb q => by
      rcases List.mem_append.mp q with q | q
      · rw [hw b q] at e; cases e
      · rcases List.mem_append.mp q with q | q
        · have := kp _ _ e; rw [hX _ q] at this; cases this
        · exact hb q
    refine ⟨fun i h => (∃ old, IsEnum h en it i old) ∧ h.IsListIter it ax i ∧ h.IsList ax vs ∧ RdA S ([en, it] ++ (X ++ y.U)) h vs.toList ds,
      fun i v h => ∃ T x tk, v = .ref T ∧ IsEnumOut h en it ((i : Int) + 1) x T ∧ h.IsListIter it ax (i + 1) ∧ h.IsList ax vs ∧ RdA S ([en, it] ++ (X ++ y.U)) h vs.toList ds ∧ vs[i]? = some x ∧ h.get? T = some { cls := .type "tuple", data := .seq #[.int i tk, x] } ∧ T ∉ [en, it] ++ (X ++ y.U), ?_, ⟨_, hen⟩, hit, hl.at fun o e => kp _ o e, rX⟩
    have upd : ∀ {h h' : Heap}, (∀ b o, b ≠ en → b ≠ it → h.get? b = some o → h'.get? b = some o) → KeepM [en, it] h h' := fun k b o hb e => k b o (by simp at hb; exact hb.1) (by simp at hb; exact hb.2) e
    exact {
      live := fun i h st a ha => by
        obtain ⟨⟨old, e⟩, ⟨o, e2, _⟩, _⟩ := st
        simp at ha
        rcases ha with rfl | rfl
        · exact ⟨_, e⟩
        · exact ⟨_, e2⟩
      frame := fun i h h' st k => by
        obtain ⟨⟨old, e⟩, e2, e3, e4⟩ := st
        exact ⟨⟨old, k _ _ (hIX en (by simp)) e⟩, e2.at fun o e => k _ o (hIX it (by simp)) e, e3.at fun o e => k _ o haX e, e4.mono (fun b o hb e => k b o (fun q => hb (List.mem_append_right _ q)) e) fun _ _ _ n => n⟩
      next := fun i s Q E hi hU st hQ => by
        rw [enumD_length] at hi
        obtain ⟨⟨old, e⟩, e2, e3, e4⟩ := st
        refine wpAny_pyNext_enum_item e e2 e3 (x := vs[i]) (by simp [hlen, hi]) hne fun h' a1 a2 a3 a4 a5 => ?_
        have km := upd a5
        refine hQ _ h' _ ⟨s.heap.objs.size, vs[i], s.toks, rfl, a1, a2, e3.at fun o q => a5 _ o hax.2 hax.1 q, e4.keepM km (fun a ha => List.mem_append_left _ ha), by simp [hlen, hi], a3, fun q => ?_⟩ km
        rcases List.mem_append.mp q with q | q
        · simp at q
          rcases q with q | q
          · have := Heap.lt_size e; rw [q] at this; exact Nat.lt_irrefl _ this
          · obtain ⟨o, e5, _⟩ := e2; have := Heap.lt_size e5; rw [q] at this; exact Nat.lt_irrefl _ this
        · obtain ⟨o, e5⟩ := hU _ q; exact Nat.lt_irrefl _ (Heap.lt_size e5)
      go := fun i v s Q E m hQ => by
        obtain ⟨T, x, tk, rfl, m1, m2, m3, m4, m5, m6, m7⟩ := m
        refine wpAny_letOwnedTupleGo_enum m1 fun h' e' hs' => ?_
        have hTe : T ≠ en := fun q => m7 (by simp [q])
        have km : KeepM [en, it] s.heap h' := fun b o hb e => hs'.extBut b o (by simp at hb; exact hb.1) e
        obtain ⟨d, d1, d2⟩ := m4.get' (i := i) (v := x) (by simpa using m5)
        have m4' := m4.keepM km (fun a ha => List.mem_append_left _ ha)
        refine hQ h' (.tup [.int i, d]) (by simpa using enumD_get ds 0 i d d1) (.tup m7 (hs'.extBut _ _ hTe m6) rfl rfl (.cons (.int _ _) (.cons (d2.keepM km (fun a ha => List.mem_append_left _ ha)) .nil))) ⟨⟨x, ?_⟩, m2.extBut hs'.extBut (Ne.symm hne), m3.extBut hs'.extBut hax.2, m4'⟩ km
        have : ((i + 1 : Nat) : Int) = (i : Int) + 1 := by push_cast; rfl
        rw [this]; exact e'
      done := fun s Q E st hQ => by
        rw [enumD_length] at st
        obtain ⟨⟨old, e⟩, e2, e3, e4⟩ := st
        exact wpAny_pyNext_enum_end hA.1 e e2 e3 (by simp [hlen]) fun h' he' => hQ h' s.toks fun b o hb q => he' b o (by simp at hb; exact hb.2) q
      self := fun i s Q E st hQ => by
        obtain ⟨⟨old, e⟩, _⟩ := st
        exact wpAny_pyIter_enum e hQ }
end
end Mine

end

section
namespace Mine
open PySem PySem.W PySem.Calls PyProof.Rows

section
variable {S : S0} {f : Fm} {y : Dy} {N : Dy → Prop} {R : D → Dy → Prop}

theorem Src.range {x : Str} {p pos : Pos} {e tgt : Expr} {n : Nat} (hn : n ≤ 1000) (hx : f.env.kindOf x = some .globalImplicit) (hv : nsIn S.K mainGlobals x = some none) (hb : bootBuiltins x = some (.type "range")) (hnn : x ≠ "__name__")
    (he : Ev S f y e (.int n)) (hse : starEach [e] f.env = (false, eval e f.env) :: starEach [] f.env) (hd : (x == ("__debug__" : Str)) = false) :
    Src S f y (.Call (.Name x p) [e] [] pos) tgt ((List.range n).map fun i => D.int ((i : Nat) : Int)) := by
  intro A s Q E hA ok hq
  refine Call_ (Name_function_global ok.kind hx (loadGlobal_builtin (env := f.env) (by rw [ok.glob]; exact ok.top.g) (mg_none_of ok.top.X ok.top.g hv) (by rw [ok.blt]; exact ok.top.b) ((ok.top.builtins x hnn).trans hb) ?_) hd)
  refine PyProof.Rows.callWith_type1 ?_ hse rfl
  refine (EvL.cons he EvL.nil hse) pos A s _ _ hA ok fun vs h1 t1 k1 r1 => ?_
  have ok1 := ok.keeps k1
  replace r1 := r1.inv
  cases r1 with
  | cons r1 r2 =>
  replace r2 := r2.inv
  cases r2
  replace r1 := r1.inv
  cases r1 with
  | int t =>
    refine call_range_1 (s := { s with heap := h1, toks := t1 }) ?_
    have kp := Keep.push h1 { cls := .type "range", data := .fields #[.int 0 t1, .int n t, .int 1 (t1 + 1)] }
    have hr : IsRange (h1.push { cls := .type "range", data := .fields #[.int 0 t1, .int n t, .int 1 (t1 + 1)] }) h1.objs.size 0 n 1 t1 t (t1 + 1) := IsRange.new ..
    dsimp only
    generalize hH : h1.push { cls := .type "range", data := .fields #[.int 0 t1, .int n t, .int 1 (t1 + 1)] } = H at kp hr ⊢
    have okH := ok1.keeps kp
    refine wpAny_pyIter_range (s := { s with heap := H, toks := t1 + 1 + 1 }) hr (small_one (by omega) (by omega) (by omega) (by omega)) ?_
    have hsz : Builtin.Range.rangeSize 0 (n : Int) 1 = ((n : Nat) : Int) := by rw [rangeSize_nat]; simp
    rw [hsz]
    have kp2 := Keep.push H { cls := .type "range_iterator", data := .fields #[rawInt 0, rawInt (n : Int), rawInt 1] }
    have hIU : H.objs.size ∉ y.U := fresh_notin okH.live
    have hnone : s.heap.get? H.objs.size = none := by
      cases e : s.heap.get? H.objs.size with
      | none => rfl
      | some o => exact absurd (Heap.lt_size (kp _ _ (k1 _ _ e))) (Nat.lt_irrefl _)
    have hIlive : (H.push { cls := .type "range_iterator", data := .fields #[rawInt 0, rawInt (n : Int), rawInt 1] }).get? H.objs.size = some { cls := .type "range_iterator", data := .fields #[rawInt 0, rawInt (n : Int), rawInt 1] } := Heap.get?_push_size _ rfl
    refine hq H.objs.size [H.objs.size] _ _ (fun X hX => ?_) ((k1.trans kp).trans kp2) (fun a ha => by rw [List.mem_singleton.mp ha]; exact hnone) (fun a ha => by rw [List.mem_singleton.mp ha]; exact ⟨_, hIlive⟩)
    have hIX : H.objs.size ∉ X ++ y.U := fun q => by
      rcases List.mem_append.mp q with q | q
      · have := hX _ q; rw [hIlive] at this; cases this
      · exact hIU q
    refine ⟨fun i h => IsRangeIter h H.objs.size ((i : Nat) : Int) ((n : Int) - (i : Nat)) 1,
      fun i v h => IsRangeIter h H.objs.size ((i + 1 : Nat) : Int) ((n : Int) - (i + 1 : Nat)) 1 ∧ i < n ∧ ∃ t, v = .int ((i : Nat) : Int) t, ?_, by show IsRangeIter _ _ _ _ _; simpa using hIlive⟩
    exact {
      live := fun i h st a ha => by rw [List.mem_singleton.mp ha]; exact ⟨_, st⟩
      frame := fun i h h' st k => k _ _ hIX st
      next := fun i s Q E hi _ st hQ => by
        rw [List.length_map, List.length_range] at hi
        refine wpAny_pyNext_range_item st (by omega) fun h' hit' hs' => ?_
        refine hQ _ h' _ ⟨?_, hi, _, rfl⟩ fun b o hb e => hs'.extBut b o (by simpa using hb) e
        have e1 : ((i + 1 : Nat) : Int) = (i : Int) + 1 := by push_cast; rfl
        have e2 : (n : Int) - ((i + 1 : Nat) : Int) = (n : Int) - (i : Int) - 1 := by push_cast; omega
        rw [e2, e1]; exact hit'
      go := fun i v s Q E m hQ => by
        obtain ⟨m1, m2, t, rfl⟩ := m
        refine letGo_other m1 rfl rfl (by decide) ?_
        exact hQ s.heap (.int i) (by simp [m2]) (.int _ _) m1 fun _ _ _ e => e
      done := fun s Q E st hQ => by
        rw [List.length_map, List.length_range] at st
        exact wpAny_pyNext_range_end hA.1 st (by omega) fun h' he' => hQ h' s.toks fun b o hb e => he' b o (by simpa using hb) e
      self := fun i s Q E st hQ => wpAny_pyIter_rangeiter st hQ }

/-- the target takes an item -/
noncomputable def Asg (S : S0) (f : Fm) (tgt : Expr) (d : D) (B : List (Str × LV)) : Prop :=
  ∀ (y : Dy) (A : Around) (s : Shared) (v : Value) (Q : Unit → Shared → Prop) (E : Value → Shared → Prop), A.handled = none → Ok S f y s.heap → Rd S y.U s.heap v d →
    (∀ h' tk, KeepM y.M s.heap h' → Ok S f { y with look := B ++ y.look } h' → Q () { s with heap := h', toks := tk }) → wpAny (model S.prog S.w) A (assign tgt f.env v) Q E s
theorem Asg.name {x : Str} {p : Pos} {d : D} (hk : CanStore f x) : Asg S f (.Name x p) d [(x, .val d)] := by
  intro y A s v Q E hh ok r hq
  exact wpAny_assign_Name (store_lv (lv := .val d) ok hk r (fun _ _ e => by cases e) fun h' tk k ok' => hq h' tk k ok')
theorem Asg.pair {x1 x2 : Str} {p1 p2 p : Pos} {k : Nat} {d1 d2 : D} (hk1 : CanStore f x1) (hk2 : CanStore f x2) : Asg S f (.Tuple [.Name x1 p1, .Name x2 p2] k p) (.tup [d1, d2]) [(x2, .val d2), (x1, .val d1)] := by
  intro y A s v Q E hh ok r hq
  replace r := r.inv
  cases r with
  | @tup a o vs n ha ho hc hd r =>
    have r' := r
    generalize hvs : vs.toList = L at r'
    cases r' with
    | cons r1 r2 =>
      replace r2 := r2.inv
      cases r2 with
      | cons r2 r3 =>
        replace r3 := r3.inv
        cases r3
        rename_i v1 v2
        have hv : vs = #[v1, v2] := by rw [← Array.toArray_toList (xs := vs), hvs]
        subst hv
        refine assign_Tuple_tuple hh ⟨o, ho, hc, n, hd⟩ rfl rfl fun h1 hx => ?_
        have k1 : Keep s.heap h1 := fun b o e => hx b o (Nat.ne_of_lt (Heap.lt_size e)) e
        have ok1 := ok.keeps k1
        show wpAny _ A (do holding [v2] (assign (.Name x1 p1) f.env v1); do holding [] (assign (.Name x2 p2) f.env v2); pure ()) _ _ _
        refine wpAny_bind (wpAny_holding (wpAny_assign_Name (store_lv (s := { s with heap := h1 }) (lv := .val d1) ok1 hk1 (r1.keep k1) (fun _ _ e => by cases e) fun h2 t2 k2 ok2 => ?_)))
        refine wpAny_bind (wpAny_holding (wpAny_assign_Name (store_lv (s := { s with heap := h2, toks := t2 }) (lv := .val d2) ok2 hk2 ((r2.keep k1).keepM k2 ok1.mU) (fun _ _ e => by cases e) fun h3 t3 k3 ok3 => wpAny_pure ?_)))
        exact hq h3 t3 (fun b o hb e => k3 b o hb (k2 b o hb (k1 b o e))) ok3

theorem OwnAt.fresh {U : List Addr} {h h' : Heap} {wr : List Addr} {a : Addr} {d : D} (r : OwnAt S U h a d) (k : Keep h h') (hw : ∀ a ∈ wr, h.get? a = none) : OwnAt S (wr ++ U) h' a d :=
  r.mono (fun o e => k a o e) (fun b o _ e => k b o e) fun b o e hb q => by
    rcases List.mem_append.mp q with q | q
    · rw [hw b q] at e; cases e
    · exact hb q
theorem OwnAt.keepM {U M : List Addr} {h h' : Heap} {a : Addr} {d : D} (r : OwnAt S U h a d) (k : KeepM M h h') (hm : ∀ a ∈ M, a ∈ U) (ha : a ∉ M) : OwnAt S U h' a d := r.mono (fun o e => k a o ha e) (fun b o hb e => k b o (fun q => hb (hm b q)) e) fun _ _ _ n => n
theorem Ok.sub {h : Heap} {L : List (Str × LV)} (ok : Ok S f y h) (hs : ∀ z l, L.lookup z = some l → y.look.lookup z = some l) : Ok S f { y with look := L } h :=
  { ok with vars := fun z l e => ok.vars z l (hs z l e), apart := fun x1 x2 b ds1 ds2 e1 e2 => ok.apart x1 x2 b ds1 ds2 (hs _ _ e1) (hs _ _ e2) }
/-- an iterator beside the frame's own -/
theorem Ok.beside {h h' : Heap} {wr : List Addr} (ok : Ok S f y h) (k : Keep h h') (hw : ∀ a ∈ wr, h.get? a = none) (hl : ∀ a ∈ wr, ∃ o, h'.get? a = some o) : Ok S f { y with U := wr ++ y.U } h' := by
  have ok' := ok.keeps k
  refine { ok' with live := fun a ha => ?_, mU := fun a ha => List.mem_append_right _ (ok.mU a ha), uSub := fun a ha => ⟨List.mem_append_right _ (ok.uSub a ha).1, (ok.uSub a ha).2⟩, vars := fun z l e => ?_ }
  · rcases List.mem_append.mp ha with q | q
    · exact hl a q
    · exact ok'.live a q
  · obtain ⟨v, a, b⟩ := ok.vars z l e
    refine ⟨v, a.keep k, ?_⟩
    cases l with
    | val d => exact rd_fresh b k hw
    | own a ds => obtain ⟨e1, u, nl, g⟩ := b; exact ⟨e1, u, nl, g.fresh k hw⟩
theorem keepM_ns {M : List Addr} {h h' : Heap} {a : Addr} {m : Str → Option Value} (n : h.Ns a m) (k : KeepM M h h') (ha : a ∉ M) : h'.Ns a m := n.at' fun o e => k a o ha e
theorem keepM_cell {M : List Addr} {h h' : Heap} {a : Addr} {v : Option Value} (n : h.IsCell a v) (k : KeepM M h h') (ha : a ∉ M) : h'.IsCell a v := let ⟨o, e, d⟩ := n; ⟨o, k a o ha e, d⟩
theorem VarAt.keepM {h h' : Heap} {wr : List Addr} {z : Str} {v : Value} (ok : Ok S f y h) (k : KeepM wr h h') (hw : ∀ a ∈ wr, a ∉ y.M) (a : VarAt f.env h z v) : VarAt f.env h' z v := by
  rcases a with ⟨a1, m', a2, a3⟩ | ⟨a1, a2, c, a3, a4⟩
  · exact .inl ⟨a1, m', keepM_ns a2 k fun q => hw _ q ok.locM, a3⟩
  · exact .inr ⟨a1, a2, c, a3, keepM_cell a4 k fun q => hw _ q (ok.cells _ _ a3).1⟩
/-- the iterator moved -/
theorem Ok.moved {h h' : Heap} {wr : List Addr} (ok : Ok S f { y with U := wr ++ y.U } h) (k : KeepM wr h h') (hw : ∀ a ∈ wr, a ∉ y.U ∧ f.g₀.get? a = none) (hl : ∀ a ∈ wr, ∃ o, h'.get? a = some o) (hm : ∀ a ∈ y.M, a ∈ y.U) : Ok S f { y with U := wr ++ y.U } h' := by
  have hwM : ∀ a ∈ wr, a ∉ y.M := fun a ha q => (hw a ha).1 (hm a q)
  refine { ok with keep := fun b o e => k b o (fun q => by rw [(hw b q).2] at e; cases e) (ok.keep b o e), live := fun a ha => ?_, ns := ?_, cells := fun z c e => ?_, vars := fun z l e => ?_ }
  · by_cases q : a ∈ wr
    · exact hl a q
    · obtain ⟨o, e⟩ := ok.live a ha; exact ⟨o, k a o q e⟩
  · obtain ⟨m, q⟩ := ok.ns; exact ⟨m, keepM_ns q k fun r => hwM _ r ok.locM⟩
  · obtain ⟨a, v, q⟩ := ok.cells z c e; exact ⟨a, v, keepM_cell q k fun r => hwM _ r a⟩
  · obtain ⟨v, a, b⟩ := ok.vars z l e
    refine ⟨v, VarAt.keepM ok k hwM a, ?_⟩
    have hU : ∀ a ∈ wr, a ∈ wr ++ y.U := fun a ha => List.mem_append_left _ ha
    cases l with
    | val d => exact Rd.keepM b k hU
    | own a ds => obtain ⟨e1, u, nl, g⟩ := b; exact ⟨e1, u, nl, g.keepM k hU fun q => hwM _ q u⟩
/-- the iterator is let go -/
theorem Ok.gone {h : Heap} {wr : List Addr} (ok : Ok S f { y with U := wr ++ y.U } h) (hm : ∀ a ∈ y.M, a ∈ y.U) (hu : ∀ a ∈ f.U₀, a ∈ y.U) : Ok S f y h := by
  have hU : ∀ a ∈ y.U, a ∈ wr ++ y.U := fun a ha => List.mem_append_right _ ha
  refine { ok with live := fun a ha => ok.live a (hU a ha), mU := hm, uSub := fun a ha => ⟨hu a ha, (ok.uSub a ha).2⟩, vars := fun z l e => ?_ }
  obtain ⟨v, a, b⟩ := ok.vars z l e
  refine ⟨v, a, ?_⟩
  cases l with
  | val d => exact Rd.less b hU
  | own a ds => obtain ⟨e1, u, nl, g⟩ := b; exact ⟨e1, u, nl, g.less hU⟩

noncomputable def Sub (L L' : List (Str × LV)) : Prop := ∀ z l, L.lookup z = some l → L'.lookup z = some l
theorem Sub.nil {L' : List (Str × LV)} : Sub [] L' := fun _ _ e => by simp at e
theorem Sub.cons {x : Str} {l : LV} {L L' : List (Str × LV)} (h : L'.lookup x = some l) (r : Sub L L') : Sub ((x, l) :: L) L' := fun z k e => by
  by_cases q : z = x
  · subst q; rw [lookup_cons_eq] at e; cases e; exact h
  · rw [lookup_cons_ne q] at e; exact r z k e
theorem Sub.refl (L : List (Str × LV)) : Sub L L := fun _ _ e => e

/-- for target in e: body -/
theorem ExS.for {tgt it : Expr} {body : List Stmt} {pos : Pos} {ds : List D} (L : Nat → List (Str × LV)) (B : Nat → D → List (Str × LV)) (hs : Src S f y it tgt ds) (h0 : Sub (L 0) y.look)
    (ha : ∀ i d, ds[i]? = some d → Asg S f tgt d (B i d))
    (turn : ∀ U i d, (∀ a ∈ y.U, a ∈ U) → ds[i]? = some d → Ex S f { U := U, M := y.M, look := B i d ++ L i } body (fun y' => y'.U = U ∧ y'.M = y.M ∧ Sub (L (i + 1)) y'.look) R)
    (hN : N { y with look := L ds.length }) (hf : ∀ x, foldedSetIterable it f.env x = pure x) : ExS S f y (.For tgt it body [] pos) N R := by
  intro A s Q E hA ok hn hr
  refine wpAny_For (hs A s _ _ hA ok fun I wr h' tk hW k0 hw hl => ?_) hf
  obtain ⟨St, Mid, W, st0⟩ := hW [] (fun _ h => nomatch h)
  rw [List.nil_append] at W
  have hwU : ∀ a ∈ wr, a ∉ y.U ∧ f.g₀.get? a = none := fun a ha => by
    refine ⟨fun q => ?_, ?_⟩
    · obtain ⟨o, e⟩ := ok.live a q; rw [hw a ha] at e; cases e
    · cases e : f.g₀.get? a with
      | none => rfl
      | some o => have := ok.keep a o e; rw [hw a ha] at this; cases this
  have hmU := ok.mU
  have huU : ∀ a ∈ f.U₀, a ∈ y.U := fun a ha => (ok.uSub a ha).1
  have ok0 : Ok S f { U := wr ++ y.U, M := y.M, look := L 0 } h' := (ok.sub h0).beside k0 hw (W.live 0 h' st0)
  refine codeAny_forLoop_any
    (fun k s' => ∃ h1 t1 i, s' = { s with heap := h1, toks := t1 } ∧ i ≤ ds.length ∧ k = ds.length + 1 - i ∧ St i h1 ∧ Ok S f { U := wr ++ y.U, M := y.M, look := L i } h1 ∧ KeepM (wr ++ y.M) h' h1)
    ?_ (ds.length + 1) ⟨h', tk, 0, rfl, Nat.zero_le _, rfl, st0, ok0, fun _ _ _ e => e⟩
  rintro k s' ⟨h1, t1, i, rfl, hi, rfl, st, ok1, km⟩
  have kret : ∀ {h2 : Heap}, KeepM (wr ++ y.M) h' h2 → KeepM y.M s.heap h2 := fun {h2} q b o hb e => q b o (fun r => by
    rcases List.mem_append.mp r with r | r
    · rw [hw b r] at e; cases e
    · exact hb r) (k0 b o e)
  by_cases hlt : i < ds.length
  · refine W.next i _ _ _ hlt (fun a ha => ok1.live a (List.mem_append_right _ ha)) st fun v h2 t2 mid km2 => ?_
    refine W.go i v _ _ _ mid fun h3 d hd rd st3 km3 => ?_
    have km23 : KeepM wr h1 h3 := fun b o hb e => km3 b o hb (km2 b o hb e)
    have ok3 := ok1.moved (y := { y with look := L i }) km23 hwU (W.live _ _ st3) hmU
    refine ha i d hd { U := wr ++ y.U, M := y.M, look := L i } A _ v _ _ hA.1 ok3 rd fun h4 t4 km4 ok4 => ?_
    refine turn (wr ++ y.U) i d (fun a ha => List.mem_append_right _ ha) hd A _ _ _ hA ok4 (fun y5 h5 t5 n5 s5 ok5 => ?_) fun v5 d5 y5 h5 t5 r5 k5 rd5 ok5 => ?_
    · obtain ⟨e1, e2, e3⟩ := n5
      refine ⟨ds.length + 1 - (i + 1), by omega, h5, t5, i + 1, rfl, hlt, rfl, ?_, ?_, ?_⟩
      · refine W.frame _ _ _ st3 fun b o hb e => s5.1 b o (fun q => hb (hmU b q)) (km4 b o (fun q => hb (hmU b q)) e)
      · have := ok5.sub e3
        rw [e1, e2] at this
        exact this
      · intro b o hb e
        have hb1 : b ∉ wr := fun q => hb (List.mem_append_left _ q)
        have hb2 : b ∉ y.M := fun q => hb (List.mem_append_right _ q)
        exact s5.1 b o hb2 (km4 b o hb2 (km23 b o hb1 (km b o hb e)))
    · refine hr v5 d5 y5 h5 t5 r5 (kret fun b o hb e => ?_) rd5 ok5
      have hb1 : b ∉ wr := fun q => hb (List.mem_append_left _ q)
      have hb2 : b ∉ y.M := fun q => hb (List.mem_append_right _ q)
      exact k5 b o hb2 (km4 b o hb2 (km23 b o hb1 (km b o hb e)))
  · obtain rfl : i = ds.length := Nat.le_antisymm hi (Nat.not_lt.mp hlt)
    refine W.done _ _ _ st fun h2 t2 km2 => wpAny_execs_nil ?_
    have okd : Ok S f { y with look := L ds.length } h2 := by
      have hwM : ∀ a ∈ wr, a ∉ y.M := fun a ha q => (hwU a ha).1 (hmU a q)
      have hU : ∀ a ∈ wr, a ∈ wr ++ y.U := fun a ha => List.mem_append_left _ ha
      have hU2 : ∀ a ∈ y.U, a ∈ wr ++ y.U := fun a ha => List.mem_append_right _ ha
      refine { ok1 with keep := fun b o e => km2 b o (fun q => by rw [(hwU b q).2] at e; cases e) (ok1.keep b o e), live := fun a ha => ?_, mU := hmU, uSub := fun a ha => ⟨huU a ha, (ok1.uSub a ha).2⟩, ns := ?_, cells := fun z c e => ?_, vars := fun z l e => ?_ }
      · obtain ⟨o, e⟩ := ok1.live a (hU2 a ha); exact ⟨o, km2 a o (fun q => (hwU a q).1 ha) e⟩
      · obtain ⟨m, q⟩ := ok1.ns; exact ⟨m, keepM_ns q km2 fun r => hwM _ r ok1.locM⟩
      · obtain ⟨a, v, q⟩ := ok1.cells z c e; exact ⟨a, v, keepM_cell q km2 fun r => hwM _ r a⟩
      · obtain ⟨v, a, b⟩ := ok1.vars z l e
        refine ⟨v, VarAt.keepM ok1 km2 hwM a, ?_⟩
        cases l with
        | val d => exact (Rd.keepM b km2 hU).less hU2
        | own a ds => obtain ⟨e1, u, nl, g⟩ := b; exact ⟨e1, u, nl, (g.keepM km2 hU fun q => hwM _ q u).less hU2⟩
    refine hn _ h2 t2 hN ⟨kret fun b o hb e => km2 b o (fun q => hb (List.mem_append_left _ q)) (km b o hb e), fun a ha => .inl ha⟩ okd
end
end Mine

end

section
namespace Mine
open PySem PySem.W PySem.Calls PyProof.Rows

theorem compLoop_all {prog : Program} {w : World} {A : Around} {R : Result → Shared → Prop} {s : Shared} {elt target iter : Expr} {ifs : List Expr} {scope : Scope} {pos : Pos} {it acc : Value} {env : Env} (I : Nat → Shared → Prop)
    (turn : ∀ n s, I n s → wpAny (model prog w) A (pyNext it) (fun r s₁ => match r with
      | none => R (.ok .next) s₁
      | some v => wpAny (model prog w) A (letOwnedTupleGo target it v) (fun _ s₁' => wpAny (model prog w) A (assign target env v) (fun _ s₂ =>
          wpAny (model prog w) A (forIn ifs true fun c r => if r = true then do let ok ← isTrue c env (eval c env); pure (ForInStep.yield ok) else pure (ForInStep.yield r)) (fun ok s₃ =>
            if ok = true then wpAny (model prog w) A (eval elt env) (fun x s₄ =>
              wpAny (model prog w) A (call (.builtin "list.append") [acc, x]) (fun _ s₅ => ∃ m, m < n ∧ I m s₅) (notedBy (model prog w) A env fun e s' => R (.error e) s') s₄) (notedBy (model prog w) A env fun e s' => R (.error e) s') s₃
            else ∃ m, m < n ∧ I m s₃) (notedBy (model prog w) A env fun e s' => R (.error e) s') s₂) (notedBy (model prog w) A env fun e s' => R (.error e) s') s₁') (notedBy (model prog w) A env fun e s' => R (.error e) s') s₁) (notedBy (model prog w) A env fun e s' => R (.error e) s') s)
    (n : Nat) (h : I n s) : codeAny (model prog w) A (.compLoop (.ListComp elt [⟨target, iter, ifs, 0⟩] scope pos) 0 it acc env) R s := by
  refine codeAny_loop rfl I (fun n s hI => ?_) n h
  show wpAny _ A ((compTurn (.ListComp elt [⟨target, iter, ifs, 0⟩] scope pos) 0 it acc env).onRaise (fun x => do noteFrame x env; theTreesLotGoes x)) _ _ s
  refine wpAny_noted ?_
  rw [compTurn_list]
  refine wpAny_bind (wpAny_standAt (wpAny_bind (wpAny_mono (turn n s hI) (fun r s₁ h₁ => ?_) fun _ _ h' => h')))
  cases r with
  | none => exact wpAny_pure h₁
  | some v =>
    refine wpAny_bind (wpAny_mono h₁ (fun _ s₁' h₁' => ?_) fun _ _ h' => h')
    refine wpAny_bind (wpAny_mono h₁' (fun _ s₂ h₂ => wpAny_bind (wpAny_mono h₂ (fun ok s₃ h₃ => ?_) fun _ _ h' => h')) fun _ _ h' => h')
    cases ok with
    | false => exact wpAny_pure ⟨rfl, h₃⟩
    | true =>
      exact wpAny_bind (wpAny_bind (wpAny_mono h₃ (fun x s₄ h₄ => wpAny_bind (wpAny_mono h₄ (fun _ s₅ h₅ => wpAny_pure (wpAny_pure ⟨rfl, h₅⟩)) fun _ _ h' => h')) fun _ _ h' => h'))

/-- what a comprehension gives -/
noncomputable def compOut (p : Nat → D → Bool) (g : Nat → D → D) (i : Nat) : List D → List D
  | [] => []
  | d :: l => if p i d then g i d :: compOut p g (i + 1) l else compOut p g (i + 1) l
theorem compOut_snoc (p : Nat → D → Bool) (g : Nat → D → D) : ∀ (l : List D) (i : Nat) (d : D), compOut p g i (l ++ [d]) = compOut p g i l ++ (if p (i + l.length) d then [g (i + l.length) d] else [])
  | [], i, d => by simp [compOut]
  | a :: l, i, d => by
    simp only [List.cons_append, compOut, compOut_snoc p g l (i + 1) d, List.length_cons]
    rw [show i + 1 + l.length = i + (l.length + 1) by omega]
    split <;> simp
theorem compOut_take (p : Nat → D → Bool) (g : Nat → D → D) (l : List D) (i : Nat) (d : D) (h : l[i]? = some d) : compOut p g 0 (l.take (i + 1)) = compOut p g 0 (l.take i) ++ (if p i d then [g i d] else []) := by
  have hi : i < l.length := by obtain ⟨a, _⟩ := List.getElem?_eq_some_iff.mp h; exact a
  rw [List.take_add_one, h]
  have := compOut_snoc p g (l.take i) 0 d
  rw [List.length_take, Nat.min_eq_left (Nat.le_of_lt hi), Nat.zero_add] at this
  simpa using this
theorem compOut_map (g : D → D) : ∀ (l : List D) (i : Nat), compOut (fun _ _ => true) (fun _ => g) i l = l.map g
  | [], _ => rfl
  | a :: l, i => by simp [compOut, compOut_map g l (i + 1)]
theorem compOut_filter (p : D → Bool) (g : D → D) : ∀ (l : List D) (i : Nat), compOut (fun _ => p) (fun _ => g) i l = (l.filter p).map g
  | [], _ => rfl
  | a :: l, i => by
    have ih := compOut_filter p g l (i + 1)
    simp only [compOut, List.filter_cons]
    split <;> simp [ih]

/-- the frame of a comprehension's block -/
noncomputable def Fm.comp (f : Fm) (scope : Scope) (cl : List (Str × Addr)) (C : Addr) : Fm := { f with env := compEnvC scope cl C f.env }

/-- what the block sees of the frame around it -/
noncomputable def FreeOk (f : Fm) (scope : Scope) (cl : List (Str × Addr)) (z : Str) : Prop :=
  f.env.kindOf z ≠ some .local ∧ (((relabel scope f.env).names.lookup z = some .cell ∨ (relabel scope f.env).names.lookup z = some .free) ∧ (z == ("__classdict__" : Str)) = false) ∧ cl.lookup z = f.env.cells.lookup z

section
variable {S : S0} {f : Fm} {y : Dy}

/-- the block's tests -/
noncomputable def Tests (S : S0) (f : Fm) (y : Dy) (ifs : List Expr) (b : Bool) : Prop := (ifs = [] ∧ b = true) ∨ ∃ c, ifs = [c] ∧ EvT S f y c b
theorem Tests.nil : Tests S f y [] true := .inl ⟨rfl, rfl⟩
theorem Tests.one {c : Expr} {b : Bool} (h : EvT S f y c b) : Tests S f y [c] b := .inr ⟨c, rfl, h⟩
theorem Tests.run {ifs : List Expr} {b : Bool} (h : Tests S f y ifs b) {A : Around} {s : Shared} {Q : Bool → Shared → Prop} {E : Value → Shared → Prop} (hA : AOk f.k A) (ok : Ok S f y s.heap) (hq : ∀ h' tk, Keep s.heap h' → Q b { s with heap := h', toks := tk }) :
    wpAny (model S.prog S.w) A (forIn ifs true fun c r => if r = true then do let ok ← isTrue c f.env (eval c f.env); pure (ForInStep.yield ok) else pure (ForInStep.yield r)) Q E s := by
  rcases h with ⟨rfl, rfl⟩ | ⟨c, rfl, h⟩
  · exact wpAny_tests_nil (hq s.heap s.toks (Keep.refl _))
  · exact wpAny_tests_one (h A s Q E hA ok hq)

/-- a local name is stored: only the names' dict is changed -/
theorem store_local {x : Str} {v : Value} {d : D} {A : Around} {s : Shared} {Q : Unit → Shared → Prop} {E : Value → Shared → Prop} (ok : Ok S f y s.heap) (hk : f.env.kindOf x = some .local)
    (hv : Rd S y.U s.heap v d)
    (h : ∀ h' tk, KeepM [f.env.locals] s.heap h' → Ok S f { y with look := (x, .val d) :: y.look } h' → Q () { s with heap := h', toks := tk }) : wpAny (model S.prog S.w) A (storeName f.env x v) Q E s := by
  obtain ⟨m, hm⟩ := ok.ns
  have lvsame : ∀ {h' : Heap} {v : Value} {l : LV}, Heap.SameBut f.env.locals s.heap h' → LvOk S y.M y.U f.env.locals s.heap v l → LvOk S y.M y.U f.env.locals h' v l := by
    intro h' v l hs q
    cases l with
    | val d => exact Rd.same q (ok.mU _ ok.locM) hs
    | own a ds =>
      obtain ⟨e, u, nl, g⟩ := q
      exact ⟨e, u, nl, g.same (ok.mU _ ok.locM) hs nl⟩
  refine wpAny_storeName_local hk hm (fun h' hn hs => ?_) (by rw [ok.kind]; rfl)
  refine h h' _ (KeepM.of_same (List.mem_singleton.mpr rfl) hs) (ok.poke ok.locM hs ?_ ⟨_, hn⟩ (fun z k e => ?_) (fun z l e => ?_) ?_)
  · obtain ⟨o, _, _, ho, _⟩ := hn; exact ⟨o, ho⟩
  · obtain ⟨_, v, c⟩ := ok.cells z k e
    exact ⟨v, c.sameBut hs (ns_ne_cell hm c)⟩
  · by_cases hz : z = x
    · subst hz
      rw [lookup_cons_eq] at e
      cases e
      exact ⟨v, .inl ⟨hk, _, hn, by simp⟩, Rd.same hv (ok.mU _ ok.locM) hs⟩
    · rw [lookup_cons_ne hz] at e
      obtain ⟨v', a, b⟩ := ok.vars z l e
      refine ⟨v', ?_, lvsame hs b⟩
      rcases a with ⟨a1, m', a2, a3⟩ | ⟨a1, a2, c, a3, a4⟩
      · have := ns_fun hm a2; subst this
        exact .inl ⟨a1, _, hn, by simp [hz, a3]⟩
      · exact .inr ⟨a1, a2, c, a3, a4.sameBut hs (ns_ne_cell hm a4)⟩
  · intro x1 x2 a ds ds' e1 e2
    have : ∀ {z a ds}, List.lookup z ((x, LV.val d) :: y.look) = some (.own a ds) → y.look.lookup z = some (.own a ds) := by
      intro z a ds e
      by_cases hz : z = x
      · subst hz; rw [lookup_cons_eq] at e; cases e
      · rwa [lookup_cons_ne hz] at e
    exact ok.apart x1 x2 a ds ds' (this e1) (this e2)
/-- the target takes an item, its names all local -/
noncomputable def AsgL (S : S0) (f : Fm) (tgt : Expr) (d : D) (B : List (Str × LV)) : Prop :=
  ∀ (y : Dy) (A : Around) (s : Shared) (v : Value) (Q : Unit → Shared → Prop) (E : Value → Shared → Prop), A.handled = none → Ok S f y s.heap → Rd S y.U s.heap v d →
    (∀ h' tk, KeepM [f.env.locals] s.heap h' → Ok S f { y with look := B ++ y.look } h' → Q () { s with heap := h', toks := tk }) → wpAny (model S.prog S.w) A (assign tgt f.env v) Q E s
theorem AsgL.name {x : Str} {p : Pos} {d : D} (hk : f.env.kindOf x = some .local) : AsgL S f (.Name x p) d [(x, .val d)] := by
  intro y A s v Q E hh ok r hq
  exact wpAny_assign_Name (store_local ok hk r fun h' tk k ok' => hq h' tk k ok')
theorem AsgL.pair {x1 x2 : Str} {p1 p2 p : Pos} {k : Nat} {d1 d2 : D} (hk1 : f.env.kindOf x1 = some .local) (hk2 : f.env.kindOf x2 = some .local) : AsgL S f (.Tuple [.Name x1 p1, .Name x2 p2] k p) (.tup [d1, d2]) [(x2, .val d2), (x1, .val d1)] := by
  intro y A s v Q E hh ok r hq
  replace r := r.inv
  cases r with
  | @tup a o vs n ha ho hc hd r =>
    have r' := r
    generalize hvs : vs.toList = L at r'
    cases r' with
    | cons r1 r2 =>
      replace r2 := r2.inv
      cases r2 with
      | cons r2 r3 =>
        replace r3 := r3.inv
        cases r3
        rename_i v1 v2
        have hv : vs = #[v1, v2] := by rw [← Array.toArray_toList (xs := vs), hvs]
        subst hv
        refine assign_Tuple_tuple hh ⟨o, ho, hc, n, hd⟩ rfl rfl fun h1 hx => ?_
        have k1 : Keep s.heap h1 := fun b o e => hx b o (Nat.ne_of_lt (Heap.lt_size e)) e
        have ok1 := ok.keeps k1
        have hl : ∀ a ∈ [f.env.locals], a ∈ y.U := fun a ha => by rw [List.mem_singleton.mp ha]; exact ok.mU _ ok.locM
        show wpAny _ A (do holding [v2] (assign (.Name x1 p1) f.env v1); do holding [] (assign (.Name x2 p2) f.env v2); pure ()) _ _ _
        refine wpAny_bind (wpAny_holding (wpAny_assign_Name (store_local (s := { s with heap := h1 }) ok1 hk1 (r1.keep k1) fun h2 t2 k2 ok2 => ?_)))
        refine wpAny_bind (wpAny_holding (wpAny_assign_Name (store_local (s := { s with heap := h2, toks := t2 }) ok2 hk2 ((r2.keep k1).keepM k2 hl) fun h3 t3 k3 ok3 => wpAny_pure ?_)))
        exact hq h3 t3 (fun b o hb e => k3 b o hb (k2 b o hb (k1 b o e))) ok3

theorem compCore {elt tgt iter : Expr} {ifs : List Expr} {scope : Scope} {cl : List (Str × Addr)} {pos : Pos} {ds : List D} {Lz : List (Str × LV)} (p : Nat → D → Bool) (g : Nat → D → D) (B : Nat → D → List (Str × LV))
    (hz : ds.length ≤ 1000) (hcell : ∀ x ∈ scope.names, x.2 ≠ .cell) (hkind : scope.kind = .function) (hcl : ∀ x c, cl.lookup x = some c → f.env.cells.lookup x = some c)
    (hfree : ∀ z l, Lz.lookup z = some l → (∃ d, l = .val d) ∧ y.look.lookup z = some l ∧ FreeOk f scope cl z)
    (hs : Src S f y iter tgt ds)
    (ha : ∀ C i d, ds[i]? = some d → AsgL S (f.comp scope cl C) tgt d (B i d))
    (turn : ∀ C U i d, (∀ a ∈ y.U, a ∈ U) → ds[i]? = some d → Tests S (f.comp scope cl C) { U := U, M := C :: y.M, look := B i d ++ Lz } ifs (p i d) ∧ (p i d = true → Ev S (f.comp scope cl C) { U := U, M := C :: y.M, look := B i d ++ Lz } elt (g i d)))
    {A : Around} {s : Shared} {E : Value → Shared → Prop} {RR : Value → Addr → Result → Shared → Prop} (hA : AOk f.k A) (ok : Ok S f y s.heap)
    (hRR : ∀ D C h tk m', Keep s.heap h → h.Ns C m' → s.heap.get? C = none → s.heap.get? D = none → Rd S (C :: y.U) h (.ref D) (.lst (compOut p g 0 ds)) → RR (.ref D) C (.ok .next) { s with heap := h, toks := tk }) :
    wpAny (model S.prog S.w) A (eval iter f.env) (fun x s₁ => wpAny (model S.prog S.w) A (pyIter x) (fun it s₂ => wpAny (model S.prog S.w) A (newList []) (fun acc s₃ =>
      wpAny (model S.prog S.w) A (newFunctionEnv scope f.env.globals cl [] f.env.qual none .none (some f.env)) (fun cenv s₄ =>
        codeAny (model S.prog S.w) A (.compStart (.ListComp elt [⟨tgt, iter, ifs, 0⟩] scope pos) 0 it acc { cenv with scope := relabel scope f.env }) (RR acc cenv.locals) s₄) E s₃) E s₂) E s₁) E s := by
  refine hs A s _ _ hA ok fun I wr h' tk hW k0 hw hl => ?_
  refine wpAny_newObj_type (wpAny_newFunctionEnv hcell (by intro y hy; simp at hy) (fun h₁ hns₁ hsb₁ => ?_) hkind)
  dsimp only at hns₁ hsb₁ ⊢
  have kD := Keep.push h' { cls := .type "list", dict := none, data := .seq ([] : List Value).toArray }
  generalize hH2 : h'.push { cls := .type "list", dict := none, data := .seq ([] : List Value).toArray } = H2 at hns₁ hsb₁ kD ⊢
  have hC : H2.objs.size = h'.objs.size + 1 := by rw [← hH2, Heap.size_push]
  generalize hDg : h'.objs.size = Dd at hC ⊢
  generalize hCg : H2.objs.size = C at hns₁ hsb₁ hC ⊢
  have hDC : Dd ≠ C := by rw [hC]; exact Nat.ne_of_lt (Nat.lt_succ_self _)
  have below : ∀ b o, h'.get? b = some o → b ≠ Dd ∧ b ≠ C := fun b o e => by
    have h1 := Heap.lt_size e
    rw [hDg] at h1
    exact ⟨Nat.ne_of_lt h1, by rw [hC]; exact Nat.ne_of_lt (Nat.lt_succ_of_lt h1)⟩
  have k1 : Keep h' h₁ := fun b o e => hsb₁.extBut b o (below b o e).2 (Heap.get?_push_of_some _ (kD b o e))
  have gD : h₁.get? Dd = some (lobj [] 0) := by
    refine hsb₁.extBut _ _ hDC (Heap.get?_push_of_some _ ?_)
    rw [← hH2, ← hDg]; exact Heap.get?_push_size _ rfl
  obtain ⟨St, Mid, W, st0⟩ := hW [Dd, C] (fun a ha => by
    cases e : h'.get? a with
    | none => rfl
    | some o => have := below a o e; simp at ha; rcases ha with rfl | rfl <;> simp_all)
  have hnone : ∀ {b : Addr}, (b = Dd ∨ b = C) → s.heap.get? b = none := fun {b} hb => by
    cases e : s.heap.get? b with
    | none => rfl
    | some o => have := below b o (k0 b o e); rcases hb with rfl | rfl <;> simp_all
  have hDU : Dd ∉ y.U := fun q => by obtain ⟨o, e⟩ := ok.live _ q; rw [hnone (.inl rfl)] at e; cases e
  have hCU : C ∉ y.U := fun q => by obtain ⟨o, e⟩ := ok.live _ q; rw [hnone (.inr rfl)] at e; cases e
  have hwU : ∀ a ∈ wr, a ∉ y.U := fun a ha q => by obtain ⟨o, e⟩ := ok.live a q; rw [hw a ha] at e; cases e
  have hw0 : ∀ a ∈ wr, f.g₀.get? a = none := fun a ha => by
    cases e : f.g₀.get? a with
    | none => rfl
    | some o => have := ok.keep a o e; rw [hw a ha] at this; cases this
  have hwDC : ∀ a ∈ wr, a ≠ Dd ∧ a ≠ C := fun a ha => by obtain ⟨o, e⟩ := hl a ha; exact below a o e
  have hwX : ∀ a ∈ wr, a ∉ [Dd, C] ++ y.U ∧ f.g₀.get? a = none := fun a ha => ⟨by
    have := hwDC a ha; have := hwU a ha; simp_all, hw0 a ha⟩
  have hgsize : f.g₀.objs.size ≤ C := by
    have h1 := ok.mNew _ ok.locM
    have h2 : f.env.locals < s.heap.objs.size := by obtain ⟨m, hm⟩ := ok.ns; exact hm.lt
    refine Nat.le_of_not_lt fun q => ?_
    obtain ⟨m, hm⟩ := ok.ns
    obtain ⟨o, es, ep, ho, _⟩ := hm
    have := (below _ _ (k0 _ _ ho)).2
    have h3 := Heap.lt_size (k0 _ _ ho)
    rw [hDg] at h3
    have h4 : f.env.locals < C := by rw [hC]; exact Nat.lt_succ_of_lt h3
    exact absurd (Nat.lt_of_le_of_lt h1 h4) (Nat.not_lt.mpr (Nat.le_of_lt q))
  -- the block's context at a heap
  have okC : ∀ (H : Heap) (m' : Str → Option Value), H.Ns C m' → Keep s.heap H → (∃ o, H.get? Dd = some o) → (∀ a ∈ wr, ∃ o, H.get? a = some o) → Ok S (f.comp scope cl C) { U := wr ++ ([Dd, C] ++ y.U), M := C :: y.M, look := Lz } H := by
    intro H m' hn kH hD hwl
    refine { top0 := ok.top0, keep := ok.keep.trans kH, live := fun a ha => ?_, mU := fun a ha => ?_, mNew := fun a ha => ?_, uSub := fun a ha => ⟨List.mem_append_right _ (List.mem_append_right _ (ok.uSub a ha).1), (ok.uSub a ha).2⟩, kind := hkind, glob := ok.glob, blt := ok.blt, locM := List.mem_cons_self, ns := ⟨m', hn⟩, cells := fun z c e => ?_, cellsApart := fun z z' c e e' => ok.cellsApart z z' c (hcl z c e) (hcl z' c e'), vars := fun z l e => ?_, apart := fun z z' a d1 d2 e1 _ => ?_ }
    · rcases List.mem_append.mp ha with q | q
      · exact hwl a q
      · rcases List.mem_append.mp q with q | q
        · simp at q
          rcases q with rfl | rfl
          · exact hD
          · obtain ⟨o, _, _, ho, _⟩ := hn; exact ⟨o, ho⟩
        · obtain ⟨o, e⟩ := ok.live a q; exact ⟨o, kH a o e⟩
    · rcases List.mem_cons.mp ha with rfl | ha
      · exact List.mem_append_right _ (List.mem_append_left _ (by simp))
      · exact List.mem_append_right _ (List.mem_append_right _ (ok.mU a ha))
    · rcases List.mem_cons.mp ha with rfl | ha
      · exact hgsize
      · exact ok.mNew a ha
    · obtain ⟨a, v, b⟩ := ok.cells z c (hcl z c e)
      exact ⟨List.mem_cons_of_mem _ a, v, b.keeps kH⟩
    · obtain ⟨⟨d, rfl⟩, e2, fo⟩ := hfree z l e
      obtain ⟨v, a, b⟩ := ok.vars z _ e2
      refine ⟨v, ?_, ?_⟩
      · rcases a with ⟨a1, _⟩ | ⟨a1, a2, c, a3, a4⟩
        · exact absurd a1 fo.1
        · exact .inr ⟨fo.2.1.1, fo.2.1.2, c, fo.2.2.trans a3, a4.keeps kH⟩
      · refine Rd.mono (fun b o _ e => kH b o e) (fun b o e hb q => ?_) b
        rcases List.mem_append.mp q with q | q
        · rw [hw b q] at e; cases e
        · rcases List.mem_append.mp q with q | q
          · simp at q; rw [hnone q] at e; cases e
          · exact hb q
    · obtain ⟨⟨d, q⟩, _⟩ := hfree z _ e1; cases q
  have loop : ∀ s₃ : Shared, s₃ = { s with heap := h₁, toks := tk + ([] : List (Str × Value)).length } →
      codeAny (model S.prog S.w) A (.compLoop (.ListComp elt [⟨tgt, iter, ifs, 0⟩] scope pos) 0 (.ref I) (.ref Dd) (compEnvC scope cl C f.env)) (RR (.ref Dd) C) s₃ := by
    rintro s₃ rfl
    refine compLoop_all
      (fun k s' => ∃ h1 t1 i m' ys n, s' = { s with heap := h1, toks := t1 } ∧ i ≤ ds.length ∧ k = ds.length + 1 - i ∧ St i h1 ∧ Keep s.heap h1 ∧ h1.Ns C m' ∧ h1.get? Dd = some (lobj ys n) ∧ RdA S (wr ++ ([Dd, C] ++ y.U)) h1 ys (compOut p g 0 (ds.take i)) ∧ ys.length ≤ i)
      ?_ (ds.length + 1) ⟨h₁, _, 0, _, [], 0, rfl, Nat.zero_le _, rfl, W.frame _ _ _ st0 fun b o _ e => k1 b o e, k0.trans k1, hns₁, gD, by simpa [compOut] using RdA.nil, Nat.le_refl _⟩
    rintro k s' ⟨h1, t1, i, m', ys, n, rfl, hi, rfl, st, kk, hn, gDd, rys, hyl⟩
    have kwr : ∀ {H H' : Heap}, Keep s.heap H → KeepM wr H H' → Keep s.heap H' := fun {H H'} a b c o e => b c o (fun q => by rw [hw c q] at e; cases e) (a c o e)
    have hwrU : ∀ a ∈ wr, a ∈ wr ++ ([Dd, C] ++ y.U) := fun a ha => List.mem_append_left _ ha
    by_cases hlt : i < ds.length
    · have okc := okC h1 m' hn kk ⟨_, gDd⟩ (W.live _ _ st)
      refine W.next i _ _ _ hlt (fun a ha => okc.live a (List.mem_append_right _ ha)) st fun v h2 t2 mid km2 => ?_
      refine W.go i v _ _ _ mid fun h3 d hd rd st3 km3 => ?_
      have km23 : KeepM wr h1 h3 := fun b o hb e => km3 b o hb (km2 b o hb e)
      have ok3 := okC h3 m' (keepM_ns hn km23 fun q => (hwDC _ q).2 rfl) (kwr kk km23) ⟨_, km23 _ _ (fun q => (hwDC _ q).1 rfl) gDd⟩ (W.live _ _ st3)
      have gD3 := km23 _ _ (fun q => (hwDC _ q).1 rfl) gDd
      have rys3 := rys.keepM km23 hwrU
      refine ha C i d hd _ A _ v _ _ hA.1 ok3 rd fun h4 t4 km4 ok4 => ?_
      change KeepM [C] h3 h4 at km4
      have k04 : Keep s.heap h4 := fun b o e => km4 b o (fun q => by rw [List.mem_singleton.mp q] at e; rw [hnone (.inr rfl)] at e; cases e) (kwr kk km23 b o e)
      have gD4 := km4 _ _ (by simpa using hDC) gD3
      have hC4 : ∀ a ∈ [C], a ∈ wr ++ ([Dd, C] ++ y.U) := fun a ha => List.mem_append_right _ (List.mem_append_left _ (by rw [List.mem_singleton.mp ha]; simp))
      have rys4 := rys3.keepM km4 hC4
      have st4 := W.frame _ _ _ st3 fun b o hb e => km4 b o (fun q => hb (List.mem_append_left _ (by rw [List.mem_singleton.mp q]; simp))) e
      obtain ⟨tst, el⟩ := turn C (wr ++ ([Dd, C] ++ y.U)) i d (fun a ha => List.mem_append_right _ (List.mem_append_right _ ha)) hd
      refine tst.run hA ok4 fun h5 t5 k5 => ?_
      have ok5 := ok4.keeps k5
      have st5 := W.frame _ _ _ st4 fun b o _ e => k5 b o e
      obtain ⟨m5, hn5⟩ := ok5.ns
      change h5.Ns C m5 at hn5
      have out := compOut_take p g ds i d hd
      cases hp : p i d with
      | false =>
        rw [if_neg (by simp)]
        rw [hp, if_neg (by simp), List.append_nil] at out
        exact ⟨ds.length + 1 - (i + 1), by omega, h5, t5, i + 1, m5, ys, n, rfl, hlt, rfl, st5, k04.trans k5, hn5, k5 _ _ gD4, by rw [out]; exact rys4.keep k5, Nat.le_succ_of_le hyl⟩
      | true =>
        rw [if_pos rfl]
        rw [hp, if_pos rfl] at out
        refine el hp A _ _ _ hA ok5 fun v6 h6 t6 k6 r6 => ?_
        have ok6 := ok5.keeps k6
        have st6 := W.frame _ _ _ st5 fun b o _ e => k6 b o e
        have gD6 := k6 _ _ (k5 _ _ gD4)
        have hDX : Dd ∈ wr ++ ([Dd, C] ++ y.U) := List.mem_append_right _ (List.mem_append_left _ (by simp))
        refine append_at gD6 (fun h7 hs7 g7 => ?_) (by rw [List.size_toArray, sizeLine_eq]; omega)
        obtain ⟨m6, hn6⟩ := ok6.ns
        change h6.Ns C m6 at hn6
        refine ⟨ds.length + 1 - (i + 1), by omega, h7, t6, i + 1, m6, ys ++ [v6], n + 1, rfl, hlt, rfl, W.frame _ _ _ st6 (fun b o hb e => (hs7.2 b fun q => hb (List.mem_append_left _ (by rw [q]; simp))).trans e), fun b o e => (hs7.2 b fun q => by rw [q] at e; rw [hnone (.inl rfl)] at e; cases e).trans (k6 b o (k5 b o (k04 b o e))), hn6.sameBut hs7 (Ne.symm hDC), by rw [g7]; simp [lobj], ?_, by rw [List.length_append]; simpa using hyl⟩
        rw [out]
        exact (((rys4.keep k5).keep k6).same hDX hs7).append (.cons (r6.same hDX hs7) .nil)
    · obtain rfl : i = ds.length := Nat.le_antisymm hi (Nat.not_lt.mp hlt)
      refine W.done _ _ _ st fun h2 t2 km2 => ?_
      rw [List.take_length] at rys
      refine hRR Dd C h2 t2 m' (kwr kk km2) (keepM_ns hn km2 fun q => (hwDC _ q).2 rfl) (hnone (.inr rfl)) (hnone (.inl rfl)) ?_
      refine .lst (fun q => ?_) (km2 _ _ (fun q => (hwDC _ q).1 rfl) gDd) ⟨rfl, rfl⟩ rfl (RdA.less (rys.keepM km2 hwrU) fun a ha => ?_)
      · rcases List.mem_cons.mp q with q | q
        · exact hDC q
        · exact hDU q
      · rcases List.mem_cons.mp ha with rfl | ha
        · exact List.mem_append_right _ (List.mem_append_left _ (by simp))
        · exact List.mem_append_right _ (List.mem_append_right _ ha)
  exact codeAny_compStart_list (loop _ rfl) (W.self 0 _ _ _ (W.frame _ _ _ st0 fun b o _ e => k1 b o e) (loop _ rfl))
end
end Mine

end

section
namespace Mine
open PySem PySem.W PySem.Calls PyProof.Rows

/-- what is said of a comprehension's block, and of the frame around it -/
structure CompOk (f : Fm) (scope : Scope) (cl : List (Str × Addr)) (iter : Expr) : Prop where
  clos : closureFor scope f.env = pure cl
  cell : ∀ x ∈ scope.names, x.2 ≠ .cell
  kind : scope.kind = .function
  names : ∀ x ∈ scope.names, x.2 = .local → scope.names.lookup x.1 = some .local
  cl : ∀ x c, cl.lookup x = some c → f.env.cells.lookup x = some c
  fold : ∀ x, foldedSetIterable iter f.env x = pure x

section
variable {S : S0} {f : Fm} {y : Dy} {N : Dy → Prop} {R : D → Dy → Prop}

/-- what stood beside is let go, and changed -/
theorem Ok.dropped {h h' : Heap} {wr : List Addr} (ok : Ok S f { y with U := wr ++ y.U } h) (k : KeepM wr h h') (hw : ∀ a ∈ wr, a ∉ y.U ∧ f.g₀.get? a = none) (hm : ∀ a ∈ y.M, a ∈ y.U) (hu : ∀ a ∈ f.U₀, a ∈ y.U) : Ok S f y h' := by
  have hwM : ∀ a ∈ wr, a ∉ y.M := fun a ha q => (hw a ha).1 (hm a q)
  have hU : ∀ a ∈ wr, a ∈ wr ++ y.U := fun a ha => List.mem_append_left _ ha
  have hU2 : ∀ a ∈ y.U, a ∈ wr ++ y.U := fun a ha => List.mem_append_right _ ha
  refine { ok with keep := fun b o e => k b o (fun q => by rw [(hw b q).2] at e; cases e) (ok.keep b o e), live := fun a ha => ?_, mU := hm, uSub := fun a ha => ⟨hu a ha, (ok.uSub a ha).2⟩, ns := ?_, cells := fun z c e => ?_, vars := fun z l e => ?_ }
  · obtain ⟨o, e⟩ := ok.live a (hU2 a ha); exact ⟨o, k a o (fun q => (hw a q).1 ha) e⟩
  · obtain ⟨m, q⟩ := ok.ns; exact ⟨m, keepM_ns q k fun r => hwM _ r ok.locM⟩
  · obtain ⟨a, v, q⟩ := ok.cells z c e; exact ⟨a, v, keepM_cell q k fun r => hwM _ r a⟩
  · obtain ⟨v, a, b⟩ := ok.vars z l e
    refine ⟨v, VarAt.keepM ok k hwM a, ?_⟩
    cases l with
    | val d => exact (Rd.keepM b k hU).less hU2
    | own a ds => obtain ⟨e1, u, nl, g⟩ := b; exact ⟨e1, u, nl, (g.keepM k hU fun q => hwM _ q u).less hU2⟩

theorem Ev.comp {elt tgt iter : Expr} {ifs : List Expr} {scope : Scope} {cl : List (Str × Addr)} {pos : Pos} {ds : List D} {Lz : List (Str × LV)} (p : Nat → D → Bool) (g : Nat → D → D) (B : Nat → D → List (Str × LV))
    (hc : CompOk f scope cl iter) (hz : ds.length ≤ 1000)
    (hfree : ∀ z l, Lz.lookup z = some l → (∃ d, l = .val d) ∧ y.look.lookup z = some l ∧ FreeOk f scope cl z)
    (hs : Src S f y iter tgt ds)
    (ha : ∀ C i d, ds[i]? = some d → AsgL S (f.comp scope cl C) tgt d (B i d))
    (turn : ∀ C U i d, (∀ a ∈ y.U, a ∈ U) → ds[i]? = some d → Tests S (f.comp scope cl C) { U := U, M := C :: y.M, look := B i d ++ Lz } ifs (p i d) ∧ (p i d = true → Ev S (f.comp scope cl C) { U := U, M := C :: y.M, look := B i d ++ Lz } elt (g i d))) :
    Ev S f y (.ListComp elt [⟨tgt, iter, ifs, 0⟩] scope pos) (.lst (compOut p g 0 ds)) := by
  intro A s Q E hA ok hq
  rw [eval_ListComp]
  refine wpAny_comprehension_free (use := none) rfl hc.fold hc.clos hc.kind hc.names ?_
  refine compCore p g B hz hc.cell hc.kind hc.cl hfree hs ha turn hA ok fun D C h tk m' k hn hC hD r => ?_
  refine ⟨m', hn, fun h' hs' => ?_⟩
  refine hq (.ref D) h' tk (fun b o e => (hs'.2 b fun q => by rw [q] at e; rw [hC] at e; cases e).trans (k b o e)) ((r.same List.mem_cons_self hs').less fun a ha => List.mem_cons_of_mem _ ha)

theorem ExS.assignComp {x : Str} {px : Pos} {elt tgt iter : Expr} {ifs : List Expr} {scope : Scope} {cl : List (Str × Addr)} {pos spos : Pos} {ds : List D} {Lz : List (Str × LV)} (p : Nat → D → Bool) (g : Nat → D → D) (B : Nat → D → List (Str × LV))
    (hc : CompOk f scope cl iter) (hz : ds.length ≤ 1000)
    (hfree : ∀ z l, Lz.lookup z = some l → (∃ d, l = .val d) ∧ y.look.lookup z = some l ∧ FreeOk f scope cl z)
    (hs : Src S f y iter tgt ds)
    (ha : ∀ C i d, ds[i]? = some d → AsgL S (f.comp scope cl C) tgt d (B i d))
    (turn : ∀ C U i d, (∀ a ∈ y.U, a ∈ U) → ds[i]? = some d → Tests S (f.comp scope cl C) { U := U, M := C :: y.M, look := B i d ++ Lz } ifs (p i d) ∧ (p i d = true → Ev S (f.comp scope cl C) { U := U, M := C :: y.M, look := B i d ++ Lz } elt (g i d)))
    (hk : CanStore f x) (hsw : swapsWith (.ListComp elt [⟨tgt, iter, ifs, 0⟩] scope pos) (some (.Name x px)) spos.line f.env = pure true) :
    ExS S f y (.Assign [.Name x px] (.ListComp elt [⟨tgt, iter, ifs, 0⟩] scope pos) spos) (fun y' => y' = { y with look := (x, .val (.lst (compOut p g 0 ds))) :: y.look }) R := by
  intro A s Q E hA ok hq _
  rw [exec_Assign_Name_used _ _ _ _ hsw]
  refine wpAny_bind (wpAny_standAt (wpAny_bind ?_))
  show wpAny _ A (do let _ ← comprehension (.ListComp elt [⟨tgt, iter, ifs, 0⟩] scope pos) scope f.env _ (newList []) false (eval iter f.env) (some (PySem.assign (Expr.Name x px) f.env))) _ _ s
  refine wpAny_bind (wpAny_mono (wpAny_comprehension_free (use := some (PySem.assign (Expr.Name x px) f.env)) (Q := fun _ s' => Q .next s') rfl hc.fold hc.clos hc.kind hc.names ?_) (fun _ s' hq => wpAny_pure (wpAny_pure hq)) fun _ _ e => e)
  refine compCore p g B hz hc.cell hc.kind hc.cl hfree hs ha turn hA ok fun D C h tk m' k hn hC hD r => ?_
  show wpAny _ A (PySem.assign (Expr.Name x px) f.env (.ref D)) _ _ _
  have hnl : ∃ o, h.get? C = some o := by obtain ⟨o, _, _, ho, _⟩ := hn; exact ⟨o, ho⟩
  have okb : Ok S f { y with U := [C] ++ y.U } h := ok.beside k (fun a ha => by rw [List.mem_singleton.mp ha]; exact hC) (fun a ha => by rw [List.mem_singleton.mp ha]; exact hnl)
  have hCU : C ∉ y.U := fun q => by obtain ⟨o, e⟩ := ok.live _ q; rw [hC] at e; cases e
  have hCg : f.g₀.get? C = none := by
    cases e : f.g₀.get? C with
    | none => rfl
    | some o => have := ok.keep _ o e; rw [hC] at this; cases this
  refine wpAny_assign_Name (store_lv (lv := .val (.lst (compOut p g 0 ds))) okb hk r (fun _ _ e => by cases e) fun h2 t2 k2 ok2 => ?_)
  have hn2 : h2.Ns C m' := keepM_ns hn k2 fun q => hCU (ok.mU _ q)
  refine ⟨m', hn2, fun h3 hs3 => ?_⟩
  have km : KeepM [C] h2 h3 := KeepM.of_same (List.mem_singleton.mpr rfl) hs3
  have hM : ∀ a ∈ y.M, a ∈ y.U := ok.mU
  have ok2' : Ok S f { U := [C] ++ y.U, M := y.M, look := (x, .val (.lst (compOut p g 0 ds))) :: y.look } h2 := ok2
  have ok3 := Ok.dropped (y := { U := y.U, M := y.M, look := (x, .val (.lst (compOut p g 0 ds))) :: y.look }) ok2' km (fun a ha => by rw [List.mem_singleton.mp ha]; exact ⟨hCU, hCg⟩) hM (fun a ha => (ok.uSub a ha).1)
  refine hq _ h3 t2 rfl ⟨fun b o hb e => ?_, fun a ha => .inl ha⟩ ok3
  exact km b o (fun q => by rw [List.mem_singleton.mp q] at e; rw [hC] at e; cases e) (k2 b o hb (k b o e))
end
end Mine

end

section
namespace Mine
open PySem PySem.W PySem.Calls PyProof.Rows

theorem bindL_other {ko : Str → Option NameKind} {x : Str} : ∀ {l : List (Str × Value)} {m : Str → Option Value}, x ∉ l.map (·.1) → bindL ko l m x = m x
  | [], _, _ => rfl
  | (n, v) :: r, m, h => by
    simp only [List.map_cons, List.mem_cons, not_or] at h
    unfold bindL
    rw [bindL_other h.2]
    split
    · simp [h.1]
    · rfl
theorem bindL_at {ko : Str → Option NameKind} {x : Str} {w : Value} (hk : ko x = some .local) : ∀ {l : List (Str × Value)} {m : Str → Option Value}, (l.map (·.1)).Nodup → l.lookup x = some w → bindL ko l m x = some w
  | [], _, _, e => by simp at e
  | (n, v) :: r, m, nd, e => by
    simp only [List.map_cons, List.nodup_cons] at nd
    unfold bindL
    by_cases h : x = n
    · subst h
      rw [lookup_cons_eq] at e
      cases e
      rw [bindL_other nd.1, if_pos hk]
      simp
    · rw [lookup_cons_ne h] at e
      exact bindL_at hk nd.2 e
theorem bindC_other {ko : Str → Option NameKind} {x : Str} : ∀ {l : List (Str × Value)} {m : Str → Option Value}, x ∉ l.map (·.1) → bindC ko l m x = m x
  | [], _, _ => rfl
  | (n, v) :: r, m, h => by
    simp only [List.map_cons, List.mem_cons, not_or] at h
    unfold bindC
    rw [bindC_other h.2]
    split
    · rfl
    · simp [h.1]
theorem bindC_at {ko : Str → Option NameKind} {x : Str} {w : Value} (hk : ko x ≠ some .local) : ∀ {l : List (Str × Value)} {m : Str → Option Value}, (l.map (·.1)).Nodup → l.lookup x = some w → bindC ko l m x = some w
  | [], _, _, e => by simp at e
  | (n, v) :: r, m, nd, e => by
    simp only [List.map_cons, List.nodup_cons] at nd
    unfold bindC
    by_cases h : x = n
    · subst h
      rw [lookup_cons_eq] at e
      cases e
      rw [bindC_other nd.1, if_neg hk]
      simp
    · rw [lookup_cons_ne h] at e
      exact bindC_at hk nd.2 e

/-- the arguments, and what they are -/
inductive LvA (S : S0) (B U : List Addr) (h : Heap) : List Value → List LV → Prop
  | nil : LvA S B U h [] []
  | cons {v lv vs lvs} : (∀ L : Addr, (∀ a ∈ B, a ≠ L) → LvOk S B U L h v lv) → LvA S B U h vs lvs → LvA S B U h (v :: vs) (lv :: lvs)
theorem LvA.of {S : S0} {U : List Addr} {h : Heap} : ∀ {vs : List Value} {ds : List D}, RdA S U h vs ds → LvA S [] U h vs (ds.map .val) := by
  intro vs ds r
  induction vs generalizing ds with
  | nil => cases r; exact .nil
  | cons v vs ih => cases r with | cons r rs => exact .cons (fun _ _ => r) (ih rs)
theorem LvA.length {S : S0} {B U : List Addr} {h : Heap} : ∀ {vs : List Value} {ds : List LV}, LvA S B U h vs ds → vs.length = ds.length := by
  intro vs ds r
  induction r with
  | nil => rfl
  | cons _ _ ih => exact congrArg Nat.succ ih
theorem LvA.find {S : S0} {B U : List Addr} {h : Heap} {x : Str} {l : LV} : ∀ {names : List Str} {vs : List Value} {lvs : List LV}, LvA S B U h vs lvs → (names.zip lvs).lookup x = some l → ∃ v, (names.zip vs).lookup x = some v ∧ ∀ L : Addr, (∀ a ∈ B, a ≠ L) → LvOk S B U L h v l
  | [], _, _, _, e => by simp at e
  | _ :: _, _, _, .nil, e => by simp at e
  | n :: names, _, _, .cons r rs, e => by
    rw [List.zip_cons_cons] at e
    by_cases hx : x = n
    · subst hx
      rw [lookup_cons_eq] at e
      cases e
      exact ⟨_, by rw [List.zip_cons_cons, lookup_cons_eq], r⟩
    · rw [lookup_cons_ne hx] at e
      obtain ⟨v, e1, e2⟩ := LvA.find rs e
      exact ⟨v, by rw [List.zip_cons_cons, lookup_cons_ne hx]; exact e1, e2⟩
theorem zip_names {names : List Str} {vs : List Value} (h : vs.length = names.length) : (names.zip vs).map (·.1) = names := by
  rw [List.map_fst_zip]; omega

/-- what is said of a def in the K heap -/
structure DefOk (K : Frag) (a : Addr) (fd : FuncData) (body : List Stmt) (names : List Str) : Prop where
  at' : ∃ oc od osl, K.lookup a = some ⟨oc, od, .func fd, osl⟩
  glob : fd.globals = mainGlobals
  blt : fd.builtins = builtinsNs
  clos : fd.closure = []
  body : fd.body = .stmts body
  code : codeIn K fd.code fd.qualname = true
  kind : fd.scope.kind = .function
  co : fd.scope.isCoroutine = false
  gen : fd.scope.isGenerator = false
  bind : ∀ (s : Shared) (vs : List Value), K.In s.heap → vs.length = names.length → BindsTo s fd ⟨vs, []⟩ (names.zip vs)
  nodup : names.Nodup
  cnd : ((cellsFrom 0 fd.scope.names []).map (·.1)).Nodup
  kinds : ∀ n, ∀ x ∈ names, fd.scope.names.lookup x = some .local ∨ (fd.scope.names.lookup x = some .cell ∧ ((cellsFrom n fd.scope.names []).lookup x).isSome = true ∧ (x == ("__classdict__" : Str)) = false)

noncomputable def cellAddrs (fd : FuncData) (L : Addr) : List Addr := (cellsFrom (L + 1) fd.scope.names []).map (·.2)

section
variable {S : S0} {N : Dy → Prop} {R : D → Dy → Prop}

theorem enter {a : Addr} {fd : FuncData} {body : List Stmt} {names : List Str} {k : Nat} {bor : Bool} {g₀ : Heap} {U B : List Addr} {lvs : List LV} {A : Around} {s : Shared} {vs : List Value} {Q E : Value → Shared → Prop}
    (hd : DefOk S.K a fd body names) (hA : AOk (k + 1) A) (top : S.Ok g₀) (kg : Keep g₀ s.heap) (hsz : g₀.objs.size ≤ s.heap.objs.size) (live : ∀ a ∈ U, ∃ o, s.heap.get? a = some o) (hU : bor = false → ∀ a ∈ U, a < g₀.objs.size)
    (hB : ∀ a ∈ B, a ∈ U ∧ g₀.objs.size ≤ a) (hv : LvA S B U s.heap vs lvs) (hn : names.length = lvs.length)
    (hap : ∀ x x' a d d', (names.zip lvs).lookup x = some (.own a d) → (names.zip lvs).lookup x' = some (.own a d') → x = x')
    (h : ∀ L, Ex S { env := callEnvC fd L a, g₀ := g₀, U₀ := U, k := k, bor := bor } { U := (L :: cellAddrs fd L) ++ U, M := (L :: cellAddrs fd L) ++ B, look := names.zip lvs } body (fun _ => False) R)
    (hq : ∀ L v d y' h' tk, R d y' → KeepM B s.heap h' → Rd S U h' v d → Ok S { env := callEnvC fd L a, g₀ := g₀, U₀ := U, k := k, bor := bor } y' h' → Q v { s with heap := h', toks := tk }) :
    wpAny (model S.prog S.w) A (call (.ref a) vs) Q E s := by
  obtain ⟨oc, od, osl, ho⟩ := hd.at'
  have topS := top.keep kg
  have hlen : vs.length = names.length := by rw [hv.length, hn]
  refine wpAny_call (codeAny_call_function (by have := hA.2.1; omega) (topS.X _ _ ho) rfl hd.co hd.gen hd.body (codeRec_of topS.X hd.code) ((hd.bind s vs topS.X hlen) _ _ _ _ ?_))
  rw [hd.clos]
  refine wpAny_newFunctionEnv_cells hd.kind (fun x hx => ?_) fun env' he s' x => ?_
  · have hm : x.1 ∈ names := by
      have : x.1 ∈ (names.zip vs).map (·.1) := List.mem_map_of_mem hx
      rwa [zip_names hlen] at this
    rcases hd.kinds (s.heap.objs.size + 1) _ hm with q | q
    · exact .inl q
    · exact .inr ⟨q.1, q.2.1⟩
  · subst he
    refine ⟨topS.nolimit.keeps x.toInCall.keep, codeAny_func ?_⟩
    obtain ⟨h₁, tk, rfl, kp⟩ := x.done
    have hns := x.toInCall.ns
    have hcell := x.cell
    have hab := x.above
    have hapt := x.apart
    dsimp only [newEnv] at hns hcell hab hapt
    generalize hL : s.heap.objs.size = L at hns hcell hab hapt ⊢
    generalize hcs : cellsFrom (L + 1) fd.scope.names [] = cs at hcell hab hapt ⊢
    have hLn : ∀ a, L ≤ a → s.heap.get? a = none := fun a ha => Heap.get?_none_of_le (hL ▸ ha)
    have hMn : ∀ a ∈ L :: cs.map (·.2), L ≤ a := fun a ha => by
      rcases List.mem_cons.mp ha with rfl | ha
      · exact Nat.le_refl _
      · obtain ⟨p, hp, rfl⟩ := List.mem_map.mp ha
        exact Nat.le_of_lt (hab p.1 p.2 hp)
    have hBL : ∀ a ∈ B, a ≠ L := fun a ha q => by
      obtain ⟨o, e⟩ := live a (hB a ha).1
      have := Heap.lt_size e
      rw [hL, q] at this
      exact Nat.lt_irrefl _ this
    have hnew : ∀ b o, s.heap.get? b = some o → b ∉ U → b ∉ (L :: cs.map (·.2)) ++ U := fun b o e hb q => by
      rcases List.mem_append.mp q with q | q
      · rw [hLn b (hMn b q)] at e; cases e
      · exact hb q
    have hcadd : cellAddrs fd L = cs.map (·.2) := by unfold cellAddrs; rw [hcs]
    have henv : callEnvC fd L a = newEnv fd.scope L fd.globals cs (fd.qualname ++ ".<locals>.") (some a) fd.code none fd.builtins := by unfold callEnvC; rw [hcs]
    have hok : Ok S { env := callEnvC fd L a, g₀ := g₀, U₀ := U, k := k, bor := bor } { U := (L :: cellAddrs fd L) ++ U, M := (L :: cellAddrs fd L) ++ B, look := names.zip lvs } h₁ := by
      rw [hcadd, henv]
      refine { top0 := top, keep := kg.trans kp, live := fun b hb => ?_, mU := fun b hb => ?_, mNew := fun b hb => ?_, uSub := fun b hb => ⟨List.mem_append_right _ hb, fun e => hU e b hb⟩, kind := hd.kind, glob := hd.glob, blt := hd.blt, locM := List.mem_append_left _ List.mem_cons_self, ns := ⟨_, hns⟩, cells := fun z c e => ?_, cellsApart := fun z z' c e e' => ?_, vars := fun z l e => ?_, apart := hap }
      · rcases List.mem_append.mp hb with q | q
        · rcases List.mem_cons.mp q with rfl | q
          · obtain ⟨o, _, _, ho, _⟩ := hns; exact ⟨o, ho⟩
          · obtain ⟨p, hp, rfl⟩ := List.mem_map.mp q
            obtain ⟨o, e, _⟩ := hcell p.1 p.2 (lookup_of_mem_nodup (by rw [← hcs]; exact cellsFrom_names fd.scope.names 0 (L + 1) [] [] rfl ▸ hd.cnd) hp)
            exact ⟨o, e⟩
        · obtain ⟨o, e⟩ := live b q; exact ⟨o, kp b o e⟩
      · rcases List.mem_append.mp hb with q | q
        · exact List.mem_append_left _ q
        · exact List.mem_append_right _ (hB b q).1
      · rcases List.mem_append.mp hb with q | q
        · exact Nat.le_trans (hL ▸ hsz) (hMn b q)
        · exact (hB b q).2
      · exact ⟨List.mem_append_left _ (List.mem_cons_of_mem _ (List.mem_map_of_mem (f := (·.2)) (lookup_mem e))), _, hcell z c e⟩
      · exact name_of_addr hapt (mem_of_lookup e) (mem_of_lookup e')
      · obtain ⟨v, e1, e2⟩ := hv.find e
        have hzn : z ∈ names := by
          have : (z, v) ∈ names.zip vs := lookup_mem e1
          exact (List.of_mem_zip this).1
        refine ⟨v, ?_, ?_⟩
        · rcases hd.kinds (L + 1) z hzn with q | ⟨q1, q2, q3⟩
          · exact .inl ⟨q, _, hns, bindL_at q (by rw [zip_names hlen]; exact hd.nodup) e1⟩
          · rw [hcs] at q2
            obtain ⟨c, hc⟩ := Option.isSome_iff_exists.mp q2
            refine .inr ⟨.inl q1, q3, c, hc, ?_⟩
            have := hcell z c hc
            rwa [bindC_at (by show fd.scope.names.lookup z ≠ _; rw [q1]; decide) (by rw [zip_names hlen]; exact hd.nodup) e1] at this
        · have q := e2 L hBL
          cases l with
          | val d => exact Rd.mono (fun b o _ e => kp b o e) hnew q
          | own b d =>
            obtain ⟨q1, q2, q3, q4⟩ := q
            exact ⟨q1, List.mem_append_right _ q2, q3, q4.mono (fun o e => kp _ o e) (fun b o _ e => kp b o e) hnew⟩
    have hA' : AOk k (A.deeper (callEnvC fd L a)) := ⟨hA.1, by show A.depth + 1 + k < _; have := hA.2.1; omega, by show A.units + 3 + 8 * k + 200 < _; have := hA.2.2; omega⟩
    rw [← henv]
    refine h L _ { s with heap := h₁, toks := tk } _ _ hA' hok (fun y' h' tk' n _ _ => n.elim) fun v d y' h' tk' r km rd okr => ?_
    refine hq L v d y' h' tk' r (fun b o hb e => ?_) rd okr
    refine km b o (fun q => ?_) (kp b o e)
    rcases List.mem_append.mp q with q | q
    · rw [hcadd] at q; rw [hLn b (hMn b q)] at e; cases e
    · exact hb q

theorem zip_val {names : List Str} {ds : List D} {z : Str} {a : Addr} {d : D} : ¬ (names.zip (ds.map LV.val)).lookup z = some (.own a d) := by
  induction names generalizing ds with
  | nil => simp
  | cons n names ih =>
    cases ds with
    | nil => simp
    | cons d' ds =>
      rw [List.map_cons, List.zip_cons_cons]
      by_cases h : z = n
      · subst h; rw [lookup_cons_eq]; intro q; cases q
      · rw [lookup_cons_ne h]; exact ih
/-- a def that changes nothing -/
theorem FnC.def {a : Addr} {fd : FuncData} {body : List Stmt} {names : List Str} {k : Nat} {ds : List D} {d : D} (hd : DefOk S.K a fd body names) (hn : names.length = ds.length)
    (h : ∀ L g₀ U, Ex S { env := callEnvC fd L a, g₀ := g₀, U₀ := U, k := k } { U := (L :: cellAddrs fd L) ++ U, M := L :: cellAddrs fd L, look := names.zip (ds.map .val) } body (fun _ => False) (fun d' _ => d' = d)) : FnC S (.ref a) (k + 1) ds d := by
  intro A s U vs Q E hA top live r hq
  refine enter (B := []) (bor := false) (R := fun d' _ => d' = d) hd hA top (Keep.refl _) (Nat.le_refl _) live (fun _ a ha => by obtain ⟨o, e⟩ := live a ha; exact Heap.lt_size e) (fun _ h => nomatch h) (LvA.of r) (by rw [List.length_map]; exact hn) (fun x x' a d d' e _ => absurd e zip_val) (fun L => ?_) fun L v d' y' h' tk e km rd _ => ?_
  · rw [List.append_nil]; exact h L s.heap U
  · subst e; exact hq v h' tk (fun b o e => km b o (fun q => nomatch q) e) rd
end
end Mine
namespace Mine
open PySem PySem.W PySem.Calls PyProof.Rows
noncomputable def defCheck (K : Frag) (fd : FuncData) (names : List Str) : Bool :=
  Nat.beq fd.globals mainGlobals && Nat.beq fd.builtins builtinsNs && fd.closure.isEmpty && codeIn K fd.code fd.qualname && (match fd.scope.kind with | .function => true | _ => false) && !fd.scope.isCoroutine && !fd.scope.isGenerator &&
  decide names.Nodup && decide ((cellsFrom 0 fd.scope.names []).map (·.1)).Nodup &&
  names.all fun x => fd.scope.names.lookup x == some .local || (fd.scope.names.lookup x == some .cell && ((cellsFrom 0 fd.scope.names []).lookup x).isSome && !(x == ("__classdict__" : Str)))
theorem lookup_isSome_keys {x : Str} : ∀ {l l' : List (Str × Addr)}, l.map (·.1) = l'.map (·.1) → (l.lookup x).isSome = (l'.lookup x).isSome
  | [], [], _ => rfl
  | [], _ :: _, h => by simp at h
  | _ :: _, [], h => by simp at h
  | (k, v) :: l, (k', v') :: l', h => by
    simp only [List.map_cons, List.cons.injEq] at h
    obtain ⟨rfl, h⟩ := h
    by_cases q : x = k
    · subst q; rw [lookup_cons_eq, lookup_cons_eq]; rfl
    · rw [lookup_cons_ne q, lookup_cons_ne q]; exact lookup_isSome_keys h
theorem DefOk.of {K : Frag} {a : Addr} {oc : Value} {od : Option Addr} {osl : Array (Option Value)} {fd : FuncData} {body : List Stmt} {names : List Str} (hat : K.lookup a = some ⟨oc, od, .func fd, osl⟩) (hb : fd.body = .stmts body) (hc : defCheck K fd names = true)
    (bind : ∀ (s : Shared) (vs : List Value), K.In s.heap → vs.length = names.length → BindsTo s fd ⟨vs, []⟩ (names.zip vs)) : DefOk K a fd body names := by
  unfold defCheck at hc
  simp only [Bool.and_eq_true, Bool.not_eq_true', decide_eq_true_eq, List.all_eq_true, Bool.or_eq_true, beq_iff_eq, List.isEmpty_iff] at hc
  obtain ⟨⟨⟨⟨⟨⟨⟨⟨⟨h1, h2⟩, h3⟩, h4⟩, h5⟩, h6⟩, h7⟩, h8⟩, h9⟩, h10⟩ := hc
  refine ⟨⟨_, _, _, hat⟩, Nat.eq_of_beq_eq_true h1, Nat.eq_of_beq_eq_true h2, h3, hb, h4, ?_, h6, h7, bind, h8, h9, fun n x hx => ?_⟩
  · cases hk : fd.scope.kind <;> rw [hk] at h5 <;> first | rfl | cases h5
  · rcases h10 x hx with q | ⟨⟨q1, q2⟩, q3⟩
    · exact .inl q
    · exact .inr ⟨q1, (lookup_isSome_keys (cellsFrom_names fd.scope.names n 0 [] [] rfl)).trans q2, q3⟩
section
variable {K : Frag} {fd : FuncData}
theorem len_cons {α : Type} : ∀ {vs : List α} {n : Nat}, vs.length = n + 1 → ∃ v r, vs = v :: r ∧ r.length = n
  | v :: r, _, h => ⟨v, r, rfl, Nat.succ.inj h⟩
theorem bind1 {x1 : Str} (h : ∀ St v1, peek K St (bindArgs fd ⟨[v1], []⟩) = some [(x1, v1)]) : ∀ (s : Shared) (vs : List Value), K.In s.heap → vs.length = [x1].length → BindsTo s fd ⟨vs, []⟩ ([x1].zip vs) := by
  intro s vs X hl0
  obtain ⟨v1, r1, rfl, hl1⟩ := len_cons hl0
  obtain rfl := List.eq_nil_of_length_eq_zero hl1
  exact kp_binds X fun St => h St v1
theorem bind2 {x1 x2 : Str} (h : ∀ St v1 v2, peek K St (bindArgs fd ⟨[v1, v2], []⟩) = some [(x1, v1), (x2, v2)]) : ∀ (s : Shared) (vs : List Value), K.In s.heap → vs.length = [x1, x2].length → BindsTo s fd ⟨vs, []⟩ ([x1, x2].zip vs) := by
  intro s vs X hl0
  obtain ⟨v1, r1, rfl, hl1⟩ := len_cons hl0
  obtain ⟨v2, r2, rfl, hl2⟩ := len_cons hl1
  obtain rfl := List.eq_nil_of_length_eq_zero hl2
  exact kp_binds X fun St => h St v1 v2
theorem bind3 {x1 x2 x3 : Str} (h : ∀ St v1 v2 v3, peek K St (bindArgs fd ⟨[v1, v2, v3], []⟩) = some [(x1, v1), (x2, v2), (x3, v3)]) : ∀ (s : Shared) (vs : List Value), K.In s.heap → vs.length = [x1, x2, x3].length → BindsTo s fd ⟨vs, []⟩ ([x1, x2, x3].zip vs) := by
  intro s vs X hl0
  obtain ⟨v1, r1, rfl, hl1⟩ := len_cons hl0
  obtain ⟨v2, r2, rfl, hl2⟩ := len_cons hl1
  obtain ⟨v3, r3, rfl, hl3⟩ := len_cons hl2
  obtain rfl := List.eq_nil_of_length_eq_zero hl3
  exact kp_binds X fun St => h St v1 v2 v3
theorem bind4 {x1 x2 x3 x4 : Str} (h : ∀ St v1 v2 v3 v4, peek K St (bindArgs fd ⟨[v1, v2, v3, v4], []⟩) = some [(x1, v1), (x2, v2), (x3, v3), (x4, v4)]) : ∀ (s : Shared) (vs : List Value), K.In s.heap → vs.length = [x1, x2, x3, x4].length → BindsTo s fd ⟨vs, []⟩ ([x1, x2, x3, x4].zip vs) := by
  intro s vs X hl0
  obtain ⟨v1, r1, rfl, hl1⟩ := len_cons hl0
  obtain ⟨v2, r2, rfl, hl2⟩ := len_cons hl1
  obtain ⟨v3, r3, rfl, hl3⟩ := len_cons hl2
  obtain ⟨v4, r4, rfl, hl4⟩ := len_cons hl3
  obtain rfl := List.eq_nil_of_length_eq_zero hl4
  exact kp_binds X fun St => h St v1 v2 v3 v4
end
end Mine
namespace Mine
open PySem PySem.W PySem.Calls PyProof.Rows
/-- a def's frame -/
noncomputable def envF (sc : Scope) (q : Str) (cd : Value) (L a : Addr) : Env := newEnv sc L mainGlobals (cellsFrom (L + 1) sc.names []) (q ++ ".<locals>.") (some a) cd none builtinsNs
noncomputable def cellsF (sc : Scope) (L : Addr) : List Addr := (cellsFrom (L + 1) sc.names []).map (·.2)
theorem FnC.run {S : S0} {a : Addr} {oc : Value} {od : Option Addr} {osl : Array (Option Value)} {name q : Str} {params : Arguments} {body : List Stmt} {sc : Scope} {dV kV doc pm cd ct : Value} {an : Option Addr} {names : List Str} {k : Nat} {ds : List D} {d : D}
    (hat : S.K.lookup a = some ⟨oc, od, .func (fnX name q params body sc [] dV kV doc pm an cd ct), osl⟩) (hc : defCheck S.K (fnX name q params body sc [] dV kV doc pm an cd ct) names = true)
    (bind : ∀ (s : Shared) (vs : List Value), S.K.In s.heap → vs.length = names.length → BindsTo s (fnX name q params body sc [] dV kV doc pm an cd ct) ⟨vs, []⟩ (names.zip vs)) (hn : names.length = ds.length)
    (h : ∀ L g₀ U, Ex S { env := envF sc q cd L a, g₀ := g₀, U₀ := U, k := k } { U := (L :: cellsF sc L) ++ U, M := L :: cellsF sc L, look := names.zip (ds.map .val) } body (fun _ => False) (fun d' _ => d' = d)) : FnC S (.ref a) (k + 1) ds d :=
  FnC.def (DefOk.of hat rfl hc bind) hn fun L g₀ U => h L g₀ U
end Mine

end

section
namespace Mine
open PySem PySem.W PySem.Calls PyProof.Rows

theorem FnC.go {S : S0} {a : Addr} {oc : Value} {od : Option Addr} {osl : Array (Option Value)} {name q : Str} {params : Arguments} {body : List Stmt} {sc : Scope} {dV kV doc pm cd ct : Value} {an : Option Addr} {names : List Str} {k : Nat} {ds : List D} {d : D}
    (hat : S.K.lookup a = some ⟨oc, od, .func (fnX name q params body sc [] dV kV doc pm an cd ct), osl⟩) (hc : defCheck S.K (fnX name q params body sc [] dV kV doc pm an cd ct) names = true)
    (bind : ∀ (s : Shared) (vs : List Value), S.K.In s.heap → vs.length = names.length → BindsTo s (fnX name q params body sc [] dV kV doc pm an cd ct) ⟨vs, []⟩ (names.zip vs)) (hn : names.length = ds.length)
    (h : ∀ L g₀ U₀ U M, Ex S { env := envF sc q cd L a, g₀ := g₀, U₀ := U₀, k := k } ⟨U, M, names.zip (ds.map .val)⟩ body (fun _ => False) (fun d' _ => d' = d)) : FnC S (.ref a) (k + 1) ds d :=
  FnC.run hat hc bind hn fun L g₀ U => h L g₀ U _ _

section
variable {S : S0} {f : Fm} {U M : List Addr} {lk : List (Str × LV)} {N : Dy → Prop} {R : D → Dy → Prop} {ss : List Stmt}
theorem Ex.assign {x : Str} {e : Expr} {d : D} {p pos : Pos} (h : Ev S f ⟨U, M, lk⟩ e d) (hk : CanStore f x) (hs : swapsWith e (some (.Name x p)) pos.line f.env = pure false) (r : Ex S f ⟨U, M, (x, .val d) :: lk⟩ ss N R) : Ex S f ⟨U, M, lk⟩ (.Assign [.Name x p] e pos :: ss) N R :=
  Ex.one (ExS.assign h hk hs) r
theorem Ex.ret {e : Expr} {d : D} {pos} (h : Ev S f ⟨U, M, lk⟩ e d) (hr : R d ⟨U, M, lk⟩) : Ex S f ⟨U, M, lk⟩ (.Return (some e) pos :: ss) (fun _ => False) R := Ex.cons (N' := fun _ => False) (ExS.ret h hr) fun _ q => q.elim
theorem Ex.retN {e : Expr} {d : D} {pos} (h : Ev S f ⟨U, M, lk⟩ e d) (hr : R d ⟨U, M, lk⟩) : Ex S f ⟨U, M, lk⟩ (.Return (some e) pos :: ss) N R := Ex.cons (N' := fun _ => False) (ExS.ret h hr) fun _ q => q.elim
/-- if t: .. return -/
theorem Ex.ifRet {t : Expr} {b : Bool} {body : List Stmt} {pos} (h : EvT S f ⟨U, M, lk⟩ t b) (h1 : b = true → Ex S f ⟨U, M, lk⟩ body (fun _ => False) R) (h2 : b = false → Ex S f ⟨U, M, lk⟩ ss N R) : Ex S f ⟨U, M, lk⟩ (.If t body [] pos :: ss) N R := by
  refine Ex.cons (N' := fun y' => b = false ∧ y' = ⟨U, M, lk⟩) (ExS.if h (fun e => (h1 e).mono (fun _ q => q.elim) fun _ _ q => q) fun e => Ex.nil ⟨e, rfl⟩) ?_
  rintro y' ⟨e, rfl⟩
  exact h2 e
/-- if t: body (no return there, the way known) -/
theorem Ex.ifT {t : Expr} {b : Bool} {body orelse : List Stmt} {pos} {y1 : Dy} (h : EvT S f ⟨U, M, lk⟩ t b) (h1 : b = true → Ex S f ⟨U, M, lk⟩ body (fun y' => y' = y1) R) (h2 : b = false → Ex S f ⟨U, M, lk⟩ orelse (fun y' => y' = y1) R) (r : Ex S f y1 ss N R) : Ex S f ⟨U, M, lk⟩ (.If t body orelse pos :: ss) N R :=
  Ex.one (ExS.if h h1 h2) r
theorem Ex.assignOwn {x : Str} {es : List Expr} {ds : List D} {p pos lpos : Pos} (h : EvL S f ⟨U, M, lk⟩ es ds) (hz : ds.length ≤ 1000) (hk : CanStore f x) (hs : swapsWith (.List es lpos) (some (.Name x p)) pos.line f.env = pure false)
    (r : ∀ a U' M', Ex S f ⟨U', M', (x, .own a (.lst ds)) :: lk⟩ ss N R) : Ex S f ⟨U, M, lk⟩ (.Assign [.Name x p] (.List es lpos) pos :: ss) N R :=
  Ex.cons (ExS.assignOwn h hz hk hs) (by rintro y' ⟨a, rfl⟩; exact r _ _ _)
theorem Ex.append {x : Str} {e : Expr} {d : D} {a : Addr} {ds : List D} {p apos cpos pos : Pos} (hx : lk.lookup x = some (.own a (.lst ds))) (h : Ev S f ⟨U, M, lk⟩ e d) (hz : ds.length ≤ 1000)
    (hse : starEach [e] f.env = [(false, eval e f.env)]) (hline : (apos.endLine == cpos.line) = true) (hd : (x == ("__debug__" : Str)) = false) (hi : interactive f.env = false)
    (hs : swapsWith (.Call (.Attribute (.Name x p) "append" apos) [e] [] cpos) none pos.line f.env = pure false) (hbase : attributeBase (.Name x p) "append" f.env (eval (.Name x p) f.env) = eval (.Name x p) f.env)
    (r : Ex S f ⟨U, M, (x, .own a (.lst (ds ++ [d]))) :: lk⟩ ss N R) :
    Ex S f ⟨U, M, lk⟩ (.Expr (.Call (.Attribute (.Name x p) "append" apos) [e] [] cpos) pos :: ss) N R :=
  Ex.one (ExS.append hx h hz hse hline hd hi hs hbase) r
theorem Ex.frz {x : Str} {a : Addr} {ds : List D} (names : List Str) (hx : lk.lookup x = some (.own a (.lst ds))) (hbor : f.bor = false) (r : ∀ U' M', Ex S f ⟨U', M', (x, .val (.lst ds)) :: reach lk names⟩ ss N R) : Ex S f ⟨U, M, lk⟩ ss N R :=
  Ex.freeze names hbor hx (r _ _)
theorem Ex.for {tgt it : Expr} {body : List Stmt} {pos : Pos} {ds : List D} (L : Nat → List (Str × LV)) (B : Nat → D → List (Str × LV)) (hs : Src S f ⟨U, M, lk⟩ it tgt ds) (h0 : Sub (L 0) lk)
    (ha : ∀ i d, ds[i]? = some d → Asg S f tgt d (B i d))
    (turn : ∀ U' i d, ds[i]? = some d → Ex S f ⟨U', M, B i d ++ L i⟩ body (fun y' => y'.U = U' ∧ y'.M = M ∧ Sub (L (i + 1)) y'.look) R)
    (hf : ∀ x, foldedSetIterable it f.env x = pure x) (r : Ex S f ⟨U, M, L ds.length⟩ ss N R) : Ex S f ⟨U, M, lk⟩ (.For tgt it body [] pos :: ss) N R :=
  Ex.one (ExS.for L B hs h0 ha (fun U' i d _ hd => turn U' i d hd) rfl hf) r
theorem Ex.assignComp {x : Str} {px : Pos} {elt tgt iter : Expr} {ifs : List Expr} {scope : Scope} {cl : List (Str × Addr)} {pos spos : Pos} {ds : List D} {Lz : List (Str × LV)} (p : Nat → D → Bool) (g : Nat → D → D) (B : Nat → D → List (Str × LV))
    (hc : CompOk f scope cl iter) (hz : ds.length ≤ 1000)
    (hfree : ∀ z l, Lz.lookup z = some l → (∃ d, l = .val d) ∧ lk.lookup z = some l ∧ FreeOk f scope cl z)
    (hs : Src S f ⟨U, M, lk⟩ iter tgt ds)
    (ha : ∀ C i d, ds[i]? = some d → AsgL S (f.comp scope cl C) tgt d (B i d))
    (turn : ∀ C U' M' i d, ds[i]? = some d → Tests S (f.comp scope cl C) ⟨U', M', B i d ++ Lz⟩ ifs (p i d) ∧ (p i d = true → Ev S (f.comp scope cl C) ⟨U', M', B i d ++ Lz⟩ elt (g i d)))
    (hk : CanStore f x) (hsw : swapsWith (.ListComp elt [⟨tgt, iter, ifs, 0⟩] scope pos) (some (.Name x px)) spos.line f.env = pure true)
    (r : Ex S f ⟨U, M, (x, .val (.lst (compOut p g 0 ds))) :: lk⟩ ss N R) :
    Ex S f ⟨U, M, lk⟩ (.Assign [.Name x px] (.ListComp elt [⟨tgt, iter, ifs, 0⟩] scope pos) spos :: ss) N R :=
  Ex.one (ExS.assignComp p g B hc hz hfree hs ha (fun C U' i d _ hd => turn C U' _ i d hd) hk hsw) r
theorem Ev.lc {elt tgt iter : Expr} {ifs : List Expr} {scope : Scope} {cl : List (Str × Addr)} {pos : Pos} {ds : List D} {Lz : List (Str × LV)} (p : Nat → D → Bool) (g : Nat → D → D) (B : Nat → D → List (Str × LV))
    (hc : CompOk f scope cl iter) (hz : ds.length ≤ 1000)
    (hfree : ∀ z l, Lz.lookup z = some l → (∃ d, l = .val d) ∧ lk.lookup z = some l ∧ FreeOk f scope cl z)
    (hs : Src S f ⟨U, M, lk⟩ iter tgt ds)
    (ha : ∀ C i d, ds[i]? = some d → AsgL S (f.comp scope cl C) tgt d (B i d))
    (turn : ∀ C U' M' i d, ds[i]? = some d → Tests S (f.comp scope cl C) ⟨U', M', B i d ++ Lz⟩ ifs (p i d) ∧ (p i d = true → Ev S (f.comp scope cl C) ⟨U', M', B i d ++ Lz⟩ elt (g i d))) :
    Ev S f ⟨U, M, lk⟩ (.ListComp elt [⟨tgt, iter, ifs, 0⟩] scope pos) (.lst (compOut p g 0 ds)) :=
  Ev.comp p g B hc hz hfree hs ha fun C U' i d _ hd => turn C U' _ i d hd
theorem EvT.eq {y : Dy} {e : Expr} {b b' : Bool} (h : EvT S f y e b) (q : b = b') : EvT S f y e b' := q ▸ h
theorem Ev.eq {y : Dy} {e : Expr} {b b' : D} (h : Ev S f y e b) (q : b = b') : Ev S f y e b' := q ▸ h
theorem ItemR.tup0 {d : D} {l : List D} : ItemR S (.tup (d :: l)) (.int 0) d := ItemR.tup (j := 0) (by decide) (by simp [seqIndex?]) rfl
/-- a name that the frame has not: this way is never gone -/
theorem Ex.absurd {x : Str} {l : LV} (hx : lk.lookup x = some l) (hk : f.env.kindOf x = none) : Ex S f ⟨U, M, lk⟩ ss N R := by
  intro A s Q E hA ok _ _
  obtain ⟨v, a, _⟩ := ok.vars x l hx
  rcases a with ⟨a, _⟩ | ⟨a | a, _⟩ <;> rw [hk] at a <;> cases a
theorem freeNil {P : Str → LV → Prop} : ∀ z l, ([] : List (Str × LV)).lookup z = some l → P z l := fun _ _ e => by simp at e
theorem freeCons {P : Str → LV → Prop} {x : Str} {d : LV} {Lz : List (Str × LV)} (h : P x d) (r : ∀ z l, Lz.lookup z = some l → P z l) : ∀ z l, ((x, d) :: Lz).lookup z = some l → P z l := fun z l e => by
  by_cases q : z = x
  · subst q; rw [lookup_cons_eq] at e; cases e; exact h
  · rw [lookup_cons_ne q] at e; exact r z l e
end

noncomputable def compM {α : Type} (p : Nat → α → Bool) (g : Nat → α → D) (i : Nat) : List α → List D
  | [] => []
  | d :: l => if p i d then g i d :: compM p g (i + 1) l else compM p g (i + 1) l
theorem compM_filter {α : Type} (p : α → Bool) (g : α → D) : ∀ (l : List α) (i : Nat), compM (fun _ => p) (fun _ => g) i l = (l.filter p).map g
  | [], _ => rfl
  | a :: l, i => by
    have ih := compM_filter p g l (i + 1)
    simp only [compM, List.filter_cons]
    split <;> simp [ih]
theorem compM_map {α : Type} (g : α → D) : ∀ (l : List α) (i : Nat), compM (fun _ _ => true) (fun _ => g) i l = l.map g
  | [], _ => rfl
  | a :: l, i => by simp [compM, compM_map g l (i + 1)]
theorem compOut_compM {α : Type} {p : Nat → α → Bool} {g : Nat → α → D} {p' : Nat → D → Bool} {g' : Nat → D → D} : ∀ {rs : List α} {ds : List D} {k : Nat}, ds.length = rs.length → (∀ i r d, rs[i]? = some r → ds[i]? = some d → p' (k + i) d = p (k + i) r ∧ g' (k + i) d = g (k + i) r) → compOut p' g' k ds = compM p g k rs
  | [], [], _, _, _ => rfl
  | [], _ :: _, _, h, _ => by simp at h
  | _ :: _, [], _, h, _ => by simp at h
  | r :: rs, d :: ds, k, h, H => by
    have h0 := H 0 r d rfl rfl
    rw [Nat.add_zero] at h0
    have ih := @compOut_compM α p g p' g' rs ds (k + 1) (by simpa using h) fun i r d e1 e2 => by
      have := H (i + 1) r d e1 e2
      rw [show k + (i + 1) = k + 1 + i by omega] at this
      exact this
    simp only [compOut, compM, h0.1, h0.2, ih]
theorem ix_len {α : Type} {ds : List D} {rs : List α} {φ : Nat → α → D} (h : ∀ i : Nat, ds[i]? = rs[i]?.map (φ i)) : ds.length = rs.length := by
  apply Nat.le_antisymm
  · refine Nat.le_of_not_lt fun q => ?_
    have := h rs.length
    rw [List.getElem?_eq_none (Nat.le_refl rs.length), List.getElem?_eq_getElem q] at this
    cases this
  · refine Nat.le_of_not_lt fun q => ?_
    have := h ds.length
    rw [List.getElem?_eq_none (Nat.le_refl ds.length), List.getElem?_eq_getElem q] at this
    cases this
theorem ix_map {α : Type} (φ : α → D) (rs : List α) : ∀ i : Nat, (rs.map φ)[i]? = rs[i]?.map ((fun _ => φ) i) := fun i => List.getElem?_map ..
theorem ix_enum {α : Type} (φ : α → D) (rs : List α) : ∀ i : Nat, (enumD 0 (rs.map φ))[i]? = rs[i]?.map ((fun (i : Nat) r => D.tup [.int i, φ r]) i) := fun i => by
  cases h : rs[i]? with
  | some r => rw [enumD_get _ 0 i (φ r) (by rw [List.getElem?_map, h]; rfl), Nat.zero_add]; rfl
  | none =>
    rw [List.getElem?_eq_none_iff] at h
    rw [List.getElem?_eq_none (by rw [enumD_length, List.length_map]; exact h)]
    rfl

section
variable {S : S0} {f : Fm} {U M : List Addr} {lk : List (Str × LV)} {N : Dy → Prop} {R : D → Dy → Prop} {ss : List Stmt} {α : Type}
theorem Ev.lcM {rs : List α} {elt tgt iter : Expr} {ifs : List Expr} {scope : Scope} {cl : List (Str × Addr)} {pos : Pos} {ds : List D} (φ : Nat → α → D) (hds : ∀ i : Nat, ds[i]? = rs[i]?.map (φ i)) (Lz : List (Str × LV)) (p : Nat → α → Bool) (g : Nat → α → D) (B : Nat → D → List (Str × LV))
    (hz : rs.length ≤ 1000) (hc : CompOk f scope cl iter)
    (hfree : ∀ z l, Lz.lookup z = some l → (∃ d, l = .val d) ∧ lk.lookup z = some l ∧ FreeOk f scope cl z)
    (hs : Src S f ⟨U, M, lk⟩ iter tgt ds)
    (ha : ∀ C i r, rs[i]? = some r → AsgL S (f.comp scope cl C) tgt (φ i r) (B i (φ i r)))
    (turn : ∀ C U' M' i r, rs[i]? = some r → Tests S (f.comp scope cl C) ⟨U', M', B i (φ i r) ++ Lz⟩ ifs (p i r) ∧ (p i r = true → Ev S (f.comp scope cl C) ⟨U', M', B i (φ i r) ++ Lz⟩ elt (g i r))) :
    Ev S f ⟨U, M, lk⟩ (.ListComp elt [⟨tgt, iter, ifs, 0⟩] scope pos) (.lst (compM p g 0 rs)) := by
  have hl := ix_len hds
  rw [← compOut_compM (p' := fun i _ => (rs[i]?.map (p i)).getD false) (g' := fun i _ => (rs[i]?.map (g i)).getD .none) hl (fun i r d e1 _ => by rw [Nat.zero_add, e1]; exact ⟨rfl, rfl⟩)]
  refine Ev.lc (Lz := Lz) _ _ B hc (by omega) hfree hs (fun C i d hd => ?_) fun C U' M' i d hd => ?_
  · rw [hds] at hd
    obtain ⟨r, hr, rfl⟩ := Option.map_eq_some_iff.mp hd
    exact ha C i r hr
  · rw [hds] at hd
    obtain ⟨r, hr, rfl⟩ := Option.map_eq_some_iff.mp hd
    have := turn C U' M' i r hr
    rw [hr]
    exact this
theorem Ex.assignCompM {rs : List α} {x : Str} {px : Pos} {elt tgt iter : Expr} {ifs : List Expr} {scope : Scope} {cl : List (Str × Addr)} {pos spos : Pos} {ds : List D} (φ : Nat → α → D) (hds : ∀ i : Nat, ds[i]? = rs[i]?.map (φ i)) (Lz : List (Str × LV)) (p : Nat → α → Bool) (g : Nat → α → D) (B : Nat → D → List (Str × LV))
    (hz : rs.length ≤ 1000) (hc : CompOk f scope cl iter)
    (hfree : ∀ z l, Lz.lookup z = some l → (∃ d, l = .val d) ∧ lk.lookup z = some l ∧ FreeOk f scope cl z)
    (hs : Src S f ⟨U, M, lk⟩ iter tgt ds)
    (ha : ∀ C i r, rs[i]? = some r → AsgL S (f.comp scope cl C) tgt (φ i r) (B i (φ i r)))
    (turn : ∀ C U' M' i r, rs[i]? = some r → Tests S (f.comp scope cl C) ⟨U', M', B i (φ i r) ++ Lz⟩ ifs (p i r) ∧ (p i r = true → Ev S (f.comp scope cl C) ⟨U', M', B i (φ i r) ++ Lz⟩ elt (g i r)))
    (hk : CanStore f x) (hsw : swapsWith (.ListComp elt [⟨tgt, iter, ifs, 0⟩] scope pos) (some (.Name x px)) spos.line f.env = pure true)
    (r : Ex S f ⟨U, M, (x, .val (.lst (compM p g 0 rs))) :: lk⟩ ss N R) :
    Ex S f ⟨U, M, lk⟩ (.Assign [.Name x px] (.ListComp elt [⟨tgt, iter, ifs, 0⟩] scope pos) spos :: ss) N R := by
  have hl := ix_len hds
  rw [← compOut_compM (p' := fun i _ => (rs[i]?.map (p i)).getD false) (g' := fun i _ => (rs[i]?.map (g i)).getD .none) hl (fun i r d e1 _ => by rw [Nat.zero_add, e1]; exact ⟨rfl, rfl⟩)] at r
  refine Ex.assignComp (Lz := Lz) _ _ B hc (by omega) hfree hs (fun C i d hd => ?_) (fun C U' M' i d hd => ?_) hk hsw r
  · rw [hds] at hd
    obtain ⟨r, hr, rfl⟩ := Option.map_eq_some_iff.mp hd
    exact ha C i r hr
  · rw [hds] at hd
    obtain ⟨r, hr, rfl⟩ := Option.map_eq_some_iff.mp hd
    have := turn C U' M' i r hr
    rw [hr]
    exact this
theorem clNil {P : Str → Addr → Prop} : ∀ x c, ([] : List (Str × Addr)).lookup x = some c → P x c := fun _ _ e => by simp at e
theorem clCons {P : Str → Addr → Prop} {x : Str} {c : Addr} {l : List (Str × Addr)} (h : P x c) (r : ∀ z k, l.lookup z = some k → P z k) : ∀ z k, ((x, c) :: l).lookup z = some k → P z k := fun z k e => by
  by_cases q : z = x
  · subst q; rw [lookup_cons_eq] at e; cases e; exact h
  · rw [lookup_cons_ne q] at e; exact r z k e
theorem freeVar {scope : Scope} {cl : List (Str × Addr)} {z : Str} {d : D} (h0 : lk.lookup z = some (.val d)) (h1 : f.env.kindOf z = some .cell) (h2 : (relabel scope f.env).names.lookup z = some .cell) (h3 : (z == ("__classdict__" : Str)) = false) (h4 : cl.lookup z = f.env.cells.lookup z) :
    (∃ d', LV.val d = .val d') ∧ lk.lookup z = some (.val d) ∧ FreeOk f scope cl z := ⟨⟨_, rfl⟩, h0, by rw [h1]; decide, ⟨.inl h2, h3⟩, h4⟩
noncomputable def Post (U M : List Addr) (lk : List (Str × LV)) (y' : Dy) : Prop := y'.U = U ∧ y'.M = M ∧ Sub lk y'.look
theorem Ex.post {lk1 : List (Str × LV)} (h : Sub lk1 lk) : Ex S f ⟨U, M, lk⟩ [] (Post U M lk1) R := Ex.nil ⟨rfl, rfl, h⟩
theorem Ex.sub {lk1 : List (Str × LV)} (hs : Sub lk1 lk) (h : Ex S f ⟨U, M, lk1⟩ ss N R) : Ex S f ⟨U, M, lk⟩ ss N R := fun A s Q E hA ok qn qr => h A s Q E hA (ok.sub hs) qn qr
theorem Ex.ifS (lk1 : List (Str × LV)) {t : Expr} {b : Bool} {body orelse : List Stmt} {pos} (h : EvT S f ⟨U, M, lk⟩ t b) (h1 : b = true → Ex S f ⟨U, M, lk⟩ body (Post U M lk1) R) (h2 : b = false → Ex S f ⟨U, M, lk⟩ orelse (Post U M lk1) R)
    (r : Ex S f ⟨U, M, lk1⟩ ss N R) : Ex S f ⟨U, M, lk⟩ (.If t body orelse pos :: ss) N R := by
  refine Ex.cons (ExS.if h h1 h2) ?_
  rintro ⟨U1, M1, lk2⟩ ⟨rfl, rfl, hs⟩
  exact Ex.sub hs r
theorem Ex.forM {rs : List α} {tgt it : Expr} {body : List Stmt} {pos : Pos} {ds : List D} (φ : Nat → α → D) (hds : ∀ i : Nat, ds[i]? = rs[i]?.map (φ i)) (L : Nat → List (Str × LV)) (B : Nat → D → List (Str × LV)) (hs : Src S f ⟨U, M, lk⟩ it tgt ds) (h0 : Sub (L 0) lk)
    (ha : ∀ i r, rs[i]? = some r → Asg S f tgt (φ i r) (B i (φ i r)))
    (turn : ∀ U' i r, rs[i]? = some r → Ex S f ⟨U', M, B i (φ i r) ++ L i⟩ body (Post U' M (L (i + 1))) R)
    (hf : ∀ x, foldedSetIterable it f.env x = pure x) (r : Ex S f ⟨U, M, L rs.length⟩ ss N R) : Ex S f ⟨U, M, lk⟩ (.For tgt it body [] pos :: ss) N R := by
  refine Ex.for L B hs h0 (fun i d hd => ?_) (fun U' i d hd => ?_) hf (by rw [ix_len hds]; exact r)
  · rw [hds] at hd
    obtain ⟨r, hr, rfl⟩ := Option.map_eq_some_iff.mp hd
    exact ha i r hr
  · rw [hds] at hd
    obtain ⟨r, hr, rfl⟩ := Option.map_eq_some_iff.mp hd
    exact turn U' i r hr
end
end Mine

end

section
namespace Mine
open PySem PySem.W PySem.Calls PyProof.Rows

section
variable {S : S0}
theorem BinR.addL {l1 l2 : List D} (hz : l1.length + l2.length ≤ 1000) : BinR S .Add (.lst l1) (.lst l2) (.lst (l1 ++ l2)) := by
  intro U A s v1 v2 Q E _ _ live r1 r2 h
  replace r1 := r1.inv
  cases r1 with
  | @lst a o vs n ha ho hc hd r =>
    obtain ⟨hc, hcd⟩ := hc
    replace r2 := r2.inv
    cases r2 with
    | @lst b o2 vs2 n2 hb ho2 hc2 hd2 r' =>
      obtain ⟨hc2, hc2d⟩ := hc2
      obtain ⟨cls, dd, data, sl⟩ := o
      obtain ⟨cls2, dd2, data2, sl2⟩ := o2
      simp only at hc hd hc2 hd2
      subst hc hd hc2 hd2
      have e1 := r.length
      have e2 := r'.length
      rw [Array.length_toList] at e1 e2
      refine concat_meets ⟨_, ho, rfl⟩ ⟨_, ho2, rfl⟩ noFill_list_add seq_list_add PySem.F.slot_list_add PySem.F.entry_list_add (PySem.F.args_list_add_2 _ _) (list_addW a b vs vs2 n n2 dd dd2 sl sl2 (by rw [sizeLine_eq]; omega)) ⟨ho, ho2, ?_⟩
      refine h _ _ s.toks (Keep.push _ _) (.lst (fresh_notin live) (Heap.get?_push_size _ rfl) ⟨rfl, rfl⟩ rfl ?_)
      rw [Array.toList_append]
      exact (r.append r').keep (Keep.push _ _)
theorem BinR.addT {l1 l2 : List D} (hz : l1.length + l2.length ≤ 1000) (h1 : l1 ≠ []) (h2 : l2 ≠ []) : BinR S .Add (.tup l1) (.tup l2) (.tup (l1 ++ l2)) := by
  intro U A s v1 v2 Q E _ _ live r1 r2 h
  replace r1 := r1.inv
  cases r1 with
  | @tup a o vs n ha ho hc hd r =>
    replace r2 := r2.inv
    cases r2 with
    | @tup b o2 vs2 n2 hb ho2 hc2 hd2 r' =>
      obtain ⟨cls, dd, data, sl⟩ := o
      obtain ⟨cls2, dd2, data2, sl2⟩ := o2
      simp only at hc hd hc2 hd2
      subst hc hd hc2 hd2
      have e1 := r.length
      have e2 := r'.length
      rw [Array.length_toList] at e1 e2
      have n1 : vs.isEmpty ≠ true := fun e => h1 (List.eq_nil_of_length_eq_zero (by rw [← e1]; simpa using e))
      have n2' : vs2.isEmpty ≠ true := fun e => h2 (List.eq_nil_of_length_eq_zero (by rw [← e2]; simpa using e))
      refine concat_meets ⟨_, ho, rfl⟩ ⟨_, ho2, rfl⟩ noFill_tuple_add seq_tuple_add PySem.F.slot_tuple_add PySem.F.entry_tuple_add (PySem.F.args_tuple_add_2 _ _) (tuple_addW2 a b vs vs2 n n2 dd dd2 sl sl2 n1 n2' (by rw [sizeLine_eq]; omega)) ⟨ho, ho2, ?_⟩
      refine h _ _ s.toks (Keep.push _ _) (.tup (fresh_notin live) (Heap.get?_push_size _ rfl) rfl rfl ?_)
      rw [Array.toList_append]
      exact (r.append r').keep (Keep.push _ _)
theorem BinR.mul {i j : Int} (hm : IntMulOk i j) : BinR S .Mult (.int i) (.int j) (.int (i * j)) := by
  intro U A s v1 v2 Q E _ _ _ r1 r2 h; replace r1 := r1.inv; cases r1; replace r2 := r2.inv; cases r2; exact PyProof.Rows.mul_int (h _ _ _ (Keep.refl _) (.int _ _)) hm
theorem BinR.fdiv {i j : Int} (hj : j ≠ 0) (hp : Builtin.divisionGoesByPylong i j = false) : BinR S .FloorDiv (.int i) (.int j) (.int (i.fdiv j)) := by
  intro U A s v1 v2 Q E _ _ _ r1 r2 h; replace r1 := r1.inv; cases r1; replace r2 := r2.inv; cases r2; exact PyProof.Rows.floordiv_int hj (h _ _ _ (Keep.refl _) (.int _ _)) (.inl hp)
end
end Mine

end

section
namespace Mine
open PySem PySem.W PySem.Calls PyProof.Rows

/-- an expression that may change what the names are -/
noncomputable def EvM (S : S0) (f : Fm) (U M : List Addr) (lk : List (Str × LV)) (e : Expr) (P : D → List (Str × LV) → Prop) : Prop :=
  ∀ (A : Around) (s : Shared) (Q E : Value → Shared → Prop), AOk f.k A → Ok S f ⟨U, M, lk⟩ s.heap →
    (∀ v d lk' h' tk, P d lk' → KeepM M s.heap h' → Ok S f ⟨U, M, lk'⟩ h' → Rd S U h' v d → Q v { s with heap := h', toks := tk }) → wpAny (model S.prog S.w) A (eval e f.env) Q E s
noncomputable def EvLM (S : S0) (f : Fm) (U M : List Addr) (lk : List (Str × LV)) (es : List Expr) (P : List D → List (Str × LV) → Prop) : Prop :=
  ∀ (pos : Pos) (A : Around) (s : Shared) (Q : List Value → Shared → Prop) (E : Value → Shared → Prop), AOk f.k A → Ok S f ⟨U, M, lk⟩ s.heap →
    (∀ vs ds lk' h' tk, P ds lk' → KeepM M s.heap h' → Ok S f ⟨U, M, lk'⟩ h' → RdA S U h' vs ds → Q vs { s with heap := h', toks := tk }) → wpAny (model S.prog S.w) A (spliced (backTo pos (starEach es f.env))) Q E s

section
variable {S : S0} {f : Fm} {U M : List Addr} {lk : List (Str × LV)} {N : Dy → Prop} {R : D → Dy → Prop} {ss : List Stmt} {P : D → List (Str × LV) → Prop} {PL : List D → List (Str × LV) → Prop}
theorem KeepM.trans {M : List Addr} {h1 h2 h3 : Heap} (x : KeepM M h1 h2) (y : KeepM M h2 h3) : KeepM M h1 h3 := fun b o hb e => y b o hb (x b o hb e)
theorem EvM.of {e : Expr} {d : D} (h : Ev S f ⟨U, M, lk⟩ e d) (p : P d lk) : EvM S f U M lk e P := fun A s Q E hA ok hq => h A s Q E hA ok fun v h1 t1 k1 r1 => hq v d lk h1 t1 p k1.m (ok.keeps k1) r1
theorem EvLM.nil (p : PL [] lk) : EvLM S f U M lk [] PL := fun pos A s Q E hA ok hq => spliced_nil (hq [] [] lk s.heap s.toks p (fun _ _ _ e => e) ok .nil)
theorem EvLM.cons {e : Expr} {es : List Expr} (h : EvM S f U M lk e (fun d lk1 => EvLM S f U M lk1 es (fun ds lk2 => PL (d :: ds) lk2))) (he : starEach (e :: es) f.env = (false, eval e f.env) :: starEach es f.env) : EvLM S f U M lk (e :: es) PL := by
  intro pos A s Q E hA ok hq
  rw [he]
  show wpAny _ A (spliced ((false, eval e f.env) :: backTo pos (starEach es f.env))) Q E s
  unfold spliced
  refine wpAny_bind (h A s _ _ hA ok fun v d lk1 h1 t1 p1 k1 ok1 r1 => ?_)
  simp only [Bool.false_eq_true, if_false]
  refine wpAny_bind (wpAny_pure (wpAny_bind (wpAny_holding ?_)))
  refine p1 pos A _ _ _ hA ok1 fun vs ds lk2 h2 t2 p2 k2 ok2 r2 => wpAny_pure ?_
  exact hq _ _ lk2 h2 t2 p2 (k1.trans k2) ok2 (.cons (r1.keepM k2 ok1.mU) r2)
theorem EvM.tuple {es : List Expr} {k pos} (h : EvLM S f U M lk es (fun ds lk' => ds.length ≤ 1000 ∧ P (.tup ds) lk')) : EvM S f U M lk (.Tuple es k pos) P := by
  intro A s Q E hA ok hq
  refine Tuple_ (h pos A s _ _ hA ok fun vs ds lk1 h1 t1 p1 k1 ok1 r1 => ?_)
  refine wpAny_newObj_type ?_ (by show vs.toArray.size ≤ sizeLine; rw [List.size_toArray]; exact r1.short p1.1)
  exact hq _ _ lk1 _ t1 p1.2 (k1.trans (Keep.push _ _).m) (ok1.keeps (Keep.push _ _)) (.tup (fresh_notin ok1.live) (Heap.get?_push_size _ rfl) rfl rfl (by simpa using r1.keep (Keep.push _ _)))
theorem EvM.binop {l r : Expr} {op : Operator} {pos} (h : EvM S f U M lk l (fun d1 lk1 => EvM S f U M lk1 r (fun d2 lk2 => ∃ d, BinR S op d1 d2 d ∧ P d lk2))) : EvM S f U M lk (.BinOp l op r pos) P := by
  intro A s Q E hA ok hq
  refine wpAny_BinOp (h A s _ _ hA ok fun v1 d1 lk1 g1 t1 p1 k1 ok1 r1 => p1 A _ _ _ hA ok1 fun v2 d2 lk2 g2 t2 p2 k2 ok2 r2 => ?_)
  obtain ⟨d, hb, p⟩ := p2
  exact hb U A _ v1 v2 Q E hA.1 hA.units ok2.live (r1.keepM k2 ok1.mU) r2 fun v g3 t3 k3 r3 => hq v d lk2 g3 t3 p ((k1.trans k2).trans k3.m) (ok2.keeps k3) r3
theorem EvM.cmp {l r : Expr} {op : CmpOp} {pos} (h : EvM S f U M lk l (fun d1 lk1 => EvM S f U M lk1 r (fun d2 lk2 => ∃ b, CmpR S op d1 d2 b ∧ P (.bool b) lk2))) (hm : behindInMarks op r = false) : EvM S f U M lk (.Compare l [op] [r] pos) P := by
  intro A s Q E hA ok hq
  refine wpAny_Compare1 (h A s _ _ hA ok fun v1 d1 lk1 g1 t1 p1 k1 ok1 r1 => p1 A _ _ _ hA ok1 fun v2 d2 lk2 g2 t2 p2 k2 ok2 r2 => ?_) hm
  obtain ⟨b, hc, p⟩ := p2
  exact hc U A _ v1 v2 Q E hA.1 hA.units (r1.keepM k2 ok1.mU) r2 (hq _ _ lk2 g2 t2 p (k1.trans k2) ok2 (.bool b))
theorem EvM.item {e i : Expr} {pos} (h : EvM S f U M lk e (fun d1 lk1 => EvM S f U M lk1 i (fun d2 lk2 => ∃ d, ItemR S d1 d2 d ∧ P d lk2))) (hs : ∀ o k, subscripted i false o k = operate [o, k] (getItem o k)) : EvM S f U M lk (.Subscript e i pos) P := by
  intro A s Q E hA ok hq
  refine Subscript_ (h A s _ _ hA ok fun v1 d1 lk1 g1 t1 p1 k1 ok1 r1 => p1 A _ _ _ hA ok1 fun v2 d2 lk2 g2 t2 p2 k2 ok2 r2 => ?_)
  obtain ⟨d, hr, p⟩ := p2
  obtain ⟨⟨T, id, hT, hl⟩, hg⟩ := hr U A { s with heap := g2, toks := t2 } v1 v2 Q E (r1.keepM k2 ok1.mU) r2 fun v tk r => hq v d lk2 g2 tk p (k1.trans k2) ok2 r
  exact tail_any hT hl hg (hs _ _)
theorem Ex.assignM {x : Str} {e : Expr} {p pos : Pos} (h : EvM S f U M lk e (fun d lk1 => Ex S f ⟨U, M, (x, .val d) :: lk1⟩ ss N R)) (hk : CanStore f x) (hs : swapsWith e (some (.Name x p)) pos.line f.env = pure false) : Ex S f ⟨U, M, lk⟩ (.Assign [.Name x p] e pos :: ss) N R := by
  intro A s Q E hA ok hn hr
  refine wpAny_execs_cons (wpAny_Assign_Name (h A s _ _ hA ok fun v d lk1 h1 t1 p1 k1 ok1 r1 => ?_) hs)
  refine store_lv (lv := .val d) ok1 hk r1 (fun _ _ e => by cases e) fun h2 t2 k2 ok2 => ?_
  have s1 : Step M M s.heap h2 := ⟨k1.trans k2, fun _ h => .inl h⟩
  exact p1 A _ _ _ hA ok2 (fun y3 h3 t3 n3 s3 ok3 => hn y3 h3 t3 n3 (s1.trans s3) ok3) fun v3 d3 y3 h3 t3 q3 k3 r3 ok3 => hr v3 d3 y3 h3 t3 q3 (s1.ret k3) r3 ok3

theorem storeAll {A : Around} {E : Value → Shared → Prop} : ∀ (ns : List Str) (vs : List Value) (ds : List D) (lk : List (Str × LV)) (s : Shared) (Q : Unit → Shared → Prop), (∀ x ∈ ns, CanStore f x) → RdA S U s.heap vs ds → vs.length = ns.length → Ok S f ⟨U, M, lk⟩ s.heap →
    (∀ h' tk, KeepM M s.heap h' → Ok S f ⟨U, M, (ns.zip (ds.map LV.val)).reverse ++ lk⟩ h' → Q () { s with heap := h', toks := tk }) → wpAny (model S.prog S.w) A (assignInOrder (ns.map fun n => bindName f.env n) vs) Q E s
  | [], [], _, lk, s, Q, _, r, _, ok, hq => by
    cases r
    exact wpAny_pure (hq s.heap s.toks (fun _ _ _ e => e) ok)
  | [], _ :: _, _, _, _, _, _, _, hl, _, _ => by simp at hl
  | _ :: _, [], _, _, _, _, _, _, hl, _, _ => by simp at hl
  | n :: ns, v :: vs, _, lk, s, Q, hk, r, hl, ok, hq => by
    cases r with
    | @cons _ _ d ds r1 r2 =>
      show wpAny _ A (do holding vs (bindName f.env n v); assignInOrder (ns.map fun n => bindName f.env n) vs) Q E s
      refine wpAny_bind (wpAny_holding (wpAny_bindName (store_lv (lv := .val d) ok (hk n List.mem_cons_self) r1 (fun _ _ e => by cases e) fun h1 t1 k1 ok1 => ?_)))
      refine storeAll ns vs ds ((n, .val d) :: lk) _ Q (fun x hx => hk x (List.mem_cons_of_mem _ hx)) (r2.keepM k1 ok.mU) (by simpa using hl) ok1 fun h2 t2 k2 ok2 => ?_
      refine hq h2 t2 (k1.trans k2) ?_
      simpa using ok2
/-- x, y = (e1, e2): the stores swapped -/
theorem Ex.unpackS {elts es : List Expr} {k k2 : Nat} {tpos tpos2 pos : Pos} {names : List Str} (hn : ∀ x ∈ names, CanStore f x) (hz : names.length ≤ 1000)
    (h : EvLM S f U M lk es (fun ds lk1 => ds.length = names.length ∧ Ex S f ⟨U, M, (names.reverse.zip (ds.reverse.map LV.val)).reverse ++ lk1⟩ ss N R))
    (hs : swapsWithSole [.Tuple elts k tpos] (.Tuple es k2 tpos2) pos.line f.env = pure false) (hw : swappedStores [.Tuple elts k tpos] (.Tuple es k2 tpos2) f.env = pure (some names)) :
    Ex S f ⟨U, M, lk⟩ (.Assign [.Tuple elts k tpos] (.Tuple es k2 tpos2) pos :: ss) N R := by
  intro A s Q E hA ok hn' hr
  refine wpAny_execs_cons (Assign_Tuple_swapped ?_ hs hw)
  refine EvM.tuple (P := fun d lk1 => ∃ ds, d = .tup ds ∧ ds.length = names.length ∧ Ex S f ⟨U, M, (names.reverse.zip (ds.reverse.map LV.val)).reverse ++ lk1⟩ ss N R) (fun pos A s Q E hA ok hq => h pos A s Q E hA ok fun vs ds lk1 h1 t1 p => hq vs ds lk1 h1 t1 ⟨by rw [p.1]; exact hz, ds, rfl, p⟩) A s _ _ hA ok fun v d lk1 h1 t1 p1 k1 ok1 r1 => ?_
  obtain ⟨ds, rfl, hl, hx⟩ := p1
  replace r1 := r1.inv
  cases r1 with
  | @tup a o vs n ha ho hc hd r =>
    have hlen := r.length
    rw [Array.length_toList] at hlen
    rw [← hl, ← hlen]
    refine unpackItems_tuple hA.1 ⟨o, ho, hc, n, hd⟩ fun h2 hx2 => ?_
    have k2 : Keep h1 h2 := fun b o e => hx2 b o (Nat.ne_of_lt (Heap.lt_size e)) e
    have rr : RdA S U h2 vs.toList.reverse ds.reverse := by
      have key : ∀ {l : List Value} {m : List D}, RdA S U h2 l m → RdA S U h2 l.reverse m.reverse := by
        intro l
        induction l with
        | nil => intro m r; cases r; exact .nil
        | cons x l ih =>
          intro m r
          cases r with
          | cons a b => rw [List.reverse_cons, List.reverse_cons]; exact (ih b).append (.cons a .nil)
      exact key (r.keep k2)
    refine storeAll names.reverse vs.toList.reverse ds.reverse lk1 { s with heap := h2, toks := t1 } _ (fun x hx => hn x (List.mem_reverse.mp hx)) rr (by simp; omega) (ok1.keeps k2) fun h3 t3 k3 ok3 => ?_
    have s1 : Step M M s.heap h3 := ⟨(k1.trans k2.m).trans k3, fun _ h => .inl h⟩
    exact hx A _ _ _ hA ok3 (fun y3 h3 t3 n3 s3 ok3 => hn' y3 h3 t3 n3 (s1.trans s3) ok3) fun v3 d3 y3 h3 t3 q3 k3 r3 ok3 => hr v3 d3 y3 h3 t3 q3 (s1.ret k3) r3 ok3
/-- x, y = (e1, e2): one after the other -/
theorem Ex.unpackA {elts es : List Expr} {k k2 : Nat} {tpos tpos2 pos : Pos}
    (h : EvLM S f U M lk es (fun ds lk1 => ds.length ≤ 1000 ∧ ∃ B, Asg S f (.Tuple elts k tpos) (.tup ds) B ∧ Ex S f ⟨U, M, B ++ lk1⟩ ss N R))
    (hs : swapsWithSole [.Tuple elts k tpos] (.Tuple es k2 tpos2) pos.line f.env = pure false) (hw : swappedStores [.Tuple elts k tpos] (.Tuple es k2 tpos2) f.env = pure none) :
    Ex S f ⟨U, M, lk⟩ (.Assign [.Tuple elts k tpos] (.Tuple es k2 tpos2) pos :: ss) N R := by
  intro A s Q E hA ok hn' hr
  refine wpAny_execs_cons (Assign_Tuple ?_ hs hw)
  refine EvM.tuple (P := fun d lk1 => ∃ B, Asg S f (.Tuple elts k tpos) d B ∧ Ex S f ⟨U, M, B ++ lk1⟩ ss N R) h A s _ _ hA ok fun v d lk1 h1 t1 p1 k1 ok1 r1 => ?_
  obtain ⟨B, hB, hx⟩ := p1
  refine hB _ A _ v _ _ hA.1 ok1 r1 fun h3 t3 k3 ok3 => ?_
  have s1 : Step M M s.heap h3 := ⟨k1.trans k3, fun _ h => .inl h⟩
  exact hx A _ _ _ hA ok3 (fun y3 h3 t3 n3 s3 ok3 => hn' y3 h3 t3 n3 (s1.trans s3) ok3) fun v3 d3 y3 h3 t3 q3 k3 r3 ok3 => hr v3 d3 y3 h3 t3 q3 (s1.ret k3) r3 ok3
end
end Mine

end

section
namespace Mine
open PySem PySem.W PySem.Calls PyProof.Rows

section
variable {prog : Program} {w : World} {A : Around} {E : Value → Shared → Prop} {s : Shared} {vs : List Value}
/-- list.sort() on a list of between 2 and 63 items, the heap below kept -/
theorem sort_at {a : Addr} {n : Nat} {g : Heap} {P : PySem.Fin → Shared → Prop} (ho : s.heap.get? a = some (seqObj "list" vs.toArray n)) (hg : ∀ b o, g.get? b = some o → b ≠ a ∧ s.heap.get? b = some o) (h2 : 2 ≤ vs.length) (h64 : vs.length < 64)
    (h : ∀ h', Keep g h' → wpAny (model prog w) A (keyKind' vs.toArray) (fun κ s' => (kas_sort vs.length).kasWp (kas_ask prog w A κ vs)
      (fun p s'' => ∃ tk, s'' = { s with heap := h', toks := tk } ∧ ∀ h3 c, Keep g h3 → h3.get? a = some (seqObj "list" (p.toList.map fun i => vs.getD i Value.none).toArray c) → P (.done (.ret .none)) { s with heap := h3, toks := tk }) s') (fun _ _ => False) { s with heap := h' }) :
    wpAny (model prog w) A (Builtin.«list.sort» ⟨[.ref a], []⟩) P E s := by
  have s1 := Heap.SameBut.update s.heap a (Obj.mapSeq fun _ => (#[] : Array Value))
  obtain ⟨e1, ho1⟩ : ∃ e1, (s.heap.update a (Obj.mapSeq fun _ => (#[] : Array Value))).get? a = some (seqObj "list" #[] e1) := ⟨_, get?_update_seq ho fun _ => #[]⟩
  generalize hH : ((s.heap.update a (Obj.mapSeq fun _ => (#[] : Array Value))).push (seqObj "tuple" vs.toArray 0)).push (seqObj "list" #[] 0) = H
  have kH : Keep g H := fun b o e => by
    obtain ⟨q1, q2⟩ := hg b o e
    rw [← hH]
    exact Heap.get?_push_of_some _ (Heap.get?_push_of_some _ ((s1.2 b q1).trans q2))
  have aH : H.get? a = some (seqObj "list" #[] e1) := by rw [← hH]; exact Heap.get?_push_of_some _ (Heap.get?_push_of_some _ ho1)
  have ask := h H kH
  rw [list_sort_plain]
  refine wpAny_bind (listItems_at ho rfl ?_)
  refine wpAny_bind (listUpdate_at ho rfl ?_ (by rw [List.size_toArray, sizeLine_eq]; omega) (Nat.zero_le _))
  refine wpAny_bind (seqEpoch_at ho1 rfl ?_)
  refine wpAny_bind (wpAny_newTuple ?_ (by show vs.length ≤ _; rw [sizeLine_eq]; omega))
  refine wpAny_bind (wpAny_newList ?_ (Nat.zero_le _))
  refine wpAny_holding ?_
  show wpAny (model prog w) A _ P E { s with heap := ((s.heap.update a (Obj.mapSeq fun _ => (#[] : Array Value))).push (seqObj "tuple" vs.toArray 0)).push (seqObj "list" #[] 0) }
  rw [hH]
  dsimp only
  have hn2 : ¬ vs.toArray.size < 2 := by rw [List.size_toArray]; omega
  rw [if_neg hn2, if_neg hn2]
  refine wpAny_bind (wpAny_mono ask (fun κ s0 hk => ?_) fun _ _ x => x.elim)
  refine wpAny_bind (wpAny_mono (kat_run (Q := fun st' s' => ∃ p : Array Nat, p.size = vs.length ∧ arrOf st' = p.map (kas_item (vs.toArray.zip vs.toArray)) ∧ failedOf st' = none ∧
      ∃ tk, s' = { s with heap := H, toks := tk } ∧ ∀ h3 c, Keep g h3 → h3.get? a = some (seqObj "list" (p.toList.map fun i => vs.getD i Value.none).toArray c) → P (.done (.ret .none)) { s with heap := h3, toks := tk })
    rfl h2 h64 (fun p' st' s' a1 a2 a3 a4 => ⟨p', a1, a2, a3, a4⟩) hk) ?_ fun _ _ e => e)
  rintro ⟨⟨⟩, st'⟩ s' ⟨p, hp, har, hf, tk, rfl, k⟩
  dsimp only
  have hout := kat_snds rfl har
  have hsz : (List.toArray (p.toList.map fun i => vs.getD i Value.none)).size = vs.length := by rw [List.size_toArray, List.length_map, Array.length_toList, hp]
  rw [hout]
  have s2 := Heap.SameBut.update H a (Obj.mapSeq fun _ => List.toArray (p.toList.map fun i => vs.getD i Value.none))
  obtain ⟨c2, hc2⟩ : ∃ c2, (H.update a (Obj.mapSeq fun _ => List.toArray (p.toList.map fun i => vs.getD i Value.none))).get? a = some (seqObj "list" (List.toArray (p.toList.map fun i => vs.getD i Value.none)) c2) := ⟨_, get?_update_seq aH fun _ => List.toArray (p.toList.map fun i => vs.getD i Value.none)⟩
  refine wpAny_bind (seqEpoch_at aH rfl ?_)
  refine wpAny_bind (listUpdate_at aH rfl ?_ (Nat.zero_le _) (Nat.le_trans (Nat.le_of_eq hsz) (by rw [sizeLine_eq]; omega)))
  rw [hf]
  simp only [bne_self_eq_false, Bool.false_eq_true, if_false]
  exact wpAny_pure (k _ c2 (fun b o e => (s2.2 b (hg b o e).1).trans (kH b o e)) hc2)

theorem sorted_at {l : Addr} {Q : Value → Shared → Prop} (hl : s.heap.IsList l vs.toArray) (h2 : 2 ≤ vs.length) (h64 : vs.length < 64)
    (h : ∀ h', Keep s.heap h' → wpAny (model prog w) A.in1.in1 (keyKind' vs.toArray) (fun κ s' => (kas_sort vs.length).kasWp (kas_ask prog w A.in1.in1 κ vs)
      (fun p s'' => ∃ tk, s'' = { s with heap := h', toks := tk } ∧ ∀ D h3 c, Keep s.heap h3 → s.heap.get? D = none → h3.get? D = some (seqObj "list" (p.toList.map fun i => vs.getD i Value.none).toArray c) → Q (.ref D) { s with heap := h3, toks := tk }) s') (fun _ _ => False) { s with heap := h' }) :
    wpAny (model prog w) A (call (.builtin "sorted") [.ref l]) Q E s := by
  refine Calls.call_function_entry kind_sorted plain_sorted entry_sorted (args_sorted1 _) ?_
  unfold Builtin.«sorted»
  refine wpAny_bind (m := checkCount "sorted" 1 1 _) (wpAny_pure ?_)
  refine wpAny_bind (collect_list hl ?_ (by rw [sizeLine_eq]; omega))
  refine wpAny_bind (wpAny_newList ?_ (by rw [sizeLine_eq]; omega))
  have hsz : ((s.heap.push (seqObj "list" #[] 0)).update s.heap.objs.size (Obj.mapSeq (· ++ vs.toArray))).objs.size = s.heap.objs.size + 1 := by
    rw [Heap.size_update, size_push']
  have hoL : (((s.heap.push (seqObj "list" #[] 0)).update s.heap.objs.size (Obj.mapSeq (· ++ vs.toArray))).push (seqObj "list" vs.toArray 0)).get? (s.heap.objs.size + 1) = some (seqObj "list" vs.toArray 0) := by
    rw [← hsz]; exact Heap.get?_push_size _ rfl
  have keep : ∀ b o, s.heap.get? b = some o → (((s.heap.push (seqObj "list" #[] 0)).update s.heap.objs.size (Obj.mapSeq (· ++ vs.toArray))).push (seqObj "list" vs.toArray 0)).get? b = some o := fun b o q => by
    have hlt : b < s.heap.objs.size := Heap.lt_size q
    rw [Heap.get?_push_ne _ _ _ (by rw [hsz]; exact Nat.ne_of_lt (Nat.lt_succ_of_lt hlt)), Heap.get?_update_ne _ _ _ _ (Nat.ne_of_lt hlt), Heap.get?_push_ne _ _ _ (Nat.ne_of_lt hlt)]
    exact q
  show wpAny _ _ _ _ _ { s with heap := ((s.heap.push (seqObj "list" #[] 0)).update s.heap.objs.size (Obj.mapSeq (· ++ vs.toArray))).push (seqObj "list" vs.toArray 0) }
  rw [hsz]
  refine wpAny_bind (wpAny_holding (wpAny_call_entry slot_list_sort ⟨_, hoL, rfl⟩ entry_list_sort ?body (args_list_sort _)))
  case body =>
    refine sort_at (g := s.heap) (s := { s with heap := ((s.heap.push (seqObj "list" #[] 0)).update s.heap.objs.size (Obj.mapSeq (· ++ vs.toArray))).push (seqObj "list" vs.toArray 0) })
      hoL (fun b o e => ⟨Nat.ne_of_lt (Nat.lt_succ_of_lt (Heap.lt_size e)), keep b o e⟩) h2 h64 fun h' k' => ?_
    refine wpAny_mono (h h' k') (fun κ s' hk => ?_) fun _ _ x => x
    rw [kat_ask_eq rfl] at hk ⊢
    refine kas_wp_mono hk fun p s'' hk' => ?_
    obtain ⟨tk, rfl, hq⟩ := hk'
    refine ⟨tk, rfl, fun h3 c k3 e3 => ⟨_, rfl, wpAny_pure ⟨_, rfl, hq _ h3 c k3 ?_ e3⟩⟩⟩
    exact Heap.get?_none_of_le (Nat.le_succ _)
end
end Mine

end

section
namespace Mine
open PySem PySem.W PySem.Calls PyProof.Rows

noncomputable def lexLt : List Int → List Int → Bool
  | [], [] => false
  | [], _ :: _ => true
  | _ :: _, [] => false
  | a :: l, b :: m => if a = b then lexLt l m else decide (a < b)
theorem lex_asym : ∀ {a b : List Int}, lexLt a b = true → lexLt b a = false
  | [], [], h => by simp [lexLt] at h
  | [], _ :: _, _ => rfl
  | _ :: _, [], h => by simp [lexLt] at h
  | a :: l, b :: m, h => by
    unfold lexLt at h ⊢
    by_cases e : a = b
    · rw [if_pos e] at h; rw [if_pos e.symm]; exact lex_asym h
    · rw [if_neg e] at h; rw [if_neg (fun q => e q.symm)]
      simp at h ⊢; omega
theorem lex_trans : ∀ {a b c : List Int}, lexLt b a = false → lexLt c b = false → lexLt c a = false
  | [], [], _, _, h => h
  | [], _ :: _, [], h, h' => by simp [lexLt]
  | [], _ :: _, _ :: _, h, h' => by simp [lexLt]
  | _ :: _, [], _, h, h' => by simp [lexLt] at h
  | _ :: _, _ :: _, [], h, h' => by simp [lexLt] at h'
  | a :: l, b :: m, c :: n, h, h' => by
    unfold lexLt at h h' ⊢
    by_cases e : b = a
    · rw [if_pos e] at h
      by_cases e' : c = b
      · rw [if_pos e'] at h'; rw [if_pos (e'.trans e)]; exact lex_trans h h'
      · rw [if_neg e'] at h'; rw [if_neg (fun q => e' (q.trans e.symm))]
        simp at h' ⊢; omega
    · rw [if_neg e] at h
      by_cases e' : c = b
      · rw [if_neg (fun q => e (e'.symm.trans q))]
        simp at h ⊢; omega
      · rw [if_neg e'] at h'
        simp at h h'
        rw [if_neg (by omega)]
        simp; omega
theorem lex_anti : ∀ {a b : List Int}, lexLt a b = false → lexLt b a = false → a = b
  | [], [], _, _ => rfl
  | [], _ :: _, h, _ => by simp [lexLt] at h
  | _ :: _, [], _, h => by simp [lexLt] at h
  | a :: l, b :: m, h, h' => by
    unfold lexLt at h h'
    by_cases e : a = b
    · rw [if_pos e] at h; rw [if_pos e.symm] at h'; rw [e, lex_anti h h']
    · rw [if_neg e] at h; rw [if_neg (fun q => e q.symm)] at h'
      simp at h h'; omega
theorem lex_refl (a : List Int) : lexLt a a = false := by
  induction a with
  | nil => rfl
  | cons x l ih => unfold lexLt; rw [if_pos rfl]; exact ih
noncomputable def lexMin : List (List Int) → List Int
  | [] => []
  | [a] => a
  | a :: b :: l => if lexLt (lexMin (b :: l)) a then lexMin (b :: l) else a
theorem lexMin_mem : ∀ {l : List (List Int)}, l ≠ [] → lexMin l ∈ l
  | [], h => absurd rfl h
  | [a], _ => by simp [lexMin]
  | a :: b :: l, _ => by
    have := lexMin_mem (l := b :: l) (by simp)
    unfold lexMin
    split
    · exact List.mem_cons_of_mem _ this
    · exact List.mem_cons_self
theorem lexMin_le : ∀ {l : List (List Int)} {x : List Int}, x ∈ l → lexLt x (lexMin l) = false
  | [], _, h => by cases h
  | [a], x, h => by simp at h; subst h; simp [lexMin, lex_refl]
  | a :: b :: l, x, h => by
    have ih := fun {x} (h : x ∈ b :: l) => lexMin_le h
    unfold lexMin
    rcases List.mem_cons.mp h with rfl | h
    · split
      · rename_i q; exact lex_asym q
      · exact lex_refl _
    · split
      · exact ih h
      · rename_i q
        exact lex_trans (by simpa using q) (ih h)
theorem lexMin_uniq {l : List (List Int)} {m : List Int} (h : m ∈ l) (hle : ∀ x ∈ l, lexLt x m = false) : lexMin l = m :=
  lex_anti (lexMin_le h |> fun q => hle _ (lexMin_mem (by intro e; rw [e] at h; cases h))) (lexMin_le h)

noncomputable def grow (F : List (Nat × Nat)) (l : List Nat) : List Nat := l ++ (F.filter fun e => l.contains e.1).map (·.2)
noncomputable def reachF (F : List (Nat × Nat)) : Nat → List Nat → List Nat
  | 0, l => l
  | n + 1, l => reachF F n (grow F l)
noncomputable def chk (n : Nat) : List (Nat × Nat) → KasT (Array Nat) → Bool
  | F, .ret p => Nat.beq p.size n && (match p[0]? with
    | some m => decide (m < n) && (List.range n).all fun j => (reachF F n [m]).contains j
    | none => false)
  | F, .ask i j k => decide (i < n) && (decide (j < n) && (chk n ((i, j) :: F) (k true) && chk n ((j, i) :: F) (k false)))
section
variable {le : Nat → Nat → Prop} (hr : ∀ a, le a a) (ht : ∀ a b c, le a b → le b c → le a c)
include ht
theorem grow_le {F : List (Nat × Nat)} (hF : ∀ e ∈ F, le e.1 e.2) {m : Nat} {l : List Nat} (h : ∀ x ∈ l, le m x) : ∀ x ∈ grow F l, le m x := by
  intro x hx
  unfold grow at hx
  rcases List.mem_append.mp hx with q | q
  · exact h x q
  · obtain ⟨e, he, rfl⟩ := List.mem_map.mp q
    obtain ⟨h1, h2⟩ := List.mem_filter.mp he
    exact ht _ _ _ (h _ (by simpa using h2)) (hF e h1)
theorem reachF_le {F : List (Nat × Nat)} (hF : ∀ e ∈ F, le e.1 e.2) {m : Nat} : ∀ (n : Nat) {l : List Nat}, (∀ x ∈ l, le m x) → ∀ x ∈ reachF F n l, le m x
  | 0, _, h => h
  | n + 1, _, h => reachF_le hF n (grow_le ht hF h)
end
theorem kas_go {le : Nat → Nat → Prop} (hr : ∀ a, le a a) (ht : ∀ a b c, le a b → le b c → le a c) {n : Nat} {lt : Nat → Nat → Bool} (h1 : ∀ i j, lt i j = true → le i j) (h2 : ∀ i j, lt i j = false → le j i)
    {ask : Nat → Nat → (Bool → Shared → Prop) → Shared → Prop} {s : Shared} (ha : ∀ i j C, i < n → j < n → C (lt i j) s → ask i j C s) {G : Array Nat → Shared → Prop}
    (hG : ∀ p m, p.size = n → p[0]? = some m → m < n → (∀ j, j < n → le m j) → G p s) : ∀ (t : KasT (Array Nat)) (F : List (Nat × Nat)), chk n F t = true → (∀ e ∈ F, le e.1 e.2) → t.kasWp ask G s
  | .ret p, F, hc, hF => by
    unfold chk at hc
    simp only [Bool.and_eq_true] at hc
    obtain ⟨c1, c2⟩ := hc
    split at c2
    · rename_i m hm
      simp only [Bool.and_eq_true, decide_eq_true_eq, List.all_eq_true] at c2
      refine hG p m (Nat.eq_of_beq_eq_true c1) hm c2.1 fun j hj => ?_
      have := c2.2 j (List.mem_range.mpr hj)
      exact reachF_le ht hF n (m := m) (l := [m]) (fun x hx => by rw [List.mem_singleton.mp hx]; exact hr m) j (by simpa using this)
    · cases c2
  | .ask i j k, F, hc, hF => by
    unfold chk at hc
    simp only [Bool.and_eq_true, decide_eq_true_eq] at hc
    obtain ⟨c1, c2, c3, c4⟩ := hc
    show ask i j (fun b s' => (k b).kasWp ask G s') s
    refine ha i j _ c1 c2 ?_
    cases hlt : lt i j with
    | true =>
      exact kas_go hr ht h1 h2 ha hG (k true) _ c3 fun e he => by
        rcases List.mem_cons.mp he with rfl | he
        · exact h1 _ _ hlt
        · exact hF e he
    | false =>
      exact kas_go hr ht h1 h2 ha hG (k false) _ c4 fun e he => by
        rcases List.mem_cons.mp he with rfl | he
        · exact h2 _ _ hlt
        · exact hF e he
theorem chk2 : chk 2 [] (kas_sort 2) = true := by decide +kernel
theorem chk3 : chk 3 [] (kas_sort 3) = true := by decide +kernel
theorem chk4 : chk 4 [] (kas_sort 4) = true := by decide +kernel
theorem chk5 : chk 5 [] (kas_sort 5) = true := by decide +kernel
end Mine

end

section
namespace Mine
open PySem PySem.W PySem.Calls PyProof.Rows

noncomputable def tupI (ns : List Int) : D := .tup (ns.map D.int)
section
variable {prog : Program} {w : World} {A : Around} {E : Value → Shared → Prop} {s : Shared}
theorem kat_ints {S : S0} {U : List Addr} {Q : Bool → Shared → Prop} : ∀ {xs ys : List Value} {ns ms : List Int} {i : Nat}, RdA S U s.heap xs (ns.map D.int) → RdA S U s.heap ys (ms.map D.int) → Q (lexLt ns ms) s → KatLex prog w A true (decide (xs.length < ys.length)) Q (xs.zip ys) i s
  | [], [], ns, ms, i, r1, r2, h => by
    cases ns with
    | cons => cases r1.inv
    | nil => cases ms with
      | cons => cases r2.inv
      | nil => exact kat_nil h
  | [], _ :: _, ns, ms, i, r1, r2, h => by
    cases ns with
    | cons => cases r1.inv
    | nil => cases ms with
      | nil => cases r2.inv
      | cons => exact kat_nil (by simpa [lexLt] using h)
  | _ :: _, [], ns, ms, i, r1, r2, h => by
    cases ms with
    | cons => cases r2.inv
    | nil => cases ns with
      | nil => cases r1.inv
      | cons => exact kat_nil (by simpa [lexLt] using h)
  | x :: xs, y :: ys, [], ms, i, r1, r2, h => by cases r1.inv
  | x :: xs, y :: ys, n :: ns, [], i, r1, r2, h => by cases r2.inv
  | x :: xs, y :: ys, n :: ns, m :: ms, i, r1, r2, h => by
    rw [List.map_cons] at r1 r2
    cases r1 with
    | cons a1 a2 =>
      cases r2 with
      | cons b1 b2 =>
        cases a1
        cases b1
        rw [List.zip_cons_cons]
        refine kat_cons (wpAny_eqBool_int ?_)
        unfold lexLt at h
        refine kat_go (fun e => ?_) (fun e => ?_)
        · have e' : n = m := by simpa using e
          rw [if_pos e'] at h
          refine kat_yes ?_
          have := kat_ints (i := i + 1) a2 b2 h
          simpa using this
        · have e' : ¬ n = m := by simpa using e
          rw [if_neg e'] at h
          refine kat_no ?_
          cases i with
          | zero => exact oneLt_int h
          | succ i =>
            show wpAny _ _ (oneLt' (true && (i + 1 == 0)) _ _) _ _ _
            rw [show (true && (i + 1 == 0)) = false by simp]
            exact kat_one _ _ (PyProof.Rows.lt_int h)

theorem sort_one_at {a : Addr} {n : Nat} {g : Heap} {v : Value} {P : PySem.Fin → Shared → Prop} (ho : s.heap.get? a = some (seqObj "list" #[v] n)) (hg : ∀ b o, g.get? b = some o → b ≠ a ∧ s.heap.get? b = some o)
    (h : ∀ h3 c, Keep g h3 → h3.get? a = some (seqObj "list" #[v] c) → P (.done (.ret .none)) { s with heap := h3 }) :
    wpAny (model prog w) A (Builtin.«list.sort» ⟨[.ref a], []⟩) P E s := by
  have s1 := Heap.SameBut.update s.heap a (Obj.mapSeq fun _ => (#[] : Array Value))
  obtain ⟨e1, ho1⟩ : ∃ e1, (s.heap.update a (Obj.mapSeq fun _ => (#[] : Array Value))).get? a = some (seqObj "list" #[] e1) := ⟨_, get?_update_seq ho fun _ => #[]⟩
  generalize hH : ((s.heap.update a (Obj.mapSeq fun _ => (#[] : Array Value))).push (seqObj "tuple" #[v] 0)).push (seqObj "list" #[] 0) = H
  have kH : Keep g H := fun b o e => by
    obtain ⟨q1, q2⟩ := hg b o e
    rw [← hH]
    exact Heap.get?_push_of_some _ (Heap.get?_push_of_some _ ((s1.2 b q1).trans q2))
  have aH : H.get? a = some (seqObj "list" #[] e1) := by rw [← hH]; exact Heap.get?_push_of_some _ (Heap.get?_push_of_some _ ho1)
  rw [list_sort_plain]
  refine wpAny_bind (listItems_at ho rfl ?_)
  refine wpAny_bind (listUpdate_at ho rfl ?_ (by rw [sizeLine_eq]; simp) (Nat.zero_le _))
  refine wpAny_bind (seqEpoch_at ho1 rfl ?_)
  refine wpAny_bind (wpAny_newTuple ?_ (by rw [sizeLine_eq]; simp))
  refine wpAny_bind (wpAny_newList ?_ (Nat.zero_le _))
  refine wpAny_holding ?_
  show wpAny (model prog w) A _ P E { s with heap := ((s.heap.update a (Obj.mapSeq fun _ => (#[] : Array Value))).push (seqObj "tuple" #[v] 0)).push (seqObj "list" #[] 0) }
  rw [hH]
  dsimp only
  have hn2 : (#[v] : Array Value).size < 2 := by simp
  rw [if_pos hn2, if_pos hn2]
  refine wpAny_bind (wpAny_pure ?_)
  refine wpAny_bind (wpAny_pure ?_)
  show wpAny (model prog w) A _ P E { s with heap := H }
  have s2 := Heap.SameBut.update H a (Obj.mapSeq fun _ => (#[v] : Array Value))
  obtain ⟨c2, hc2⟩ : ∃ c2, (H.update a (Obj.mapSeq fun _ => (#[v] : Array Value))).get? a = some (seqObj "list" #[v] c2) := ⟨_, get?_update_seq aH fun _ => #[v]⟩
  refine wpAny_bind (seqEpoch_at aH rfl ?_)
  refine wpAny_bind (listUpdate_at aH rfl ?_ (Nat.zero_le _) (by rw [sizeLine_eq]; simp [arrOf]))
  rw [show failedOf ((), SortSt.mk' general' (#[v].zip #[v]) #[] 7 none).snd = none from rfl]
  rw [show (arrOf (SortSt.mk' general' (#[v].zip #[v]) #[] 7 none)).map (·.2) = #[v] by show (#[v].zip #[v]).map (·.2) = #[v]; simp]
  simp only [bne_self_eq_false, Bool.false_eq_true, if_false]
  exact wpAny_pure (h _ c2 (fun b o e => (s2.2 b (hg b o e).1).trans (kH b o e)) hc2)

theorem sorted_one_at {l : Addr} {v : Value} {Q : Value → Shared → Prop} (hl : s.heap.IsList l #[v])
    (h : ∀ D h3 c, Keep s.heap h3 → s.heap.get? D = none → h3.get? D = some (seqObj "list" #[v] c) → Q (.ref D) { s with heap := h3 }) :
    wpAny (model prog w) A (call (.builtin "sorted") [.ref l]) Q E s := by
  refine Calls.call_function_entry kind_sorted plain_sorted entry_sorted (args_sorted1 _) ?_
  unfold Builtin.«sorted»
  refine wpAny_bind (m := checkCount "sorted" 1 1 _) (wpAny_pure ?_)
  refine wpAny_bind (collect_list (vs := [v]) hl ?_ (by rw [sizeLine_eq]; simp))
  refine wpAny_bind (wpAny_newList ?_ (by rw [sizeLine_eq]; simp))
  have hsz : ((s.heap.push (seqObj "list" #[] 0)).update s.heap.objs.size (Obj.mapSeq (· ++ [v].toArray))).objs.size = s.heap.objs.size + 1 := by
    rw [Heap.size_update, size_push']
  have hoL : (((s.heap.push (seqObj "list" #[] 0)).update s.heap.objs.size (Obj.mapSeq (· ++ [v].toArray))).push (seqObj "list" #[v] 0)).get? (s.heap.objs.size + 1) = some (seqObj "list" #[v] 0) := by
    rw [← hsz]; exact Heap.get?_push_size _ rfl
  have keep : ∀ b o, s.heap.get? b = some o → (((s.heap.push (seqObj "list" #[] 0)).update s.heap.objs.size (Obj.mapSeq (· ++ [v].toArray))).push (seqObj "list" #[v] 0)).get? b = some o := fun b o q => by
    have hlt : b < s.heap.objs.size := Heap.lt_size q
    rw [Heap.get?_push_ne _ _ _ (by rw [hsz]; exact Nat.ne_of_lt (Nat.lt_succ_of_lt hlt)), Heap.get?_update_ne _ _ _ _ (Nat.ne_of_lt hlt), Heap.get?_push_ne _ _ _ (Nat.ne_of_lt hlt)]
    exact q
  show wpAny _ _ _ _ _ { s with heap := ((s.heap.push (seqObj "list" #[] 0)).update s.heap.objs.size (Obj.mapSeq (· ++ [v].toArray))).push (seqObj "list" #[v] 0) }
  rw [hsz]
  refine wpAny_bind (wpAny_holding (wpAny_call_entry slot_list_sort ⟨_, hoL, rfl⟩ entry_list_sort ?body (args_list_sort _)))
  case body =>
    refine sort_one_at (g := s.heap) (s := { s with heap := ((s.heap.push (seqObj "list" #[] 0)).update s.heap.objs.size (Obj.mapSeq (· ++ [v].toArray))).push (seqObj "list" #[v] 0) })
      hoL (fun b o e => ⟨Nat.ne_of_lt (Nat.lt_succ_of_lt (Heap.lt_size e)), keep b o e⟩) fun h3 c k3 e3 => ⟨_, rfl, wpAny_pure ⟨_, rfl, h _ h3 c k3 ?_ e3⟩⟩
    exact Heap.get?_none_of_le (Nat.le_succ _)
end

theorem tups_of {S : S0} {U : List Addr} {h : Heap} : ∀ {vs : List Value} {tms : List (List Int)}, (∀ t ∈ tms, t ≠ []) → RdA S U h vs (tms.map tupI) → ∃ fs, KatTups h vs fs ∧ fs.length = vs.length ∧ ∀ v ∈ fs, ∃ i t, v = .int i t
  | [], [], _, _ => ⟨[], KatTups.nil, rfl, fun _ h => nomatch h⟩
  | [], _ :: _, _, r => by cases r
  | _ :: _, [], _, r => by cases r
  | v :: vs, t :: tms, hne, r => by
    rw [List.map_cons] at r
    replace r := r.inv
    cases r with
    | cons r1 r2 =>
      obtain ⟨fs, a, b, c⟩ := tups_of (fun t ht => hne t (List.mem_cons_of_mem _ ht)) r2
      replace r1 := r1.inv
      cases r1 with
      | @tup x o xs n ha ho hc hd r =>
        cases t with
        | nil => exact absurd rfl (hne [] List.mem_cons_self)
        | cons i t =>
          rw [List.map_cons] at r
          generalize hxs : xs.toList = L at r
          cases r with
          | @cons _ f _ _ q1 q2 =>
            cases q1
            rename_i tk
            have e : xs = (Value.int i tk :: f).toArray := by rw [← hxs, Array.toArray_toList]
            refine ⟨.int i tk :: fs, KatTups.cons ho hc hd (by rw [e]; rfl) a, by simp [b], fun v hv => ?_⟩
            rcases List.mem_cons.mp hv with rfl | hv
            · exact ⟨_, _, rfl⟩
            · exact c v hv

section
variable {S : S0} {U : List Addr}
theorem getD_rd {h : Heap} {vs : List Value} {ds : List D} (r : RdA S U h vs ds) (i : Nat) : Rd S U h (vs.getD i .none) (ds.getD i .none) := by
  cases e : ds[i]? with
  | some d =>
    obtain ⟨v, hv, rv⟩ := r.get e
    rw [List.getD_eq_getElem?_getD, List.getD_eq_getElem?_getD, e, hv]; exact rv
  | none =>
    have : vs[i]? = none := by
      rw [List.getElem?_eq_none_iff] at e ⊢
      rw [r.length]; exact e
    rw [List.getD_eq_getElem?_getD, List.getD_eq_getElem?_getD, e, this]; exact .none
theorem getD_rdA {h : Heap} {vs : List Value} {ds : List D} (r : RdA S U h vs ds) : ∀ l : List Nat, RdA S U h (l.map fun i => vs.getD i .none) (l.map fun i => ds.getD i .none)
  | [] => .nil
  | i :: l => .cons (getD_rd r i) (getD_rdA r l)
/-- sorted(list of tuples of ints): the first one is the least -/
theorem sorted_tups {A : Around} {s : Shared} {E : Value → Shared → Prop} {Q : Value → Shared → Prop} {v : Value} {tms : List (List Int)} (live : ∀ a ∈ U, ∃ o, s.heap.get? a = some o) (r : Rd S U s.heap v (.lst (tms.map tupI))) (hne : ∀ t ∈ tms, t ≠ []) (h1 : tms ≠ []) (h5 : tms.length ≤ 5)
    (hq : ∀ v' L h' tk, Keep s.heap h' → Rd S U h' v' (.lst L) → L[0]? = some (tupI (lexMin tms)) → Q v' { s with heap := h', toks := tk }) : wpAny (model S.prog S.w) A (call (.builtin "sorted") [v]) Q E s := by
  replace r := r.inv
  cases r with
  | @lst a o vs n ha ho hc hd r =>
    obtain ⟨hc, hcd⟩ := hc
    have hlen := r.length
    rw [List.length_map] at hlen
    have hnU : ∀ D, s.heap.get? D = none → D ∉ U := fun D e q => by obtain ⟨o, q⟩ := live D q; rw [e] at q; cases q
    have hl : s.heap.IsList a vs.toList.toArray := ⟨o, ho, hc, n, by rw [hd, Array.toArray_toList]⟩
    generalize hvs : vs.toList = l at r hlen hl
    by_cases one : tms.length = 1
    · obtain ⟨t, rfl⟩ : ∃ t, tms = [t] := by
        match tms, one with
        | [t], _ => exact ⟨t, rfl⟩
      cases r with
      | @cons x xs _ _ q1 q2 =>
        cases q2
        refine sorted_one_at hl fun D h3 c k3 hD e3 => ?_
        exact hq (.ref D) [tupI t] h3 s.toks k3 (.lst (hnU D hD) e3 ⟨rfl, rfl⟩ rfl (.cons (q1.keep k3) .nil)) rfl
    · have h0 : tms.length ≠ 0 := fun e => h1 (List.eq_nil_of_length_eq_zero e)
      refine sorted_at hl (by omega) (by omega) fun h' k' => ?_
      have r' := r.keep k'
      obtain ⟨fs, ft, flen, fint⟩ := tups_of hne r'
      refine kat_kind (T := .type "int") (s := { s with heap := h' }) ft (by omega) (fun v hv => ?_) rfl ?_
      · obtain ⟨i, t, rfl⟩ := fint v hv
        exact .now
      · have hge : ∀ i, i < tms.length → (tms.map tupI).getD i .none = tupI (tms.getD i []) := fun i hi => by simp [List.getD_eq_getElem?_getD, hi]
        have hck : chk l.length [] (kas_sort l.length) = true := by
          rw [hlen]
          have : tms.length = 2 ∨ tms.length = 3 ∨ tms.length = 4 ∨ tms.length = 5 := by omega
          rcases this with e | e | e | e <;> rw [e]
          · exact chk2
          · exact chk3
          · exact chk4
          · exact chk5
        refine kas_go (le := fun i j => lexLt (tms.getD j []) (tms.getD i []) = false) (lt := fun i j => lexLt (tms.getD i []) (tms.getD j [])) (fun a => lex_refl _) (fun a b c p q => lex_trans p q) (fun i j e => lex_asym e) (fun i j e => e)
          (fun i j C hi hj hC => ?_) (fun p m hp hm hml hle => ?_) (kas_sort l.length) [] hck (fun _ h => nomatch h)
        · have ri := getD_rd r' i
          have rj := getD_rd r' j
          rw [hge i (by omega)] at ri
          rw [hge j (by omega)] at rj
          unfold kas_ask
          generalize l.getD i Value.none = x at ri
          generalize l.getD j Value.none = z at rj
          replace ri := ri.inv
          cases ri with
          | @tup xa xo xs xn x1 x2 x3 x4 x5 =>
            replace rj := rj.inv
            cases rj with
            | @tup ya yo ys yn y1 y2 y3 y4 y5 =>
              refine kat_lt x2 x4 y2 y4 ?_
              rw [show (Value.type "int" != Value.type "tuple") = true from rfl]
              have := kat_ints (prog := S.prog) (w := S.w) (A := A.in1.in1) (s := { s with heap := h' }) (Q := C) (i := 0) x5 y5 hC
              simpa using this
        · refine ⟨s.toks, rfl, fun D h3 c k3 hD e3 => ?_⟩
          refine hq (.ref D) (p.toList.map fun i => (tms.map tupI).getD i .none) h3 s.toks k3 (.lst (hnU D hD) e3 ⟨rfl, rfl⟩ rfl ?_) ?_
          · exact getD_rdA (r.keep k3) p.toList
          · rw [List.getElem?_map, Array.getElem?_toList, hm]
            have hml' : m < tms.length := by omega
            have : lexMin tms = tms.getD m [] := by
              refine lexMin_uniq ?_ fun x hx => ?_
              · rw [List.getD_eq_getElem?_getD, List.getElem?_eq_getElem hml']; exact List.getElem_mem hml'
              · obtain ⟨j, hj, rfl⟩ := List.mem_iff_getElem.mp hx
                have := hle j (by omega)
                simpa [List.getD_eq_getElem?_getD, hj] using this
            rw [this]
            show some ((tms.map tupI).getD m .none) = _
            rw [hge m hml']
end
end Mine

end

section
namespace Mine
open PySem PySem.W PySem.Calls PyProof.Rows

noncomputable def pairD (x : Str × D) : D := .tup [.str x.1, x.2]
theorem entry_dul : entryFor table "dict.update.loop" = some Builtin.«dict.update.loop» := entryFor_of_tree (by kernel_rfl)
theorem plain_dul : plainId "dict.update.loop" = true := by decide +kernel
theorem stored_fresh {K : Type} [DecidableEq K] {k : K} {v : Value} {kvs : List (K × Value)} (h : k ∉ kvs.map (·.1)) : stored kvs k v = kvs ++ [(k, v)] := by
  unfold stored
  rw [if_neg]
  intro q
  obtain ⟨x, hx, e⟩ := List.any_eq_true.mp q
  exact h (by rw [← of_decide_eq_true e]; exact List.mem_map_of_mem hx)

section
variable {S : S0} {U : List Addr}
theorem dul_loop {A : Around} {I a Dd : Addr} {vs : Array Value} {l : List (Str × D)} {R : Result → Shared → Prop} (hA : A.handled = none) (hID : I ≠ Dd) (hIU : a ≠ I) (haD : a ≠ Dd) (hlen : l.length ≤ 1000) (hnd : (l.map (·.1)).Nodup) :
    ∀ (k i : Nat) (s : Shared) (kvs : List (Str × Value)), l.length - i = k → i ≤ l.length → s.heap.IsListIter I a i → s.heap.IsList a vs → RdA S ([I, Dd] ++ U) s.heap vs.toList (l.map pairD) → s.heap.DictOf (strKind S.prog S.w) Dd kvs →
      kvs.map (·.1) = (l.take i).map (·.1) → RdA S ([I, Dd] ++ U) s.heap (kvs.map (·.2)) ((l.take i).map (·.2)) →
      (∀ h' tk kvs', KeepM [I, Dd] s.heap h' → h'.DictOf (strKind S.prog S.w) Dd kvs' → kvs'.map (·.1) = l.map (·.1) → RdA S ([I, Dd] ++ U) h' (kvs'.map (·.2)) (l.map (·.2)) → R (.ok (.ret .none)) { s with heap := h', toks := tk }) →
      codeAny (model S.prog S.w) A (.builtin "dict.update.loop" ⟨[.ref Dd, .ref I, rawInt i, .none], []⟩) R s := by
  have hIm : ∀ x ∈ [I], x ∈ [I, Dd] ++ U := fun x hx => by rw [List.mem_singleton.mp hx]; simp
  have hDm : Dd ∈ [I, Dd] ++ U := by simp
  intro k
  induction k with
  | zero =>
    intro i s kvs hk hi hit hl rv hd h1 h2 hR
    have hin : i = l.length := by omega
    subst hin
    have hsz : vs.size = l.length := by have := rv.length; simpa using this
    refine codeAny_builtin entry_dul ?_
    rw [Around.under_plainId plain_dul _]
    show wpAny _ A.in1 (pyNext (.ref I) >>= _) _ _ s
    refine wpAny_bind (wpAny_pyNext_list_end (by exact hA) hit hl (by simp [hsz]) fun h' he' => ?_)
    have km : KeepM [I] s.heap h' := fun b o hb e => he' b o (by simpa using hb) e
    refine wpAny_bind (m := Builtin.Dict.addKeywords Dd []) (wpAny_pure (wpAny_pure ?_))
    rw [List.take_length] at h1 h2
    refine hR h' s.toks kvs (fun b o hb e => km b o (fun q => hb (by rw [List.mem_singleton.mp q]; simp)) e) (hd.at fun o e => km _ o (by simpa using Ne.symm hID) e) h1 (h2.keepM km hIm)
  | succ k ih =>
    intro i s kvs hk hi hit hl rv hd h1 h2 hR
    have hlt : i < l.length := by omega
    have hsz : vs.size = l.length := by have := rv.length; simpa using this
    refine codeAny_builtin entry_dul ?_
    rw [Around.under_plainId plain_dul _]
    show wpAny _ A.in1 (pyNext (.ref I) >>= _) _ _ s
    refine wpAny_bind (wpAny_pyNext_list_item hit hl (x := vs[i]) (by simp [hsz, hlt]) fun h' hit' hs' => ?_)
    have km : KeepM [I] s.heap h' := fun b o hb e => hs'.extBut b o (by simpa using hb) e
    have hl' : h'.IsList a vs := hl.extBut hs'.extBut hIU
    have rv' := rv.keepM km hIm
    have hd' := hd.at fun o e => km _ o (by simpa using Ne.symm hID) e
    have h2' := h2.keepM km hIm
    obtain ⟨v, hv, ri⟩ := rv'.get (i := i) (d := pairD l[i]) (by simp [hlt])
    have hv' : vs[i] = v := by
      rw [Array.getElem?_toList, Array.getElem?_eq_getElem (by omega)] at hv
      exact Option.some.inj hv
    rw [hv']
    replace ri := ri.inv
    cases ri with
    | @tup t o ws n ha ho hc hdd r =>
      generalize hws : ws.toList = W at r
      cases r with
      | @cons v1 _ _ _ q1 q2 =>
        cases q2 with
        | @cons v2 _ _ _ q2 q3 =>
          cases q3
          cases q1
          rename_i tk1
          have ew : ws = #[.str l[i].1 tk1, v2] := by rw [← Array.toArray_toList (xs := ws), hws]
          have hiD : t ≠ Dd := fun q => ha (by rw [q]; exact hDm)
          have hfr : l[i].1 ∉ kvs.map (·.1) := by
            rw [h1]
            intro q
            obtain ⟨x, hx, e⟩ := List.mem_map.mp q
            obtain ⟨j, hj, e2⟩ := List.mem_iff_getElem.mp hx
            rw [List.length_take] at hj
            rw [List.getElem_take] at e2
            have hnd' := List.pairwise_iff_getElem.mp hnd j i (by rw [List.length_map]; omega) (by rw [List.length_map]; omega) (by omega)
            apply hnd'
            rw [List.getElem_map, List.getElem_map, e2, e]
          have hkl : kvs.length ≤ l.length := by
            have := congrArg List.length h1
            rw [List.length_map, List.length_map, List.length_take] at this
            omega
          refine wpAny_bind (wpAny_holding ?_)
          refine wpAny_bind (wpAny_tryCatch ?_)
          refine wpAny_bind (wpAny_typeOf (T := "tuple") ⟨_, ho, hc⟩ ?_)
          rw [if_pos (by decide)]
          refine wpAny_bind (wpAny_seqItems ho hdd (wpAny_pure ?_))
          show wpAny _ _ (match ws.toList with
            | [k, v] => holding [k, v] (dictSet Dd k v)
            | l => _) _ _ _
          rw [hws]
          refine wpAny_holding (wpAny_dictSet_pairs (knd := strKind S.prog S.w) (strKind_is S.prog S.w l[i].1 tk1) hd' (fun h3 hd3 hs3 => ?_) (by rw [sizeLine_eq]; omega))
          rw [stored_fresh hfr] at hd3
          have k3 : KeepM [Dd] h' h3 := fun b o hb e => (hs3.2 b (by simpa using hb)).trans e
          have hDm' : ∀ x ∈ [Dd], x ∈ [I, Dd] ++ U := fun x hx => by rw [List.mem_singleton.mp hx]; exact hDm
          refine wpAny_pure ⟨plainId_quiet plain_dul _, ?_⟩
          refine ih (i + 1) { s with heap := h3, toks := _ } (kvs ++ [(l[i].1, v2)]) (by omega) hlt (hit'.at fun o e => k3 _ o (by simpa using hID) e) (hl'.at fun o e => k3 _ o (by simpa using haD) e) (rv'.keepM k3 hDm') hd3 ?_ ?_ fun h4 tk kvs' km4 => hR h4 tk kvs' fun b o hb e => km4 b o hb (k3 b o (fun q => hb (by rw [List.mem_singleton.mp q]; simp)) (km b o (fun q => hb (by rw [List.mem_singleton.mp q]; simp)) e))
          · rw [List.map_append, h1, List.take_add_one, List.getElem?_eq_getElem hlt, List.map_append]; rfl
          · rw [List.map_append, List.take_add_one, List.getElem?_eq_getElem hlt, List.map_append]
            exact (h2'.keepM k3 hDm').append (.cons (q2.keepM k3 hDm') .nil)
end
end Mine

end

section
namespace Mine
open PySem PySem.W PySem.Calls PyProof.Rows

theorem keys_miss : typeLookup (.type "list") "keys" = pure none := am_miss_of_fast (by decide +kernel)
theorem keys_of_list {prog : Program} {w : World} {A : Around} {E : Value → Shared → Prop} {s : Shared} {a : Addr} {o : Obj} {xs : Array Value} {k : Nat} {Q : Option Value → Shared → Prop}
    (hx : s.heap.get? a = some o) (hc : o.cls = .type "list") (hdat : o.data = .seq xs k) (hd : o.dict = none) (hA : A.handled = none)
    (h : ∀ h' tk, Keep s.heap h' → Q none { s with heap := h', toks := tk }) :
    wpAny (model prog w) A (getAttr? (.ref a) "keys") Q E s := by
  obtain ⟨c, dct, dat, sl⟩ := o
  simp only at hc hdat hd
  subst hc hdat hd
  obtain ⟨hp, g, d, tk, os⟩ := s
  have hT : ∀ tk', (⟨hp, g, d, tk', os⟩ : Shared).TypeIs (.ref a) "list" := fun _ => ⟨_, hx, rfl⟩
  have f1 := sub_AttributeError
  have f3 := F.slot_list_getattribute.lookup
  have f4 := F.slot_list_getattribute.bind (.ref a)
  have f5 := am_list_getattr_none
  unfold getAttr? getAttrBy? getAttrBy
  repeat (any_goals (first | assumption | exact hT _ | ((with_reducible show wpAny _ _ (call (Value.builtin "list.__getattribute__") _ _) _ _ _); refine call_meets F.slot_list_getattribute (hT _) am_entry_list_getattribute (F.args_list_getattribute_2 _ _) (meets_getattribute_miss_list a xs k sl "keys" _ keys_miss (by decide +kernel) (by decide +kernel)) ⟨hx, hA, fun h' tk' e hx' => ?_⟩) | wp_step))
  obtain ⟨t', u', he⟩ := hx'.there
  show wpAny _ _ (getattributeRaised _ _ _ _ _ _ _) _ _ _
  unfold getattributeRaised
  repeat (any_goals (first | assumption | wp_step))
  exact h h' tk' hx'.keeps

section
variable {S : S0} {k : Nat}
/-- dict(list of pairs), the keys apart -/
theorem FnC.dictP {l : List (Str × D)} (hz : l.length ≤ 1000) (hnd : (l.map (·.1)).Nodup) : FnC S (.type "dict") k [.lst (l.map pairD)] (.sd l) := by
  intro A s U vs Q E hA top live r hq
  replace r := r.inv
  cases r with
  | cons r1 r2 =>
    replace r2 := r2.inv
    cases r2
    replace r1 := r1.inv
    cases r1 with
    | @lst a o ws n ha ho hc hd r =>
      obtain ⟨hc, hcd⟩ := hc
      refine callType_codes (Q₁ := fun obj s₁ => obj = .ref s.heap.objs.size ∧ s₁ = { s with heap := s.heap.push { cls := .type "dict", data := .dict #[] } }) F.kt_called_dict (F.kt_typeCall_dict_1 _) F.entry_dict_init (kt_code_dict_new _ ⟨rfl, rfl⟩) ?_
      rintro obj s₁ ⟨rfl, rfl⟩
      have hnew : (s.heap.push { cls := .type "dict", data := .dict #[] }).DictOf (strKind S.prog S.w) s.heap.objs.size [] := Heap.DictOf.new s.heap
      have k0 := Keep.push s.heap { cls := .type "dict", data := .dict #[] }
      have hDn : s.heap.get? s.heap.objs.size = none := fresh_none s.heap
      generalize hH : s.heap.push { cls := .type "dict", data := .dict #[] } = H at hnew k0 ⊢
      generalize hDd : s.heap.objs.size = Dd at hnew hDn ⊢
      refine ⟨hnew.typeIs, F.args_dict_init_2 _ _, ?_⟩
      have haH := k0 _ _ ho
      have haD : a ≠ Dd := fun q => by rw [q, hDn] at ho; cases ho
      unfold Builtin.«dict.__init__»
      refine wpAny_bind ?_
      unfold Builtin.Dict.selfAndRest
      refine wpAny_bind (wpAny_notOrdered_dict hnew.typeIs ?_)
      show wpAny _ _ (pure (Dd, [Value.ref a])) _ _ _
      refine wpAny_pure ?_
      show wpAny _ _ (Builtin.Dict.updateFrom "dict.__init__" Dd (.ref a) [] .none) _ _ _
      unfold Builtin.Dict.updateFrom
      refine wpAny_bind (wpAny_typeOf (T := "list") ⟨_, haH, hc⟩ ?_)
      rw [if_pos (by decide)]
      refine wpAny_bind (keys_of_list haH hc hd hcd hA.1 fun h1 t1 k1 => ?_)
      have hl1 : h1.IsList a ws := ⟨o, k1 _ _ haH, hc, n, hd⟩
      refine wpAny_bind (wpAny_rule (wpAny_bind (wpAny_pyIter_list hl1 ?_)))
      have k2 := Keep.push h1 { cls := .type "list_iterator", data := .fields #[.ref a, .int 0 0] }
      have hI : (h1.push { cls := .type "list_iterator", data := .fields #[.ref a, .int 0 0] }).IsListIter h1.objs.size a 0 := ⟨_, Heap.get?_push_size _ rfl, rfl, rfl⟩
      have hIn : h1.get? h1.objs.size = none := fresh_none h1
      generalize hH2 : h1.push { cls := .type "list_iterator", data := .fields #[.ref a, .int 0 0] } = H2 at k2 hI ⊢
      generalize hId : h1.objs.size = I at hI hIn ⊢
      have kk : Keep s.heap H2 := (k0.trans k1).trans k2
      have hID : I ≠ Dd := fun q => by
        obtain ⟨o', _, _, ho', _⟩ := hnew
        have := k1 _ _ ho'
        rw [← q, hIn] at this; cases this
      have hIs : s.heap.get? I = none := by
        cases e : s.heap.get? I with
        | none => rfl
        | some o => have := k1 _ _ (k0 _ _ e); rw [hIn] at this; cases this
      have rX : RdA S ([I, Dd] ++ U) H2 ws.toList (l.map pairD) := r.mono (fun b o _ e => kk b o e) fun b o e hb q => by
        simp only [List.cons_append, List.nil_append, List.mem_cons] at q
        rcases q with rfl | rfl | q
        · rw [hIs] at e; cases e
        · rw [hDn] at e; cases e
        · exact hb q
      refine wpAny_pure ⟨plainId_quiet plain_dul _, ?_⟩
      refine dul_loop (S := S) (U := U) (vs := ws) (l := l) (a := a) (A := A.in1) (R := wants (fun r s₂ => r = Value.none ∧ Q (.ref Dd) s₂) E) (by exact hA.1) hID (fun q => by rw [← q, ho] at hIs; cases hIs) haD hz hnd l.length 0 { s with heap := H2, toks := t1 } [] rfl (Nat.zero_le _) hI ⟨o, kk _ _ ho, hc, n, hd⟩ rX (hnew.keep (k1.trans k2)) rfl .nil fun h' tk kvs km hd' e1 e2 => ?_
      refine ⟨rfl, ?_⟩
      have hUD : Dd ∉ U := fun q => by obtain ⟨o, e⟩ := live _ q; rw [hDn] at e; cases e
      refine hq (.ref Dd) h' tk (fun b o e => km b o (fun q => ?_) (kk b o e)) (.sd hUD ?_ hd' e1.symm rfl (e2.less fun x hx => List.mem_append_right _ hx))
      · simp only [List.mem_cons, List.not_mem_nil, or_false] at q
        rcases q with rfl | rfl
        · rw [hIs] at e; cases e
        · rw [hDn] at e; cases e
      · have := modules_low top.nolimit
        rw [hDd] at this
        exact beq_false_of_ne (fun q => by rw [q] at this; exact Nat.lt_irrefl _ this)
end
end Mine


end

section
namespace Mine
open PySem PySem.W PySem.Calls PyProof.Rows

section
variable {S : S0} {f : Fm} {U M : List Addr} {lk lk' : List (Str × LV)} {N : Dy → Prop} {R : D → Dy → Prop} {ss : List Stmt}

/-- own objects are changed -/
theorem Ok.change {h h' : Heap} {B : List Addr} (ok : Ok S f ⟨U, M, lk⟩ h) (km : KeepM B h h') (hB : ∀ a ∈ B, ∃ z d, lk.lookup z = some (.own a d)) (hl : ∀ a ∈ B, ∃ o, h'.get? a = some o)
    (hlk : ∀ z l, lk'.lookup z = some l → (lk.lookup z = some l ∧ ∀ a d, l = .own a d → a ∉ B) ∨ ∃ a d d', lk.lookup z = some (.own a d) ∧ l = .own a d' ∧ OwnAt S U h' a d') : Ok S f ⟨U, M, lk'⟩ h' := by
  have fB : ∀ a ∈ B, a ∈ M ∧ a ≠ f.env.locals ∧ ∃ d, OwnAt S U h a d := fun a ha => by
    obtain ⟨z, d, e⟩ := hB a ha
    obtain ⟨v, _, _, q1, q2, q3⟩ := ok.vars z _ e
    exact ⟨q1, q2, d, q3⟩
  have hBU : ∀ a ∈ B, a ∈ U := fun a ha => ok.mU a (fB a ha).1
  have ncell : ∀ {c : Addr} {v : Option Value}, h.IsCell c v → c ∉ B := fun {c v} hc q => by
    obtain ⟨_, _, d, od⟩ := fB c q
    exact od.ne_cell hc rfl
  have vat : ∀ {z v}, VarAt f.env h z v → VarAt f.env h' z v := by
    rintro z v (⟨a1, m', a2, a3⟩ | ⟨a1, a2, c, a3, a4⟩)
    · exact .inl ⟨a1, m', keepM_ns a2 km fun q => (fB _ q).2.1 rfl, a3⟩
    · exact .inr ⟨a1, a2, c, a3, keepM_cell a4 km (ncell a4)⟩
  refine { ok with keep := fun b o e => km b o (fun q => ?_) (ok.keep b o e), live := fun a ha => ?_, ns := ?_, cells := fun z c e => ?_, vars := fun z l e => ?_, apart := fun x x' a d d' e1 e2 => ?_ }
  · have h1 := ok.mNew b (fB b q).1
    exact absurd (Heap.lt_size e) (Nat.not_lt.mpr h1)
  · by_cases q : a ∈ B
    · exact hl a q
    · obtain ⟨o, e⟩ := ok.live a ha; exact ⟨o, km a o q e⟩
  · obtain ⟨m, q⟩ := ok.ns; exact ⟨m, keepM_ns q km fun r => (fB _ r).2.1 rfl⟩
  · obtain ⟨a, v, q⟩ := ok.cells z c e; exact ⟨a, v, keepM_cell q km (ncell q)⟩
  · rcases hlk z l e with ⟨e1, e2⟩ | ⟨a, d, d', e1, rfl, e3⟩
    · obtain ⟨v, a, b⟩ := ok.vars z l e1
      refine ⟨v, vat a, ?_⟩
      cases l with
      | val d => exact Rd.keepM b km hBU
      | own a2 d2 => obtain ⟨q1, q2, q3, q4⟩ := b; exact ⟨q1, q2, q3, q4.keepM km hBU (e2 a2 d2 rfl)⟩
    · obtain ⟨v, a1, q1, q2, q3, _⟩ := ok.vars z _ e1
      exact ⟨v, vat a1, q1, q2, q3, e3⟩
  · have back : ∀ {x a d}, lk'.lookup x = some (.own a d) → ∃ d0, lk.lookup x = some (.own a d0) := fun {x a d} e => by
      rcases hlk x _ e with ⟨e1, _⟩ | ⟨a', d1, d2, e1, e2, _⟩
      · exact ⟨d, e1⟩
      · cases e2; exact ⟨d1, e1⟩
    obtain ⟨d1, q1⟩ := back e1
    obtain ⟨d2, q2⟩ := back e2
    exact ok.apart x x' a d1 d2 q1 q2
theorem Ok.change1 {h h' : Heap} {x : Str} {a : Addr} {d d' : D} (ok : Ok S f ⟨U, M, lk⟩ h) (hx : lk.lookup x = some (.own a d)) (km : KeepM [a] h h') (od : OwnAt S U h' a d') : Ok S f ⟨U, M, (x, .own a d') :: lk⟩ h' := by
  refine ok.change km (fun b hb => by rw [List.mem_singleton.mp hb]; exact ⟨x, d, hx⟩) (fun b hb => by rw [List.mem_singleton.mp hb]; exact od.live) fun z l e => ?_
  by_cases hz : z = x
  · subst hz; rw [lookup_cons_eq] at e; cases e; exact .inr ⟨a, d, d', hx, rfl, od⟩
  · rw [lookup_cons_ne hz] at e
    refine .inl ⟨e, fun b d2 e2 q => ?_⟩
    subst e2
    rw [List.mem_singleton.mp q] at e
    exact hz (ok.apart z x a d2 d e hx)
theorem Ok.change2 {h h' : Heap} {x z : Str} {a b : Addr} {d d' e e' : D} (ok : Ok S f ⟨U, M, lk⟩ h) (hxz : x ≠ z) (hx : lk.lookup x = some (.own a d)) (hz : lk.lookup z = some (.own b e)) (km : KeepM [a, b] h h') (od : OwnAt S U h' a d') (oe : OwnAt S U h' b e') : Ok S f ⟨U, M, (x, .own a d') :: (z, .own b e') :: lk⟩ h' := by
  refine ok.change km (fun c hc => ?_) (fun c hc => ?_) fun y l ey => ?_
  · simp only [List.mem_cons, List.not_mem_nil, or_false] at hc
    rcases hc with rfl | rfl
    · exact ⟨x, d, hx⟩
    · exact ⟨z, e, hz⟩
  · simp only [List.mem_cons, List.not_mem_nil, or_false] at hc
    rcases hc with rfl | rfl
    · exact od.live
    · exact oe.live
  · by_cases h1 : y = x
    · subst h1; rw [lookup_cons_eq] at ey; cases ey; exact .inr ⟨a, d, d', hx, rfl, od⟩
    · rw [lookup_cons_ne h1] at ey
      by_cases h2 : y = z
      · subst h2; rw [lookup_cons_eq] at ey; cases ey; exact .inr ⟨b, e, e', hz, rfl, oe⟩
      · rw [lookup_cons_ne h2] at ey
        refine .inl ⟨ey, fun c d2 e2 q => ?_⟩
        subst e2
        simp only [List.mem_cons, List.not_mem_nil, or_false] at q
        rcases q with rfl | rfl
        · exact h1 (ok.apart y x _ d2 d ey hx)
        · exact h2 (ok.apart y z _ d2 e ey hz)

/-- x[i], x the frame's own list -/
theorem Ev.itemOwn {x : Str} {i : Expr} {q ipos : Pos} {a : Addr} {ds : List D} {k : Int} {d : D} (hx : lk.lookup x = some (.own a (.tup ds))) (hi : Ev S f ⟨U, M, lk⟩ i (.int k)) (h0 : 0 ≤ k) (hk : k < 2 ^ 62) (hd : ds[k.toNat]? = some d) (hdb : (x == ("__debug__" : Str)) = false)
    (hs : ∀ o v, subscripted i false o v = operate [o, v] (getItem o v)) : Ev S f ⟨U, M, lk⟩ (.Subscript (.Name x q) i ipos) d := by
  intro A s Q E hA ok hq
  obtain ⟨v, hv, rfl, aM, aL, og⟩ := ok.vars x _ hx
  refine Subscript_ (load_var ok.kind hv hdb (hi A s _ _ hA ok fun v2 g2 t2 k2 r2 => ?_))
  replace r2 := r2.inv
  cases r2
  cases og.keep k2 with
  | @box vs _ g r =>
    obtain ⟨v3, hv3, r3⟩ := r.get hd
    refine tail_any g.typeIs slot_list_getitem.lookup (wpAny_getItem_list g h0 (by omega) (by simpa using hv3) (hq v3 g2 t2 k2 r3)) (hs _ _)
/-- x[i] = e, x the frame's own list -/
theorem Ex.setOwn {x : Str} {i e : Expr} {q ipos pos : Pos} {a : Addr} {ds : List D} {k : Int} {d : D} (hx : lk.lookup x = some (.own a (.tup ds))) (he : Ev S f ⟨U, M, lk⟩ e d) (hi : Ev S f ⟨U, M, lk⟩ i (.int k)) (h0 : 0 ≤ k) (hk : k < ds.length) (hk2 : k < 2 ^ 62) (hdb : (x == ("__debug__" : Str)) = false)
    (hs : swapsWith e (some (.Subscript (.Name x q) i ipos)) pos.line f.env = pure false) (r : Ex S f ⟨U, M, (x, .own a (.tup (ds.set k.toNat d))) :: lk⟩ ss N R) : Ex S f ⟨U, M, lk⟩ (.Assign [.Subscript (.Name x q) i ipos] e pos :: ss) N R := by
  intro A s Q E hA ok hn hr
  obtain ⟨v, hv, rfl, aM, aL, og⟩ := ok.vars x _ hx
  refine wpAny_execs_cons (wpAny_Assign_Subscript (he A s _ _ hA ok fun v1 g1 t1 k1 r1 => ?_) hs)
  have ok1 := ok.keeps k1
  refine load_var (s := { s with heap := g1, toks := t1 }) ok1.kind (hv.keep k1) hdb (hi A _ _ _ hA ok1 fun v2 g2 t2 k2 r2 => ?_)
  have ok2 := ok1.keeps k2
  replace r2 := r2.inv
  cases r2
  cases og.keep (k1.trans k2) with
  | @box vs _ g rd =>
    have hlen := rd.length
    rw [Array.length_toList] at hlen
    refine wpAny_setItem_list g h0 (by omega) (by omega) fun h3 g3 s3 => ?_
    have km : KeepM [a] g2 h3 := KeepM.of_same (List.mem_singleton.mpr rfl) s3
    have aU := ok.mU a aM
    have hset : RdA S U h3 (vs.setIfInBounds k.toNat v1).toList (ds.set k.toNat d) := by
      rw [Array.toList_setIfInBounds]
      have base := rd.same aU s3
      have rv := (r1.keep k2).same aU s3
      have key : ∀ {l : List Value} {m : List D} (j : Nat), RdA S U h3 l m → RdA S U h3 (l.set j v1) (m.set j d) := by
        intro l
        induction l with
        | nil => intro m j r; cases r; exact .nil
        | cons y l ih =>
          intro m j r
          cases r with
          | cons p q => cases j with
            | zero => exact .cons rv q
            | succ j => exact .cons p (ih j q)
      exact key _ base
    have ok3 := ok2.change1 hx km (.box g3 hset)
    have s1 : Step M M s.heap h3 := ⟨fun b o hb e => km b o (fun q => hb (by rw [List.mem_singleton.mp q]; exact aM)) (k2 b o (k1 b o e)), fun _ h => .inl h⟩
    exact r A _ _ _ hA ok3 (fun y3 h3 t3 n3 s3 ok3 => hn y3 h3 t3 n3 (s1.trans s3) ok3) fun v3 d3 y3 h3 t3 q3 k3 r3 ok3 => hr v3 d3 y3 h3 t3 q3 (s1.ret k3) r3 ok3
/-- x[i] = e, x the frame's own dict, the key new -/

theorem Ex.setStr {x : Str} {i e : Expr} {q ipos pos : Pos} {a : Addr} {l : List (Str × D)} {k : Str} {d : D} (hx : lk.lookup x = some (.own a (.sd l))) (he : Ev S f ⟨U, M, lk⟩ e d) (hi : Ev S f ⟨U, M, lk⟩ i (.str k)) (hk : k ∉ l.map (·.1)) (hz : l.length ≤ 1000) (hdb : (x == ("__debug__" : Str)) = false)
    (hs : swapsWith e (some (.Subscript (.Name x q) i ipos)) pos.line f.env = pure false) (r : Ex S f ⟨U, M, (x, .own a (.sd (l ++ [(k, d)]))) :: lk⟩ ss N R) : Ex S f ⟨U, M, lk⟩ (.Assign [.Subscript (.Name x q) i ipos] e pos :: ss) N R := by
  intro A s Q E hA ok hn hr
  obtain ⟨v, hv, rfl, aM, aL, og⟩ := ok.vars x _ hx
  refine wpAny_execs_cons (wpAny_Assign_Subscript (he A s _ _ hA ok fun v1 g1 t1 k1 r1 => ?_) hs)
  have ok1 := ok.keeps k1
  refine load_var (s := { s with heap := g1, toks := t1 }) ok1.kind (hv.keep k1) hdb (hi A _ _ _ hA ok1 fun v2 g2 t2 k2 r2 => ?_)
  have ok2 := ok1.keeps k2
  replace r2 := r2.inv
  cases r2
  cases og.keep (k1.trans k2) with
  | @sd kvs _ ds q1 g e1 e2 rd =>
    subst e2
    have hlen : kvs.length = l.length := by have := congrArg List.length e1; simpa using this.symm
    refine wpAny_setItem_pairs (knd := strKind S.prog S.w) (strKind_is S.prog S.w k _) g (fun h3 g3 s3 => ?_) (by rw [sizeLine_eq]; omega)
    rw [stored_fresh (by rw [← e1]; exact hk)] at g3
    have km : KeepM [a] g2 h3 := KeepM.of_same (List.mem_singleton.mpr rfl) s3
    have aU := ok.mU a aM
    have ok3 := ok2.change1 hx km (.sd (l := l ++ [(k, d)]) q1 g3 (by rw [List.map_append, List.map_append, e1]; rfl) rfl (by rw [List.map_append, List.map_append]; exact (rd.same aU s3).append (.cons ((r1.keep k2).same aU s3) .nil)))
    have s1 : Step M M s.heap h3 := ⟨fun b o hb e => km b o (fun q => hb (by rw [List.mem_singleton.mp q]; exact aM)) (k2 b o (k1 b o e)), fun _ h => .inl h⟩
    exact r A _ _ _ hA ok3 (fun y3 h3 t3 n3 s3 ok3 => hn y3 h3 t3 n3 (s1.trans s3) ok3) fun v3 d3 y3 h3 t3 q3 k3 r3 ok3 => hr v3 d3 y3 h3 t3 q3 (s1.ret k3) r3 ok3
end
end Mine

end

section
namespace Mine
open PySem PySem.W PySem.Calls PyProof.Rows

inductive RdP (S : S0) (U : List Addr) (h : Heap) : List (Value × Value) → List (Str × D) → Prop
  | nil : RdP S U h [] []
  | cons {x t v d vs l} : Rd S U h v d → RdP S U h vs l → RdP S U h ((.str x t, v) :: vs) ((x, d) :: l)
theorem RdP.carries {S : S0} {U : List Addr} {h : Heap} : ∀ {vs : List (Value × Value)} {l : List (Str × D)}, RdP S U h vs l → ∃ kvs, Carries (strKind S.prog S.w) vs kvs ∧ l.map (·.1) = kvs.map (·.1) ∧ RdA S U h (kvs.map (·.2)) (l.map (·.2)) := by
  intro vs l r
  induction r with
  | nil => exact ⟨[], trivial, rfl, .nil⟩
  | @cons x t v d vs l r rs ih =>
    obtain ⟨kvs, a, b, c⟩ := ih
    exact ⟨(x, v) :: kvs, ⟨strKind_is S.prog S.w x t, rfl, a⟩, congrArg (x :: ·) b, .cons r c⟩
noncomputable def dpairs (env : Env) (pos : Pos) (kes : List (Expr × Expr)) : List (Sem Value × Sem Value) := kes.map fun p => (eval p.1 env, (do let x ← eval p.2 env; standAt pos; pure x : Sem Value))
noncomputable def EvPM (S : S0) (f : Fm) (U M : List Addr) (lk : List (Str × LV)) (pos : Pos) (kes : List (Expr × Expr)) (P : List (Str × D) → List (Str × LV) → Prop) : Prop :=
  ∀ (A : Around) (s : Shared) (Q : List (Value × Value) → Shared → Prop) (E : Value → Shared → Prop), AOk f.k A → Ok S f ⟨U, M, lk⟩ s.heap →
    (∀ vs l lk' h' tk, P l lk' → KeepM M s.heap h' → Ok S f ⟨U, M, lk'⟩ h' → RdP S U h' vs l → Q vs { s with heap := h', toks := tk }) → wpAny (model S.prog S.w) A (evalPairs (dpairs f.env pos kes)) Q E s
section
variable {S : S0} {f : Fm} {U M : List Addr} {lk : List (Str × LV)} {N : Dy → Prop} {R : D → Dy → Prop} {ss : List Stmt} {P : D → List (Str × LV) → Prop} {PP : List (Str × D) → List (Str × LV) → Prop} {pos : Pos}
theorem RdP.keepM {h h' : Heap} : ∀ {vs : List (Value × Value)} {l : List (Str × D)}, RdP S U h vs l → KeepM M h h' → (∀ a ∈ M, a ∈ U) → RdP S U h' vs l := by
  intro vs l r k hm
  induction r with
  | nil => exact .nil
  | cons r _ ih => exact .cons (r.keepM k hm) ih
theorem EvPM.nil (p : PP [] lk) : EvPM S f U M lk pos [] PP := fun A s Q E hA ok hq => evalPairs_nil (hq [] [] lk s.heap s.toks p (fun _ _ _ e => e) ok .nil)
theorem EvPM.cons {x : Str} {k : Nat} {q : Pos} {e : Expr} {kes : List (Expr × Expr)} (h : EvM S f U M lk e (fun d lk1 => EvPM S f U M lk1 pos kes (fun l lk2 => PP ((x, d) :: l) lk2))) : EvPM S f U M lk pos ((.Constant (.str x) k q, e) :: kes) PP := by
  intro A s Q E hA ok hq
  refine evalPairs_cons ((Ev.cstr (S := S) (f := f) (y := ⟨U, M, lk⟩)) A s _ _ hA ok fun v0 h0 t0 k0 r0 => ?_)
  replace r0 := r0.inv
  cases r0
  refine wpAny_bind (h A _ _ _ hA (ok.keeps k0) fun v d lk1 h1 t1 p1 k1 ok1 r1 => ?_)
  refine wpAny_bind (wpAny_standAt (wpAny_pure ?_))
  refine p1 A _ _ _ hA ok1 fun vs l lk2 h2 t2 p2 k2 ok2 r2 => ?_
  exact hq _ _ lk2 h2 t2 p2 ((k0.m.trans k1).trans k2) ok2 (.cons (r1.keepM k2 ok1.mU) r2)
theorem size_le_g {h : Heap} (ok : Ok S f ⟨U, M, lk⟩ h) : f.g₀.objs.size ≤ h.objs.size := by
  have h1 := ok.mNew _ ok.locM
  obtain ⟨m, hm⟩ := ok.ns
  exact Nat.le_of_lt (Nat.lt_of_le_of_lt h1 hm.lt)
theorem dict_core {keys : List (Option Expr)} {values : List Expr} {dpos : Pos} {kes : List (Expr × Expr)} (hshape : (evalEachOpt keys f.env).zip ((evalEach values f.env).map fun v => do let x ← v; standAt dpos; pure x) = (dpairs f.env dpos kes).map fun p => (some p.1, p.2)) (h0 : kes ≠ []) (hlen : kes.length ≤ 15)
    (h : ∀ U', EvPM S f U' M lk dpos kes (fun l lk' => (l.map (·.1)).Nodup ∧ PP l lk')) {A : Around} {s : Shared} {Q E : Value → Shared → Prop} (hA : AOk f.k A) (ok : Ok S f ⟨U, M, lk⟩ s.heap)
    (hq : ∀ Dd l lk' h' tk, PP l lk' → KeepM M s.heap h' → s.heap.get? Dd = none → f.g₀.objs.size ≤ Dd → Ok S f ⟨[Dd] ++ U, M, lk'⟩ h' → OwnAt S ([Dd] ++ U) h' Dd (.sd l) → Q (.ref Dd) { s with heap := h', toks := tk }) : wpAny (model S.prog S.w) A (eval (.Dict keys values dpos) f.env) Q E s := by
  refine wpAny_Dict_pairs (knd := strKind S.prog S.w) hshape (by unfold dpairs; simpa using h0) (by unfold dpairs; simpa using hlen) ?_
  have hDn : s.heap.get? s.heap.objs.size = none := fresh_none s.heap
  have hg : f.g₀.objs.size ≤ s.heap.objs.size := size_le_g ok
  have k0 := Keep.push s.heap { cls := .type "dict", data := .dict #[] }
  have hnew : (s.heap.push { cls := .type "dict", data := .dict #[] }).DictOf (strKind S.prog S.w) s.heap.objs.size [] := Heap.DictOf.new s.heap
  have hsm : (s.heap.objs.size == sysModules) = false := by
    have := modules_low ok.top.nolimit
    exact beq_false_of_ne (fun q => by rw [q] at this; exact Nat.lt_irrefl _ this)
  generalize s.heap.push { cls := .type "dict", data := .dict #[] } = H at k0 hnew ⊢
  generalize s.heap.objs.size = Dd at hDn hnew hg hsm ⊢
  have hlive : ∃ o, H.get? Dd = some o := by obtain ⟨o, _, _, ho, _⟩ := hnew; exact ⟨o, ho⟩
  have okb : Ok S f ⟨[Dd] ++ U, M, lk⟩ H := Ok.beside (y := ⟨U, M, lk⟩) ok k0 (fun a ha => by rw [List.mem_singleton.mp ha]; exact hDn) (fun a ha => by rw [List.mem_singleton.mp ha]; exact hlive)
  have hDU : Dd ∉ U := fun q => by obtain ⟨o, e⟩ := ok.live _ q; rw [hDn] at e; cases e
  have hDM : Dd ∉ M := fun q => hDU (ok.mU _ q)
  have hDg : f.g₀.get? Dd = none := Heap.get?_none_of_le hg
  refine h ([Dd] ++ U) A _ _ _ hA okb fun vs l lk' h1 t1 p1 k1 ok1 r1 => ?_
  obtain ⟨hnd, pp⟩ := p1
  obtain ⟨kvs, c1, c2, c3⟩ := r1.carries
  refine ⟨kvs, c1, hnew.at fun o e => k1 _ o hDM e, fun h2 hd2 hs2 => ?_⟩
  rw [merged_nil_of_nodup kvs (by rw [← c2]; exact hnd)] at hd2
  have km2 : KeepM [Dd] h1 h2 := KeepM.of_same (List.mem_singleton.mpr rfl) hs2
  have hl2 : ∃ o, h2.get? Dd = some o := by obtain ⟨o, _, _, ho, _⟩ := hd2; exact ⟨o, ho⟩
  have ok2 : Ok S f ⟨[Dd] ++ U, M, lk'⟩ h2 := Ok.moved (y := ⟨U, M, lk'⟩) ok1 km2 (fun a ha => by rw [List.mem_singleton.mp ha]; exact ⟨hDU, hDg⟩) (fun a ha => by rw [List.mem_singleton.mp ha]; exact hl2) ok.mU
  refine hq Dd l lk' h2 _ pp (fun b o hb e => km2 b o (fun q => by rw [List.mem_singleton.mp q] at e; rw [hDn] at e; cases e) (k1 b o hb (k0 b o e))) hDn hg ok2 (.sd hsm hd2 c2 rfl (c3.same (by simp) hs2))
theorem EvM.dict {keys : List (Option Expr)} {values : List Expr} {dpos : Pos} {kes : List (Expr × Expr)} (hshape : (evalEachOpt keys f.env).zip ((evalEach values f.env).map fun v => do let x ← v; standAt dpos; pure x) = (dpairs f.env dpos kes).map fun p => (some p.1, p.2)) (h0 : kes ≠ []) (hlen : kes.length ≤ 15)
    (h : ∀ U', EvPM S f U' M lk dpos kes (fun l lk' => (l.map (·.1)).Nodup ∧ P (.sd l) lk')) : EvM S f U M lk (.Dict keys values dpos) P := by
  intro A s Q E hA ok hq
  refine dict_core (PP := fun l lk' => P (.sd l) lk') hshape h0 hlen h hA ok fun Dd l lk' h' tk p k hn hg ok' od => ?_
  have hDU : Dd ∉ U := fun q => by obtain ⟨o, e⟩ := ok.live _ q; rw [hn] at e; cases e
  have hu : ∀ a ∈ f.U₀, a ∈ U := fun a ha => (ok.uSub a ha).1
  refine hq _ _ lk' h' tk p k (Ok.gone (y := ⟨U, M, lk'⟩) ok' ok.mU hu) ?_
  cases od with
  | sd q1 q2 q3 q4 q5 => exact .sd hDU q1 q2 q3 q4 (q5.less fun a ha => List.mem_append_right _ ha)
theorem Ok.adopt {h : Heap} {Dd : Addr} (ok : Ok S f ⟨[Dd] ++ U, M, lk⟩ h) (hg : f.g₀.objs.size ≤ Dd) : Ok S f ⟨[Dd] ++ U, Dd :: M, lk⟩ h := by
  refine { ok with mU := fun a ha => ?_, mNew := fun a ha => ?_, locM := List.mem_cons_of_mem _ ok.locM, cells := fun z c e => ?_, vars := fun z l e => ?_ }
  · rcases List.mem_cons.mp ha with rfl | ha
    · simp
    · exact ok.mU a ha
  · rcases List.mem_cons.mp ha with rfl | ha
    · exact hg
    · exact ok.mNew a ha
  · obtain ⟨a, b⟩ := ok.cells z c e; exact ⟨List.mem_cons_of_mem _ a, b⟩
  · obtain ⟨v, a, b⟩ := ok.vars z l e
    refine ⟨v, a, ?_⟩
    cases l with
    | val d => exact b
    | own a d => obtain ⟨q1, q2, q3, q4⟩ := b; exact ⟨q1, List.mem_cons_of_mem _ q2, q3, q4⟩
/-- x = {..}: the frame's own dict -/
theorem Ex.dictOwn {x : Str} {p spos : Pos} {keys : List (Option Expr)} {values : List Expr} {dpos : Pos} {kes : List (Expr × Expr)} (hshape : (evalEachOpt keys f.env).zip ((evalEach values f.env).map fun v => do let x ← v; standAt dpos; pure x) = (dpairs f.env dpos kes).map fun p => (some p.1, p.2)) (h0 : kes ≠ []) (hlen : kes.length ≤ 15)
    (hk : CanStore f x) (hs : swapsWith (.Dict keys values dpos) (some (.Name x p)) spos.line f.env = pure false)
    (h : ∀ U', EvPM S f U' M lk dpos kes (fun l lk' => (l.map (·.1)).Nodup ∧ ∀ a U' M', a ∉ f.U₀ → Ex S f ⟨U', M', (x, .own a (.sd l)) :: lk'⟩ ss N R)) : Ex S f ⟨U, M, lk⟩ (.Assign [.Name x p] (.Dict keys values dpos) spos :: ss) N R := by
  intro A s Q E hA ok hn hr
  refine wpAny_execs_cons (wpAny_Assign_Name (dict_core (PP := fun l lk' => ∀ a U' M', a ∉ f.U₀ → Ex S f ⟨U', M', (x, .own a (.sd l)) :: lk'⟩ ss N R) hshape h0 hlen h hA ok fun Dd l lk' h' tk p k hn' hg ok' od => ?_) hs)
  have hDU : Dd ∉ U := fun q => by obtain ⟨o, e⟩ := ok.live _ q; rw [hn'] at e; cases e
  have hD0 : Dd ∉ f.U₀ := fun q => hDU (ok.uSub _ q).1
  have hDM : Dd ∉ M := fun q => hDU (ok.mU _ q)
  have ok1 := Ok.adopt ok' hg
  have hDL : Dd ≠ f.env.locals := fun q => hDM (q ▸ ok.locM)
  refine store_lv (S := S) (f := f) (lv := .own Dd (.sd l)) ok1 hk ⟨rfl, List.mem_cons_self, hDL, od⟩ (fun a ds' e x' ds'' e' => ?_) fun h2 t2 k2 ok2 => ?_
  · cases e
    exfalso
    obtain ⟨v, _, q1, q2, _⟩ := ok'.vars x' _ e'
    exact hDM q2
  · have s1 : Step M (Dd :: M) s.heap h2 := ⟨fun b o hb e => k2 b o (fun q => by
        rcases List.mem_cons.mp q with rfl | q
        · rw [hn'] at e; cases e
        · exact hb q) (k b o hb e), fun a ha => by
        rcases List.mem_cons.mp ha with rfl | ha
        · exact .inr hn'
        · exact .inl ha⟩
    exact p Dd _ _ hD0 A _ _ _ hA ok2 (fun y3 h3 t3 n3 s3 ok3 => hn y3 h3 t3 n3 (s1.trans s3) ok3) fun v3 d3 y3 h3 t3 q3 k3 r3 ok3 => hr v3 d3 y3 h3 t3 q3 (s1.ret k3) r3 ok3
end
end Mine

end

section
namespace Mine
open PySem PySem.W PySem.Calls PyProof.Rows

/-- a call that changes its first argument -/
noncomputable def FnB1 (S : S0) (g : Value) (k : Nat) (o : D) (args : List D) (o' d : D) : Prop :=
  ∀ (A : Around) (s : Shared) (U : List Addr) (g₀ : Heap) (B : Addr) (vs : List Value) (Q E : Value → Shared → Prop), AOk k A → S.Ok g₀ → Keep g₀ s.heap → g₀.objs.size ≤ s.heap.objs.size → (∀ a ∈ U, ∃ o, s.heap.get? a = some o) → B ∈ U → g₀.objs.size ≤ B →
    OwnAt S U s.heap B o → RdA S U s.heap vs args → (∀ v h' tk, KeepM [B] s.heap h' → Rd S U h' v d → OwnAt S U h' B o' → Q v { s with heap := h', toks := tk }) → wpAny (model S.prog S.w) A (call g (.ref B :: vs)) Q E s
/-- a call that changes its first argument and its last -/
noncomputable def FnB2 (S : S0) (g : Value) (k : Nat) (o : D) (args : List D) (o2 o' o2' d : D) : Prop :=
  ∀ (A : Around) (s : Shared) (U : List Addr) (g₀ : Heap) (B C : Addr) (vs : List Value) (Q E : Value → Shared → Prop), AOk k A → S.Ok g₀ → Keep g₀ s.heap → g₀.objs.size ≤ s.heap.objs.size → (∀ a ∈ U, ∃ o, s.heap.get? a = some o) → B ∈ U → C ∈ U → B ≠ C → g₀.objs.size ≤ B → g₀.objs.size ≤ C →
    OwnAt S U s.heap B o → OwnAt S U s.heap C o2 → RdA S U s.heap vs args → (∀ v h' tk, KeepM [B, C] s.heap h' → Rd S U h' v d → OwnAt S U h' B o' → OwnAt S U h' C o2' → Q v { s with heap := h', toks := tk }) → wpAny (model S.prog S.w) A (call g (.ref B :: (vs ++ [.ref C]))) Q E s

section
variable {S : S0}
theorem LvA.of' {U B : List Addr} {h : Heap} : ∀ {vs : List Value} {ds : List D}, RdA S U h vs ds → LvA S B U h vs (ds.map .val) := by
  intro vs ds r
  induction vs generalizing ds with
  | nil => cases r; exact .nil
  | cons v vs ih => cases r with | cons r rs => exact .cons (fun _ _ => r) (ih rs)
theorem LvA.append {U B : List Addr} {h : Heap} : ∀ {vs vs' : List Value} {ls ls' : List LV}, LvA S B U h vs ls → LvA S B U h vs' ls' → LvA S B U h (vs ++ vs') (ls ++ ls') := by
  intro vs vs' ls ls' r r'
  induction r with
  | nil => exact r'
  | cons a _ ih => exact .cons a ih
theorem zip_own {names : List Str} : ∀ {ls : List LV} {z : Str} {l : LV}, (names.zip ls).lookup z = some l → z ∈ names ∧ l ∈ ls := fun e => List.of_mem_zip (lookup_mem e)
theorem FnB1.run {a : Addr} {oc : Value} {od : Option Addr} {osl : Array (Option Value)} {name q : Str} {params : Arguments} {body : List Stmt} {sc : Scope} {dV kV doc pm cd ct : Value} {an : Option Addr} {n1 : Str} {names : List Str} {k : Nat} {o o' d : D} {ds : List D}
    (hat : S.K.lookup a = some ⟨oc, od, .func (fnX name q params body sc [] dV kV doc pm an cd ct), osl⟩) (hc : defCheck S.K (fnX name q params body sc [] dV kV doc pm an cd ct) (n1 :: names) = true)
    (bind : ∀ (s : Shared) (vs : List Value), S.K.In s.heap → vs.length = (n1 :: names).length → BindsTo s (fnX name q params body sc [] dV kV doc pm an cd ct) ⟨vs, []⟩ ((n1 :: names).zip vs)) (hn : names.length = ds.length)
    (h : ∀ L g₀ U₀ U M B, Ex S { env := envF sc q cd L a, g₀ := g₀, U₀ := U₀, k := k, bor := true } ⟨U, M, (n1 :: names).zip (.own B o :: ds.map .val)⟩ body (fun _ => False) (fun d' y' => d' = d ∧ y'.look.lookup n1 = some (.own B o'))) : FnB1 S (.ref a) (k + 1) o ds o' d := by
  intro A s U g₀ B vs Q E hA top kg hsz live hBU hBg od' r hq
  have hd := DefOk.of hat rfl hc bind
  have hnd := hd.nodup
  refine enter (B := [B]) (bor := true) (lvs := .own B o :: ds.map .val) (R := fun d' y' => d' = d ∧ y'.look.lookup n1 = some (.own B o')) hd hA top kg hsz live (fun e => nomatch e) (fun b hb => by rw [List.mem_singleton.mp hb]; exact ⟨hBU, hBg⟩)
    (.cons (fun L hL => ⟨rfl, List.mem_singleton.mpr rfl, hL B (List.mem_singleton.mpr rfl), od'⟩) (LvA.of' r)) (by simp [hn]) (fun x x' b d1 d2 e1 e2 => ?_) (fun L => h L g₀ U _ _ B) fun L v d' y' h' tk e km rd okr => ?_
  · have key : ∀ {x d1}, ((n1 :: names).zip (LV.own B o :: ds.map LV.val)).lookup x = some (.own b d1) → x = n1 := fun {x d1} e => by
      rw [List.zip_cons_cons] at e
      by_cases hx : x = n1
      · exact hx
      · rw [lookup_cons_ne hx] at e; exact absurd e zip_val
    rw [key e1, key e2]
  · obtain ⟨rfl, e2⟩ := e
    obtain ⟨v', _, q1, q2, q3, q4⟩ := okr.vars n1 _ e2
    exact hq v h' tk km rd (q4.less fun x hx => (okr.uSub x hx).1)
theorem FnB2.run {a : Addr} {oc : Value} {od : Option Addr} {osl : Array (Option Value)} {name q : Str} {params : Arguments} {body : List Stmt} {sc : Scope} {dV kV doc pm cd ct : Value} {an : Option Addr} {n1 n2 n3 : Str} {k : Nat} {o o' o2 o2' d d1 : D}
    (hat : S.K.lookup a = some ⟨oc, od, .func (fnX name q params body sc [] dV kV doc pm an cd ct), osl⟩) (hc : defCheck S.K (fnX name q params body sc [] dV kV doc pm an cd ct) [n1, n2, n3] = true)
    (bind : ∀ (s : Shared) (vs : List Value), S.K.In s.heap → vs.length = [n1, n2, n3].length → BindsTo s (fnX name q params body sc [] dV kV doc pm an cd ct) ⟨vs, []⟩ ([n1, n2, n3].zip vs))
    (h : ∀ L g₀ U₀ U M B C, Ex S { env := envF sc q cd L a, g₀ := g₀, U₀ := U₀, k := k, bor := true } ⟨U, M, [(n1, .own B o), (n2, .val d1), (n3, .own C o2)]⟩ body (fun _ => False) (fun d' y' => d' = d ∧ y'.look.lookup n1 = some (.own B o') ∧ y'.look.lookup n3 = some (.own C o2'))) : FnB2 S (.ref a) (k + 1) o [d1] o2 o' o2' d := by
  intro A s U g₀ B C vs Q E hA top kg hsz live hBU hCU hBC hBg hCg od1 od2 r hq
  have hd := DefOk.of hat rfl hc bind
  refine enter (B := [B, C]) (bor := true) (lvs := [.own B o, .val d1, .own C o2]) (R := fun d' y' => d' = d ∧ y'.look.lookup n1 = some (.own B o') ∧ y'.look.lookup n3 = some (.own C o2')) hd hA top kg hsz live (fun e => nomatch e) (fun b hb => ?_)
    (.cons (fun L hL => ⟨rfl, by simp, hL B (by simp), od1⟩) (LvA.append (LvA.of' (B := [B, C]) r) (.cons (fun L hL => ⟨rfl, by simp, hL C (by simp), od2⟩) .nil))) rfl (fun x x' b u1 u2 e1 e2 => ?_) (fun L => h L g₀ U _ _ B C) fun L v d' y' h' tk e km rd okr => ?_
  · simp only [List.mem_cons, List.not_mem_nil, or_false] at hb
    rcases hb with rfl | rfl
    · exact ⟨hBU, hBg⟩
    · exact ⟨hCU, hCg⟩
  · have key : ∀ {x b d'}, ([n1, n2, n3].zip [LV.own B o, LV.val d1, LV.own C o2]).lookup x = some (.own b d') → (x = n1 ∧ b = B) ∨ (x = n3 ∧ b = C) := fun {x b d'} e => by
      simp only [List.zip_cons_cons, List.zip_nil_right] at e
      by_cases h1 : x = n1
      · subst h1; rw [lookup_cons_eq] at e; cases e; exact .inl ⟨rfl, rfl⟩
      · rw [lookup_cons_ne h1] at e
        by_cases h2 : x = n2
        · subst h2; rw [lookup_cons_eq] at e; cases e
        · rw [lookup_cons_ne h2] at e
          by_cases h3 : x = n3
          · subst h3; rw [lookup_cons_eq] at e; cases e; exact .inr ⟨rfl, rfl⟩
          · rw [lookup_cons_ne h3] at e; simp at e
    rcases key e1 with ⟨a1, a2⟩ | ⟨a1, a2⟩ <;> rcases key e2 with ⟨b1, b2⟩ | ⟨b1, b2⟩
    · rw [a1, b1]
    · exact absurd (a2.symm.trans b2) hBC
    · exact absurd (b2.symm.trans a2) hBC
    · rw [a1, b1]
  · obtain ⟨rfl, e2, e3⟩ := e
    obtain ⟨v', _, q1, q2, q3, q4⟩ := okr.vars n1 _ e2
    obtain ⟨v'', _, p1, p2, p3, p4⟩ := okr.vars n3 _ e3
    exact hq v h' tk km rd (q4.less fun x hx => (okr.uSub x hx).1) (p4.less fun x hx => (okr.uSub x hx).1)
end

section
variable {S : S0} {f : Fm} {U M : List Addr} {lk : List (Str × LV)} {P : D → List (Str × LV) → Prop}
theorem EvM.call1 {x z : Str} {p p2 pos : Pos} {e : Expr} {a B : Addr} {o o' d d1 : D} (hl : lk.lookup z = some (.own B o)) (he1 : Ev S f ⟨U, M, lk⟩ e d1) (hx : f.env.kindOf x = some .globalImplicit) (hv : nsIn S.K mainGlobals x = some (some (.ref a))) (hkp : keepIn S.K (.ref a) = true) (hf : FnB1 S (.ref a) f.k o [d1] o' d)
    (he : starEach [.Name z p2, e] f.env = [(false, eval (.Name z p2) f.env), (false, eval e f.env)]) (he' : starEach [e] f.env = [(false, eval e f.env)]) (hp : ∀ pos, (backTo pos (starEach [e] f.env)).any (·.1) = false) (hd : (x == ("__debug__" : Str)) = false) (hd2 : (z == ("__debug__" : Str)) = false) (hP : P d ((z, .own B o') :: lk)) :
    EvM S f U M lk (.Call (.Name x p) [.Name z p2, e] [] pos) P := by
  intro A s Q E hA ok hq
  obtain ⟨v0, hv0, rfl, aM, aL, og⟩ := ok.vars z _ hl
  refine Call_ (Name_function_global ok.kind hx (loadGlobal_global (env := f.env) (by rw [ok.glob]; exact ok.top.g) (mg_of ok.top.X ok.top.g hv) ?_) hd)
  refine callWith_K (h₀ := s.heap) ok.top.X hkp ?_ (by rw [he, he']) (hp _)
  rw [he]
  show wpAny _ A (spliced ((false, eval (.Name z p2) f.env) :: backTo pos [(false, eval e f.env)])) _ E s
  unfold spliced
  refine wpAny_bind (load_var ok.kind hv0 hd2 ?_)
  simp only [Bool.false_eq_true, if_false]
  refine wpAny_bind (wpAny_pure (wpAny_bind (wpAny_holding ?_)))
  have hL := EvL.cons he1 (EvL.nil (S := S) (f := f) (y := ⟨U, M, lk⟩)) (by rw [he']; rfl) pos A s
  rw [he'] at hL
  refine hL _ _ hA ok fun vs h1 t1 k1 r1 => wpAny_pure ⟨ok.top.X.keeps k1, ?_⟩
  have ok1 := ok.keeps k1
  refine hf A _ U f.g₀ B vs _ _ hA ok.top0 (ok.keep.trans k1) (size_le_g ok1) ok1.live (ok.mU _ aM) (ok.mNew _ aM) (og.keep k1) r1 fun v h2 t2 km rd od => ?_
  exact hq v d _ h2 t2 hP (fun b oo hb eb => km b oo (fun q => hb (by rw [List.mem_singleton.mp q]; exact aM)) (k1 b oo eb)) (ok1.change1 hl km od) rd
theorem EvM.call2 {x z t : Str} {p p2 p3 pos : Pos} {e : Expr} {a B C : Addr} {o o' o2 o2' d d1 : D} (hzt : z ≠ t) (hl : lk.lookup z = some (.own B o)) (hl2 : lk.lookup t = some (.own C o2)) (he1 : Ev S f ⟨U, M, lk⟩ e d1) (hx : f.env.kindOf x = some .globalImplicit) (hv : nsIn S.K mainGlobals x = some (some (.ref a))) (hkp : keepIn S.K (.ref a) = true) (hf : FnB2 S (.ref a) f.k o [d1] o2 o' o2' d)
    (he : starEach [.Name z p2, e, .Name t p3] f.env = [(false, eval (.Name z p2) f.env), (false, eval e f.env), (false, eval (.Name t p3) f.env)]) (he' : starEach [e, .Name t p3] f.env = [(false, eval e f.env), (false, eval (.Name t p3) f.env)]) (hp : ∀ pos, (backTo pos (starEach [e, .Name t p3] f.env)).any (·.1) = false) (hd : (x == ("__debug__" : Str)) = false) (hd2 : (z == ("__debug__" : Str)) = false) (hd3 : (t == ("__debug__" : Str)) = false) (hP : P d ((z, .own B o') :: (t, .own C o2') :: lk)) :
    EvM S f U M lk (.Call (.Name x p) [.Name z p2, e, .Name t p3] [] pos) P := by
  intro A s Q E hA ok hq
  obtain ⟨v0, hv0, rfl, aM, aL, og⟩ := ok.vars z _ hl
  obtain ⟨v1, hv1, rfl, cM, cL, oc⟩ := ok.vars t _ hl2
  have hBC : B ≠ C := fun q => hzt (ok.apart z t B o o2 hl (q ▸ hl2))
  refine Call_ (Name_function_global ok.kind hx (loadGlobal_global (env := f.env) (by rw [ok.glob]; exact ok.top.g) (mg_of ok.top.X ok.top.g hv) ?_) hd)
  refine callWith_K (h₀ := s.heap) ok.top.X hkp ?_ (by rw [he, he']) (hp _)
  rw [he]
  show wpAny _ A (spliced ((false, eval (.Name z p2) f.env) :: backTo pos [(false, eval e f.env), (false, eval (.Name t p3) f.env)])) _ E s
  unfold spliced
  refine wpAny_bind (load_var ok.kind hv0 hd2 ?_)
  simp only [Bool.false_eq_true, if_false]
  refine wpAny_bind (wpAny_pure (wpAny_bind (wpAny_holding ?_)))
  show wpAny _ A (spliced [(false, eval e f.env), (false, eval (.Name t p3) f.env)]) _ E s
  unfold spliced
  refine wpAny_bind (he1 A s _ _ hA ok fun v1 h1 t1 k1 r1 => ?_)
  have ok1 := ok.keeps k1
  simp only [Bool.false_eq_true, if_false]
  refine wpAny_bind (wpAny_pure (wpAny_bind (wpAny_holding ?_)))
  unfold spliced
  refine wpAny_bind (load_var ok1.kind (hv1.keep k1) hd3 ?_)
  simp only [Bool.false_eq_true, if_false]
  refine wpAny_bind (wpAny_pure (wpAny_bind (wpAny_holding (spliced_nil (wpAny_pure (wpAny_pure (wpAny_pure ⟨ok.top.X.keeps k1, ?_⟩)))))))
  refine hf A _ U f.g₀ B C [v1] _ _ hA ok.top0 (ok.keep.trans k1) (size_le_g ok1) ok1.live (ok.mU _ aM) (ok.mU _ cM) hBC (ok.mNew _ aM) (ok.mNew _ cM) (og.keep k1) (oc.keep k1) (.cons r1 .nil) fun v h2 t2 km rd od od2 => ?_
  refine hq v d _ h2 t2 hP (fun b oo hb eb => km b oo (fun q => ?_) (k1 b oo eb)) (ok1.change2 hzt hl hl2 km od od2) rd
  simp only [List.mem_cons, List.not_mem_nil, or_false] at q
  rcases q with rfl | rfl
  · exact hb aM
  · exact hb cM
end
end Mine

end

section
namespace Mine
open PySem PySem.W PySem.Calls PyProof.Rows
open Builtin

theorem noFill_tup_mul : fillsNumberSlot (.type "tuple") "mul" = pure false :=
  PySem.fillsNumberSlot_seq (id := "tuple.__mul__") (r := some (.builtin "tuple.__rmul__")) PySem.F.slot_tuple_mul.lookup (by decide +kernel) PySem.F.slot_tuple_rmul.lookup (by decide +kernel)
theorem repeat_tup : seqRepeat? (.type "tuple") = pure (some (.builtin "tuple.__mul__")) := by
  unfold seqRepeat?
  rw [PySem.seqSlot_of (T := "tuple") (name := "__mul__") (id := "tuple.__mul__") PySem.F.slot_tuple_mul.lookup (by decide +kernel), PySem.seqSlot_of (T := "tuple") (name := "__rmul__") (id := "tuple.__rmul__") PySem.F.slot_tuple_rmul.lookup (by decide +kernel)]
  rfl
theorem int_rmul_tup (a : Int) (t : Tok) (l : Addr) (items : Array Value) (n : Nat) (d : Option Addr) (sl : Array (Option Value)) :
    Meets (Builtin.«int.__rmul__» ⟨[.int a t, .ref l], []⟩) (fun _ R s => s.heap.get? l = some { cls := .type "tuple", dict := d, data := .seq items n, slots := sl } ∧ R (.ok (.ret Value.notImplemented)) s) :=
  .of_wp fun prog w A R s h => by obtain ⟨hp, g, d, tk, os⟩ := s; obtain ⟨hl, h⟩ := h; wp_walk; exact ⟨_, rfl, h⟩
theorem tup_mul1 (l : Addr) (items : Array Value) (n : Nat) (d : Option Addr) (sl : Array (Option Value)) (u : Tok) :
    Meets (Builtin.«tuple.__mul__» ⟨[.ref l, .int 1 u], []⟩) (fun _ R s => s.heap.get? l = some { cls := .type "tuple", dict := d, data := .seq items n, slots := sl } ∧ R (.ok (.ret (.ref l))) s) :=
  .of_wp fun prog w A R s h => by
    obtain ⟨hp, g, d, tk, os⟩ := s; obtain ⟨hl, h⟩ := h
    wp_walk
    exact ⟨_, rfl, h⟩
theorem tup_mul0 (l : Addr) (items : Array Value) (n : Nat) (d : Option Addr) (sl : Array (Option Value)) (u : Tok) (hne : items.isEmpty = false) :
    Meets (Builtin.«tuple.__mul__» ⟨[.ref l, .int 0 u], []⟩) (fun _ R s => s.heap.get? l = some { cls := .type "tuple", dict := d, data := .seq items n, slots := sl } ∧ R (.ok (.ret (.ref s.heap.objs.size))) { s with heap := s.heap.push { cls := .type "tuple", data := .seq #[] } }) :=
  .of_wp fun prog w A R s h => by
    obtain ⟨hp, g, d, tk, os⟩ := s; obtain ⟨hl, h⟩ := h
    wp_walk
    exact ⟨_, rfl, h⟩

theorem BinR.mulT {S : S0} {l : List D} {i : Int} (hi : i = 0 ∨ i = 1) (hne : l ≠ []) : BinR S .Mult (.tup l) (.int i) (.tup (if i = 0 then [] else l)) := by
  intro U A s v1 v2 Q E _ _ live r1 r2 h
  replace r2 := r2.inv
  cases r2
  replace r1 := r1.inv
  cases r1 with
  | @tup a o vs n ha ho hc hd r =>
    obtain ⟨cls, dd, data, sl⟩ := o
    simp only at hc hd
    subst hc hd
    have ne : vs.isEmpty = false := by
      cases e : vs.isEmpty with
      | false => rfl
      | true =>
        have : vs = #[] := by simpa using e
        subst this
        have := r.length
        exact absurd (List.eq_nil_of_length_eq_zero (by simpa using this.symm)) hne
    refine wpAny_binaryOp_repeat_ref (T := "tuple") (U := "int") (by decide) ⟨_, ho, rfl⟩ (fun s' => typeIs_int s' i _) noFill_tup_mul PySem.F.fills_int_mul PySem.F.slot_int_rmul repeat_tup PySem.F.slot_int_index.lookup
      (call_meets PySem.F.slot_int_rmul (typeIs_int s i _) PySem.F.entry_int_rmul (PySem.F.args_int_rmul_2 _ _) (int_rmul_tup i _ a vs n dd sl) ⟨ho, rfl, ⟨_, ho, rfl⟩, ?_⟩)
    rcases hi with rfl | rfl
    · refine call_meets PySem.F.slot_tuple_mul ⟨_, ho, rfl⟩ PySem.F.entry_tuple_mul (PySem.F.args_tuple_mul_2 _ _) (tup_mul0 a vs n dd sl _ ne) ⟨ho, ?_⟩
      exact h _ _ s.toks (Keep.push _ _) (.tup (fresh_notin live) (Heap.get?_push_size _ rfl) rfl rfl .nil)
    · refine call_meets PySem.F.slot_tuple_mul ⟨_, ho, rfl⟩ PySem.F.entry_tuple_mul (PySem.F.args_tuple_mul_2 _ _) (tup_mul1 a vs n dd sl _) ⟨ho, ?_⟩
      exact h _ s.heap s.toks (Keep.refl _) (.tup ha ho rfl rfl r)

section
variable {S : S0} {f : Fm} {U M : List Addr} {lk lk' : List (Str × LV)} {N : Dy → Prop} {R : D → Dy → Prop} {ss : List Stmt}
/-- x[i] = e, x the frame's own dict, the key new, e a display -/
theorem Ex.setIntM {x : Str} {i e : Expr} {q ipos pos : Pos} {a : Addr} {l : List (Int × D)} {k : Int} (hdb : (x == ("__debug__" : Str)) = false) (hs : swapsWith e (some (.Subscript (.Name x q) i ipos)) pos.line f.env = pure false) (hk : k ∉ l.map (·.1)) (hz : l.length ≤ 1000)
    (he : EvM S f U M lk e (fun d lk1 => lk1.lookup x = some (.own a (.idt l)) ∧ Ev S f ⟨U, M, lk1⟩ i (.int k) ∧ Ex S f ⟨U, M, (x, .own a (.idt (l ++ [(k, d)]))) :: lk1⟩ ss N R)) : Ex S f ⟨U, M, lk⟩ (.Assign [.Subscript (.Name x q) i ipos] e pos :: ss) N R := by
  intro A s Q E hA ok0 hn hr
  refine wpAny_execs_cons (wpAny_Assign_Subscript (he A s _ _ hA ok0 fun v1 d lk1 g1 t1 p1 k1 ok1 r1 => ?_) hs)
  obtain ⟨hx, hi, r⟩ := p1
  obtain ⟨v, hv, rfl, aM, aL, og⟩ := ok1.vars x _ hx
  refine load_var (s := { s with heap := g1, toks := t1 }) ok1.kind hv hdb (hi A _ _ _ hA ok1 fun v2 g2 t2 k2 r2 => ?_)
  have ok2 := ok1.keeps k2
  replace r2 := r2.inv
  cases r2
  cases og.keep k2 with
  | @idt kvs _ ds q1 g e1 e2 rd =>
    subst e2
    have hlen : kvs.length = l.length := by have := congrArg List.length e1; simpa using this.symm
    refine wpAny_setItem_pairs (knd := intKind S.prog S.w) (intKind_is S.prog S.w k _) g (fun h3 g3 s3 => ?_) (by rw [sizeLine_eq]; omega)
    rw [stored_fresh (by rw [← e1]; exact hk)] at g3
    have km : KeepM [a] g2 h3 := KeepM.of_same (List.mem_singleton.mpr rfl) s3
    have aU := ok1.mU a aM
    have ok3 := ok2.change1 hx km (.idt (l := l ++ [(k, d)]) q1 g3 (by rw [List.map_append, List.map_append, e1]; rfl) rfl (by rw [List.map_append, List.map_append]; exact (rd.same aU s3).append (.cons ((r1.keep k2).same aU s3) .nil)))
    have s1 : Step M M s.heap h3 := ⟨fun b o hb e => km b o (fun q => hb (by rw [List.mem_singleton.mp q]; exact aM)) (k2 b o (k1 b o hb e)), fun _ h => .inl h⟩
    exact r A _ _ _ hA ok3 (fun y3 h3 t3 n3 s3 ok3 => hn y3 h3 t3 n3 (s1.trans s3) ok3) fun v3 d3 y3 h3 t3 q3 k3 r3 ok3 => hr v3 d3 y3 h3 t3 q3 (s1.ret k3) r3 ok3
end
theorem BinR.addT1 {S : S0} {l1 l2 : List D} (hz : l1.length + l2.length ≤ 1000) (h1 : l1 ≠ []) : BinR S .Add (.tup l1) (.tup l2) (.tup (l1 ++ l2)) := by
  cases l2 with
  | cons x l2 => exact BinR.addT hz h1 (by simp)
  | nil =>
    rw [List.append_nil]
    intro U A s v1 v2 Q E _ _ live r1 r2 h
    replace r1 := r1.inv
    cases r1 with
    | @tup a o vs n ha ho hc hd r =>
      replace r2 := r2.inv
      cases r2 with
      | @tup b o2 vs2 n2 hb ho2 hc2 hd2 r' =>
        obtain ⟨cls, dd, data, sl⟩ := o
        obtain ⟨cls2, dd2, data2, sl2⟩ := o2
        simp only at hc hd hc2 hd2
        subst hc hd hc2 hd2
        have e1 := r.length
        have e2 := r'.length
        rw [Array.length_toList] at e1 e2
        have n1 : vs.isEmpty ≠ true := fun e => h1 (List.eq_nil_of_length_eq_zero (by rw [← e1]; simpa using e))
        have n2' : vs2.isEmpty = true := by simpa using e2
        refine concat_meets ⟨_, ho, rfl⟩ ⟨_, ho2, rfl⟩ noFill_tuple_add seq_tuple_add PySem.F.slot_tuple_add PySem.F.entry_tuple_add (PySem.F.args_tuple_add_2 _ _) (tuple_addW1 a b vs vs2 n n2 dd dd2 sl sl2 n1 n2') ⟨ho, ho2, ?_⟩
        exact h _ s.heap s.toks (Keep.refl _) (.tup ha ho rfl rfl r)
noncomputable def kesOf : List (Option Expr) → List Expr → List (Expr × Expr)
  | some k :: ks, v :: vs => (k, v) :: kesOf ks vs
  | _, _ => []
section
variable {S : S0} {f : Fm} {U M : List Addr} {lk lk' : List (Str × LV)} {N : Dy → Prop} {R : D → Dy → Prop} {ss : List Stmt} {P : D → List (Str × LV) → Prop}
theorem EvM.dictK {keys : List (Option Expr)} {values : List Expr} {dpos : Pos} (hshape : (evalEachOpt keys f.env).zip ((evalEach values f.env).map fun v => do let x ← v; standAt dpos; pure x) = (dpairs f.env dpos (kesOf keys values)).map fun p => (some p.1, p.2)) (h0 : kesOf keys values ≠ []) (hlen : (kesOf keys values).length ≤ 15)
    (h : ∀ U', EvPM S f U' M lk dpos (kesOf keys values) (fun l lk' => (l.map (·.1)).Nodup ∧ P (.sd l) lk')) : EvM S f U M lk (.Dict keys values dpos) P := EvM.dict hshape h0 hlen h
theorem Ex.dictOwnK {x : Str} {p spos : Pos} {keys : List (Option Expr)} {values : List Expr} {dpos : Pos} (hshape : (evalEachOpt keys f.env).zip ((evalEach values f.env).map fun v => do let x ← v; standAt dpos; pure x) = (dpairs f.env dpos (kesOf keys values)).map fun p => (some p.1, p.2)) (h0 : kesOf keys values ≠ []) (hlen : (kesOf keys values).length ≤ 15)
    (hk : CanStore f x) (hs : swapsWith (.Dict keys values dpos) (some (.Name x p)) spos.line f.env = pure false)
    (h : ∀ U', EvPM S f U' M lk dpos (kesOf keys values) (fun l lk' => (l.map (·.1)).Nodup ∧ ∀ a U' M', a ∉ f.U₀ → Ex S f ⟨U', M', (x, .own a (.sd l)) :: lk'⟩ ss N R)) : Ex S f ⟨U, M, lk⟩ (.Assign [.Name x p] (.Dict keys values dpos) spos :: ss) N R := Ex.dictOwn hshape h0 hlen hk hs h
/-- an own object is changed no more, the others stay -/
theorem Ok.freezeO {h : Heap} {x : Str} {a : Addr} {d : D} {L : List (Str × LV)} (ha0 : a ∉ f.U₀) (ok : Ok S f ⟨U, M, lk⟩ h) (hx : lk.lookup x = some (.own a d)) (hd1 : ∀ l, d ≠ .tup l) (hd2 : d ≠ .idt []) (hL : Sub L lk) (hLx : L.lookup x = none) :
    Ok S f { U := U.filter (· ≠ a), M := M.filter (· ≠ a), look := (x, .val d) :: L } h := by
  obtain ⟨v, hv, rfl, aM, aL, og⟩ := ok.vars x _ hx
  have hsub : ∀ b ∈ U.filter (· ≠ a), b ∈ U := fun b hb => (List.mem_filter.mp hb).1
  have hna : a ∉ U.filter (· ≠ a) := fun q => by simpa using (List.mem_filter.mp q).2
  have back : ∀ {x1 b d1}, List.lookup x1 ((x, LV.val d) :: L) = some (.own b d1) → lk.lookup x1 = some (.own b d1) ∧ x1 ≠ x := by
    intro x1 b d1 e
    by_cases h1 : x1 = x
    · subst h1; rw [lookup_cons_eq] at e; cases e
    · rw [lookup_cons_ne h1] at e; exact ⟨hL _ _ e, h1⟩
  refine { ok with live := fun b hb => ok.live b (hsub b hb), mU := fun b hb => ?_, mNew := fun b hb => ok.mNew b (List.mem_filter.mp hb).1, uSub := fun b hb => ?_, locM := ?_, cells := fun z c e => ?_, vars := fun z l e => ?_, apart := fun x1 x2 b d1 d2 e1 e2 => ok.apart x1 x2 b d1 d2 (back e1).1 (back e2).1 }
  · obtain ⟨h1, h2⟩ := List.mem_filter.mp hb
    exact List.mem_filter.mpr ⟨ok.mU b h1, h2⟩
  · exact ⟨List.mem_filter.mpr ⟨(ok.uSub b hb).1, by simpa using fun q : b = a => ha0 (q ▸ hb)⟩, (ok.uSub b hb).2⟩
  · exact List.mem_filter.mpr ⟨ok.locM, by simpa using Ne.symm aL⟩
  · obtain ⟨h1, v, h2⟩ := ok.cells z c e
    exact ⟨List.mem_filter.mpr ⟨h1, by simpa using Ne.symm (og.ne_cell h2)⟩, v, h2⟩
  · by_cases hz : z = x
    · subst hz
      rw [lookup_cons_eq] at e
      cases e
      refine ⟨_, hv, ?_⟩
      cases og with
      | lst g r => exact .lst hna g ⟨rfl, rfl⟩ rfl (RdA.less r hsub)
      | sd q1 q2 q3 q4 q5 => exact .sd hna q1 q2 q3 q4 (q5.less hsub)
      | @idt kvs l ds q1 q2 q3 q4 q5 => exact .idt hna q1 (fun e => hd2 (by rw [e])) q2 q3 q4 (q5.less hsub)
      | box g r => exact absurd rfl (hd1 _)
    · rw [lookup_cons_ne hz] at e
      obtain ⟨v', h1, h2⟩ := ok.vars z _ (hL _ _ e)
      refine ⟨v', h1, ?_⟩
      cases l with
      | val d => exact Rd.less h2 hsub
      | own b d' =>
        obtain ⟨q1, q2, q3, q4⟩ := h2
        exact ⟨q1, List.mem_filter.mpr ⟨q2, by simpa using fun q : b = a => hz (ok.apart z x a d' d (q ▸ hL _ _ e) hx)⟩, q3, q4.less hsub⟩
theorem Ex.frzO {x : Str} {a : Addr} {d : D} (L : List (Str × LV)) (hx : lk.lookup x = some (.own a d)) (ha0 : a ∉ f.U₀) (hd1 : ∀ l, d ≠ .tup l) (hd2 : d ≠ .idt []) (hL : Sub L lk) (hLx : L.lookup x = none) (r : ∀ U' M', Ex S f ⟨U', M', (x, .val d) :: L⟩ ss N R) : Ex S f ⟨U, M, lk⟩ ss N R := by
  intro A s Q E hA ok hn hq
  have sub : ∀ b ∈ M.filter (· ≠ a), b ∈ M := fun b hb => (List.mem_filter.mp hb).1
  refine r _ _ A s Q E hA (ok.freezeO ha0 hx hd1 hd2 hL hLx) (fun y' h' tk n st ok' => hn y' h' tk n ⟨fun b o hb e => st.1 b o (fun q => hb (sub b q)) e, fun b hb => (st.2 b hb).imp (sub b) id⟩ ok') fun v d y1 h' tk r k rd ok1 => hq v d y1 h' tk r (fun b o hb e => k b o (fun q => hb (sub b q)) e) rd ok1
end
end Mine

end

section
namespace Mine
open PySem PySem.W PySem.Calls PyProof.Rows

theorem pick_upto (items : Array Value) (b : Nat) : slicePick items none (some (b : Int)) none = (items.toList.take b).toArray := by
  by_cases h : b ≤ items.size
  · exact slicePick_upto items b h
  · have e : slicePick items none (some (b : Int)) none = slicePick items none (some ((items.size : Nat) : Int)) none := by
      unfold slicePick
      have : sliceBounds none (some (b : Int)) none items.size = sliceBounds none (some ((items.size : Nat) : Int)) none items.size := by
        simp only [sliceBounds, Option.getD_none]
        have h1 : ¬ ((b : Int) < 0) := by omega
        have h2 : ¬ (((items.size : Nat) : Int) < 0) := by omega
        simp [h1]
        omega
      rw [this]
    rw [e, slicePick_upto items items.size (Nat.le_refl _)]
    rw [List.take_of_length_le (by simp), List.take_of_length_le (by simp; omega)]

section
variable {S : S0} {f : Fm} {y : Dy} {U M : List Addr} {lk : List (Str × LV)} {N : Dy → Prop} {R : D → Dy → Prop} {ss : List Stmt} {P : D → List (Str × LV) → Prop}
theorem Ev.sliceTo {e u : Expr} {p pos : Pos} {ds : List D} {b : Nat} (he : Ev S f y e (.lst ds)) (hu : Ev S f y u (.int b)) (hz : ds.length ≤ 1000) (hs : ∀ o k, subscripted (.Slice none (some u) none p) false o k = operate [k, o] (getItem o k)) (ht : ∀ o r, letTemporaryGo e o r = pure ()) :
    Ev S f y (.Subscript e (.Slice none (some u) none p) pos) (.lst (ds.take b)) := by
  intro A s Q E hA ok hq
  refine Subscript_ (he A s _ _ hA ok fun v1 g1 t1 k1 r1 => ?_)
  have ok1 := ok.keeps k1
  refine wpAny_Slice (wpAny_pure (hu A _ _ _ hA ok1 fun v2 g2 t2 k2 r2 => wpAny_pure ?_))
  have ok2 := ok1.keeps k2
  rcases r2 with _ | _ | ⟨_, tt⟩
  cases r1.keep k2 with
  | @lst a o vs n ds ha ho hc hd r =>
    obtain ⟨hc, hcd⟩ := hc
    have hl : g2.IsList a vs := ⟨o, ho, hc, n, hd⟩
    have hlen := r.length
    rw [Array.length_toList] at hlen
    refine subscriptTail_ops (Heap.IsList.typeIs (s := { s with heap := g2.push _, toks := t2 }) (hl.push _)) list_getitem_lookup (wpAny_getItem_list_slice (hl.push _) (Heap.IsSliceOf.new ..) .none (.int _ _) .none (by simp) ?_ (by rw [sizeLine_eq]; omega)) (hs _ _) (ht _)
    rw [pick_upto]
    have k3 := Keep.push g2 { cls := .type "slice", data := .fields #[.none, .int b tt, .none] }
    have ok3 := ok2.keeps k3
    refine hq _ _ t2 (((k1.trans k2).trans k3).trans (Keep.push _ _)) (.lst (fresh_notin ok3.live) (Heap.get?_push_size _ rfl) ⟨rfl, rfl⟩ rfl ?_)
    rw [List.toList_toArray]
    exact ((r.take b).keep k3).keep (Keep.push _ _)
theorem Ev.sliceFrom {e u : Expr} {p pos : Pos} {ds : List D} {b : Nat} (he : Ev S f y e (.lst ds)) (hu : Ev S f y u (.int b)) (hz : ds.length ≤ 1000) (hb : b ≤ ds.length) (hs : ∀ o k, subscripted (.Slice (some u) none none p) false o k = operate [k, o] (getItem o k)) (ht : ∀ o r, letTemporaryGo e o r = pure ()) :
    Ev S f y (.Subscript e (.Slice (some u) none none p) pos) (.lst (ds.drop b)) := by
  intro A s Q E hA ok hq
  refine Subscript_ (he A s _ _ hA ok fun v1 g1 t1 k1 r1 => ?_)
  have ok1 := ok.keeps k1
  refine wpAny_Slice (hu A _ _ _ hA ok1 fun v2 g2 t2 k2 r2 => wpAny_pure (wpAny_pure ?_))
  have ok2 := ok1.keeps k2
  rcases r2 with _ | _ | ⟨_, tt⟩
  cases r1.keep k2 with
  | @lst a o vs n ds ha ho hc hd r =>
    obtain ⟨hc, hcd⟩ := hc
    have hl : g2.IsList a vs := ⟨o, ho, hc, n, hd⟩
    have hlen := r.length
    rw [Array.length_toList] at hlen
    refine subscriptTail_ops (Heap.IsList.typeIs (s := { s with heap := g2.push _, toks := t2 }) (hl.push _)) list_getitem_lookup (wpAny_getItem_list_slice (hl.push _) (Heap.IsSliceOf.new ..) (.int _ _) .none .none (by simp) ?_ (by rw [sizeLine_eq]; omega)) (hs _ _) (ht _)
    rw [slicePick_from vs b (by omega)]
    have k3 := Keep.push g2 { cls := .type "slice", data := .fields #[.int b tt, .none, .none] }
    have ok3 := ok2.keeps k3
    refine hq _ _ t2 (((k1.trans k2).trans k3).trans (Keep.push _ _)) (.lst (fresh_notin ok3.live) (Heap.get?_push_size _ rfl) ⟨rfl, rfl⟩ rfl ?_)
    rw [List.toList_toArray]
    exact ((r.drop b).keep k3).keep (Keep.push _ _)
/-- list(x) -/
theorem FnC.listL {k : Nat} {l : List D} (hz : l.length ≤ 1000) : FnC S (.type "list") k [.lst l] (.lst l) := by
  intro A s U vs Q E hA top live r hq
  replace r := r.inv
  cases r with
  | cons r1 r2 =>
    replace r2 := r2.inv
    cases r2
    replace r1 := r1.inv
    cases r1 with
    | @lst a o ws n ha ho hc hd r =>
      obtain ⟨hc, hcd⟩ := hc
      have hlen := r.length
      rw [Array.length_toList] at hlen
      refine call_list_seq a (.inl rfl) ho hc hd (fun h' c' k' e' => ?_) (by rw [sizeLine_eq]; omega)
      exact hq _ h' s.toks k' (.lst (fresh_notin live) e' ⟨rfl, rfl⟩ rfl (r.keep k'))
/-- x.pop(0) -/
theorem EvM.pop0 {x : Str} {a : Addr} {d : D} {ds : List D} {p apos pos q : Pos} {k : Nat} (hx : lk.lookup x = some (.own a (.lst (d :: ds)))) (hz : ds.length ≤ 900) (hdb : (x == ("__debug__" : Str)) = false)
    (hbase : attributeBase (.Name x p) "pop" f.env (eval (.Name x p) f.env) = eval (.Name x p) f.env) (hse : starEach [.Constant (.int 0) k q] f.env = [(false, eval (.Constant (.int 0) k q) f.env)]) (hline : (apos.endLine == pos.line) = true) (hP : P d ((x, .own a (.lst ds)) :: lk)) :
    EvM S f U M lk (.Call (.Attribute (.Name x p) "pop" apos) [.Constant (.int 0) k q] [] pos) P := by
  intro A s Q E hA ok hq
  have hb : backTo pos (starEach [.Constant (.int 0) k q] f.env) = [(false, eval (.Constant (.int 0) k q) f.env)] := by rw [hse]; rfl
  obtain ⟨v, hv, rfl, aM, aL, og⟩ := ok.vars x _ hx
  obtain @⟨vs, n, _, g, r⟩ := og
  refine wpAny_Call_method (T := "list") (id := "list.pop") hbase (by rw [hb]; rfl) hline PySem.F.plainAttrs_list PySem.F.slot_list_pop PySem.F.type_list_pop ?_
  refine load_var ok.kind hv hdb ⟨⟨_, g, rfl⟩, fun b e => by cases e; exact ⟨_, g, rfl⟩, ?_⟩
  rw [hb]
  refine callWith_builtin rfl (evalArgs_plain ?_)
  unfold spliced
  refine wpAny_bind (wpAny_Constant_int ?_)
  simp only [Bool.false_eq_true, if_false]
  refine wpAny_bind (wpAny_pure (wpAny_bind (wpAny_holding (spliced_nil (wpAny_pure ?_)))))
  cases r with
  | @cons v vs _ _ r1 r2 =>
    have hlen := r2.length
    refine call_meets PySem.F.slot_list_pop ⟨_, g, rfl⟩ PySem.F.entry_list_pop (PySem.F.args_list_pop_2 _ _) (PySem.MeetsSeq.list_pop_at a (v :: vs).toArray n 0 _ 0 v (by decide) (by simp [seqIndex?]) (by simp) (by rw [sizeLine_eq]; simp; omega)) ⟨g, ?_⟩
    have s1 := Heap.SameBut.update s.heap a (Obj.mapSeq fun xs => xs.eraseIdxIfInBounds 0)
    have g1 : (s.heap.update a (Obj.mapSeq fun xs => xs.eraseIdxIfInBounds 0)).get? a = some (lobj vs (n + 1)) := by
      have := get?_update_seq (c := "list") g fun xs => xs.eraseIdxIfInBounds 0
      rw [this]
      simp [seqObj, lobj]
    have km : KeepM [a] s.heap (s.heap.update a (Obj.mapSeq fun xs => xs.eraseIdxIfInBounds 0)) := KeepM.of_same (List.mem_singleton.mpr rfl) s1
    have aU := ok.mU a aM
    refine hq v d _ _ _ hP (fun b o hb e => km b o (fun q => hb (by rw [List.mem_singleton.mp q]; exact aM)) e) (ok.change1 hx km (.lst g1 (r2.same aU s1))) (r1.same aU s1)
end
end Mine

end

section
namespace Mine
open PySem PySem.W PySem.Calls PyProof.Rows

section
variable {S : S0} {f : Fm} {U M : List Addr} {lk : List (Str × LV)} {N : Dy → Prop} {R : D → Dy → Prop} {ss : List Stmt}
/-- an own object, behind a new one -/
theorem OwnAt.push {h : Heap} {a : Addr} {d : D} (od : OwnAt S U h a d) (o : Obj) : OwnAt S (h.objs.size :: U) (h.push o) a d :=
  od.mono (fun ob e => Keep.push h o _ _ e) (fun b ob _ e => Keep.push h o _ _ e) fun b ob e hb q => by
    rcases List.mem_cons.mp q with rfl | q
    · exact absurd (Heap.lt_size e) (Nat.lt_irrefl _)
    · exact hb q
theorem own_store {x : Str} {a : Addr} {d : D} {A : Around} {s : Shared} {Q : Unit → Shared → Prop} {E : Value → Shared → Prop} (ok : Ok S f ⟨U, M, lk⟩ s.heap) (hk : f.env.kindOf x = some .local) (od : OwnAt S U s.heap a d) (aM : a ∈ M) (aL : a ≠ f.env.locals)
    (hap : ∀ z d', lk.lookup z ≠ some (.own a d')) (h : ∀ h' tk, Heap.SameBut f.env.locals s.heap h' → Ok S f ⟨U, M, (x, .own a d) :: lk⟩ h' → Q () { s with heap := h', toks := tk }) : wpAny (model S.prog S.w) A (bindName f.env x (.ref a)) Q E s := by
  obtain ⟨m, hm⟩ := ok.ns
  refine wpAny_bindName (wpAny_storeName_local hk hm (fun h' hn hs => ?_) (by rw [ok.kind]; rfl))
  refine h h' _ hs (ok.poke ok.locM hs ?_ ⟨_, hn⟩ (fun z k e => ?_) (fun z l e => ?_) ?_)
  · obtain ⟨o, _, _, ho, _⟩ := hn; exact ⟨o, ho⟩
  · obtain ⟨_, v, c⟩ := ok.cells z k e
    exact ⟨v, c.sameBut hs (ns_ne_cell hm c)⟩
  · by_cases hz : z = x
    · subst hz
      rw [lookup_cons_eq] at e
      cases e
      exact ⟨_, .inl ⟨hk, _, hn, by simp⟩, rfl, aM, aL, od.same (ok.mU _ ok.locM) hs aL⟩
    · rw [lookup_cons_ne hz] at e
      obtain ⟨v', a', b⟩ := ok.vars z l e
      refine ⟨v', ?_, ?_⟩
      · rcases a' with ⟨a1, m', a2, a3⟩ | ⟨a1, a2, c, a3, a4⟩
        · have := ns_fun hm a2; subst this
          exact .inl ⟨a1, _, hn, by simp [hz, a3]⟩
        · exact .inr ⟨a1, a2, c, a3, a4.sameBut hs (ns_ne_cell hm a4)⟩
      · cases l with
        | val d => exact Rd.same b (ok.mU _ ok.locM) hs
        | own a2 d2 => obtain ⟨q1, q2, q3, q4⟩ := b; exact ⟨q1, q2, q3, q4.same (ok.mU _ ok.locM) hs q3⟩
  · intro y1 y2 b d1 d2 e1 e2
    by_cases g1 : y1 = x
    · by_cases g2 : y2 = x
      · rw [g1, g2]
      · subst g1
        rw [lookup_cons_eq] at e1
        rw [lookup_cons_ne g2] at e2
        cases e1
        exact (hap _ _ e2).elim
    · rw [lookup_cons_ne g1] at e1
      by_cases g2 : y2 = x
      · subst g2
        rw [lookup_cons_eq] at e2
        cases e2
        exact (hap _ _ e1).elim
      · rw [lookup_cons_ne g2] at e2
        exact ok.apart _ _ _ _ _ e1 e2
theorem own_of {h : Heap} (ok : Ok S f ⟨U, M, lk⟩ h) {x : Str} {a : Addr} {d : D} (hx : lk.lookup x = some (.own a d)) : OwnAt S U h a d := by
  obtain ⟨v, _, _, _, _, q⟩ := ok.vars x _ hx; exact q

set_option maxHeartbeats 1000000 in
/-- x1, x2, x3 = ([e, ..], {}, []) -/
theorem Ex.start3 {x1 x2 x3 : Str} {elts es : List Expr} {ds : List D} {k k2 : Nat} {tpos pos p1 p2 p3 p4 : Pos} (hL : EvL S f ⟨U, M, lk⟩ es ds) (hz : ds.length ≤ 1000) (hno : ∀ z a d, lk.lookup z ≠ some (.own a d)) (h1 : f.env.kindOf x1 = some .local) (h2 : f.env.kindOf x2 = some .local) (h3 : f.env.kindOf x3 = some .local) (h12 : x1 ≠ x2) (h13 : x1 ≠ x3) (h23 : x2 ≠ x3)
    (hs : swapsWithSole [.Tuple elts k tpos] (.Tuple [.List es p1, .Dict [] [] p2, .List [] p3] k2 p4) pos.line f.env = pure false) (hw : swappedStores [.Tuple elts k tpos] (.Tuple [.List es p1, .Dict [] [] p2, .List [] p3] k2 p4) f.env = pure (some [x1, x2, x3]))
    (he : starEach [.List es p1, .Dict [] [] p2, .List [] p3] f.env = [(false, eval (.List es p1) f.env), (false, eval (.Dict [] [] p2) f.env), (false, eval (.List [] p3) f.env)]) (he0 : starEach [] f.env = [])
    (r : ∀ a b c U' M', Ex S f ⟨U', M', (x1, .own a (.tup ds)) :: (x2, .own b (.idt [])) :: (x3, .own c (.lst [])) :: lk⟩ ss N R) :
    Ex S f ⟨U, M, lk⟩ (.Assign [.Tuple elts k tpos] (.Tuple [.List es p1, .Dict [] [] p2, .List [] p3] k2 p4) pos :: ss) N R := by
  intro A s Q E hA ok hn hr
  refine wpAny_execs_cons (Assign_Tuple_swapped (names := [x1, x2, x3]) (Tuple_ ?_) hs hw)
  rw [he]
  show wpAny _ A (spliced [(false, eval (.List es p1) f.env), (false, eval (.Dict [] [] p2) f.env), (false, eval (.List [] p3) f.env)]) _ E s
  unfold spliced
  refine wpAny_bind (List_ (hL p1 A s _ _ hA ok fun vs g1 t1 k1 r1 => ?_))
  refine wpAny_newObj_type ?_ (by show vs.toArray.size ≤ sizeLine; rw [List.size_toArray]; exact r1.short hz)
  have ok1 := ok.keeps k1
  have okA := ok1.push (o := { cls := .type "list", data := .seq vs.toArray }) rfl
  have kA := Keep.push g1 { cls := .type "list", data := .seq vs.toArray }
  have n1 : s.heap.get? g1.objs.size = none := by
    cases e : s.heap.get? g1.objs.size with
    | none => rfl
    | some o => exact (Nat.lt_irrefl _ (Heap.lt_size (k1 _ _ e))).elim
  have odA : OwnAt S (g1.objs.size :: U) (g1.push { cls := .type "list", data := .seq vs.toArray }) g1.objs.size (.tup ds) := by
    refine .box ⟨_, Heap.get?_push_size _ rfl, rfl, 0, rfl⟩ ?_
    show RdA S _ _ vs ds
    refine RdA.mono (fun b o _ e => kA b o e) (fun b o e hb q => ?_) r1
    rcases List.mem_cons.mp q with rfl | q
    · exact (Nat.lt_irrefl _ (Heap.lt_size e)).elim
    · exact hb q
  simp only [Bool.false_eq_true, if_false]
  refine wpAny_bind (wpAny_pure (wpAny_bind (wpAny_holding ?_)))
  generalize hHA : g1.push { cls := .type "list", data := .seq vs.toArray } = HA at okA kA odA ⊢
  have hlt1 : g1.objs.size < HA.objs.size := by rw [← hHA, Heap.size_push]; exact Nat.lt_succ_self _
  generalize g1.objs.size = D1 at n1 odA okA hlt1 ⊢
  unfold spliced
  refine wpAny_bind (wpAny_Dict_empty ?_)
  have okB := okA.push (o := { cls := .type "dict", data := .dict #[] }) rfl
  have kB := Keep.push HA { cls := .type "dict", data := .dict #[] }
  have odA2 := odA.push { cls := .type "dict", data := .dict #[] }
  have hsm : (HA.objs.size == sysModules) = false := by
    have := modules_low okA.top.nolimit
    exact beq_false_of_ne (fun q => by rw [q] at this; exact Nat.lt_irrefl _ this)
  have odB : OwnAt S (HA.objs.size :: (D1 :: U)) (HA.push { cls := .type "dict", data := .dict #[] }) HA.objs.size (.idt []) := .idt hsm (Heap.DictOf.new HA) rfl rfl .nil
  have n2 : HA.get? HA.objs.size = none := fresh_none HA
  simp only [Bool.false_eq_true, if_false]
  refine wpAny_bind (wpAny_pure (wpAny_bind (wpAny_holding ?_)))
  generalize hHB : HA.push { cls := .type "dict", data := .dict #[] } = HB at okB kB odA2 odB ⊢
  have hlt2 : HA.objs.size < HB.objs.size := by rw [← hHB, Heap.size_push]; exact Nat.lt_succ_self _
  have hlt12 : D1 ≠ HA.objs.size := Nat.ne_of_lt hlt1
  have hlt1' : D1 < HB.objs.size := Nat.lt_trans hlt1 hlt2
  generalize HA.objs.size = D2 at n2 odA2 odB okB hlt2 hlt12 ⊢
  unfold spliced
  refine wpAny_bind (List_ ?_)
  rw [he0]
  refine spliced_nil (wpAny_newObj_type ?_ (Nat.zero_le _))
  have okC := okB.push (o := { cls := .type "list", data := .seq ([] : List Value).toArray }) rfl
  have kC := Keep.push HB { cls := .type "list", data := .seq ([] : List Value).toArray }
  have odA3 := odA2.push { cls := .type "list", data := .seq ([] : List Value).toArray }
  have odB3 := odB.push { cls := .type "list", data := .seq ([] : List Value).toArray }
  have odC : OwnAt S (HB.objs.size :: (D2 :: (D1 :: U))) (HB.push { cls := .type "list", data := .seq ([] : List Value).toArray }) HB.objs.size (.lst []) := .lst (vs := []) (n := 0) (Heap.get?_push_size _ rfl) .nil
  have n3 : HB.get? HB.objs.size = none := fresh_none HB
  simp only [Bool.false_eq_true, if_false]
  refine wpAny_bind (wpAny_pure (wpAny_bind (wpAny_holding (spliced_nil (wpAny_pure (wpAny_pure (wpAny_pure ?_)))))))
  generalize HB.push { cls := .type "list", data := .seq ([] : List Value).toArray } = HC at okC kC odA3 odB3 odC ⊢
  have hlt23 : D2 ≠ HB.objs.size := Nat.ne_of_lt hlt2
  have hlt13 : D1 ≠ HB.objs.size := Nat.ne_of_lt hlt1'
  generalize HB.objs.size = D3 at n3 odA3 odB3 odC okC hlt23 hlt13 ⊢
  refine wpAny_newObj_type ?_ (by show 3 ≤ sizeLine; rw [sizeLine_eq]; decide)
  have kT := Keep.push HC { cls := .type "tuple", data := .seq ([.ref D1, .ref D2, .ref D3] : List Value).toArray }
  have hT : IsTup (HC.push { cls := .type "tuple", data := .seq ([.ref D1, .ref D2, .ref D3] : List Value).toArray }) HC.objs.size ([.ref D1, .ref D2, .ref D3] : List Value).toArray := ⟨_, Heap.get?_push_size _ rfl, rfl, 0, rfl⟩
  show wpAny _ A (unpackItems (.ref HC.objs.size) 3 none) _ E { s with heap := HC.push { cls := .type "tuple", data := .seq ([.ref D1, .ref D2, .ref D3] : List Value).toArray }, toks := t1 }
  generalize HC.push { cls := .type "tuple", data := .seq ([.ref D1, .ref D2, .ref D3] : List Value).toArray } = HT at kT hT ⊢
  refine unpackItems_tuple (items := ([.ref D1, .ref D2, .ref D3] : List Value).toArray) hA.1 hT fun h5 hx5 => ?_
  have kU : Keep HC h5 := fun b o e => hx5 b o (Nat.ne_of_lt (Heap.lt_size (kT _ _ e))) (kT _ _ e)
  have ok5 := okC.keeps kU
  have oA := odA3.keep kU
  have oB := odB3.keep kU
  have oC := odC.keep kU
  have fresh : ∀ {b : Addr}, s.heap.get? b = none → b ≠ f.env.locals := fun {b} hb q => by
    obtain ⟨m, o, _, _, ho, _⟩ := ok.ns
    rw [q, ho] at hb; cases hb
  have n2s : s.heap.get? D2 = none := by
    cases e : s.heap.get? D2 with
    | none => rfl
    | some o => have := kA _ _ (k1 _ _ e); rw [n2] at this; cases this
  have n3s : s.heap.get? D3 = none := by
    cases e : s.heap.get? D3 with
    | none => rfl
    | some o => have := kB _ _ (kA _ _ (k1 _ _ e)); rw [n3] at this; cases this
  have kk : Keep s.heap h5 := (((k1.trans kA).trans kB).trans kC).trans kU
  show wpAny _ A (do holding [.ref D2, .ref D1] (bindName f.env x3 (.ref D3)); do holding [.ref D1] (bindName f.env x2 (.ref D2)); do holding [] (bindName f.env x1 (.ref D1)); pure ()) _ E { s with heap := h5, toks := t1 }
  refine wpAny_bind (wpAny_holding (own_store (s := { s with heap := h5, toks := t1 }) ok5 h3 oC (by simp) (fresh n3s) (fun z d' => hno z _ _) fun h6 t6 k6 ok6 => ?_))
  have LU : ∀ {U' M' lk' h'}, Ok S f ⟨U', M', lk'⟩ h' → f.env.locals ∈ U' := fun o => o.mU _ o.locM
  have oA6 := oA.same (LU ok5) k6 (fresh n1)
  have oB6 := oB.same (LU ok5) k6 (fresh n2s)
  refine wpAny_bind (wpAny_holding (own_store (s := { s with heap := h6, toks := t6 }) ok6 h2 oB6 (by simp) (fresh n2s) (fun z d' e => ?_) fun h7 t7 k7 ok7 => ?_))
  · by_cases hz : z = x3
    · subst hz; rw [lookup_cons_eq] at e; cases e; exact hlt23 rfl
    · rw [lookup_cons_ne hz] at e; exact hno z _ _ e
  have oA7 := oA6.same (LU ok6) k7 (fresh n1)
  refine wpAny_bind (wpAny_holding (own_store (s := { s with heap := h7, toks := t7 }) ok7 h1 oA7 (by simp) (fresh n1) (fun z d' e => ?_) fun h8 t8 k8 ok8 => wpAny_pure ?_))
  · by_cases hz2 : z = x2
    · subst hz2; rw [lookup_cons_eq] at e; cases e; exact hlt12 rfl
    · rw [lookup_cons_ne hz2] at e
      by_cases hz : z = x3
      · subst hz; rw [lookup_cons_eq] at e; cases e; exact hlt13 rfl
      · rw [lookup_cons_ne hz] at e; exact hno z _ _ e
  have s1 : Step M (D3 :: D2 :: D1 :: M) s.heap h8 := by
    refine ⟨fun b o hb e => ?_, fun a ha => ?_⟩
    · have hbL : b ≠ f.env.locals := fun q => hb (q ▸ ok.locM)
      exact (k8.2 b hbL).trans ((k7.2 b hbL).trans ((k6.2 b hbL).trans (kk b o e)))
    · simp only [List.mem_cons] at ha
      rcases ha with rfl | rfl | rfl | ha
      · exact .inr n3s
      · exact .inr n2s
      · exact .inr n1
      · exact .inl ha
  exact r D1 D2 D3 _ _ A _ _ _ hA ok8 (fun y3 h3 t3 n3 s3 ok3 => hn y3 h3 t3 n3 (s1.trans s3) ok3) fun v3 d3 y3 h3 t3 q3 k3 r3 ok3 => hr v3 d3 y3 h3 t3 q3 (s1.ret k3) r3 ok3
end
end Mine

end

section
namespace Mine
open PySem PySem.W PySem.Calls PyProof.Rows

noncomputable abbrev TS (w : World) (mg mb : Str → Option Value) (prog : Program) : S0 := { prog := prog, w := w, K := KL w.params, mg := mg, mb := mb }
theorem n_len (p : Params) : nsIn (KL p) mainGlobals "len" = some none := rfl
theorem n_min (p : Params) : nsIn (KL p) mainGlobals "min" = some none := rfl
theorem n_abs (p : Params) : nsIn (KL p) mainGlobals "abs" = some none := rfl
theorem n_enumerate (p : Params) : nsIn (KL p) mainGlobals "enumerate" = some none := rfl
theorem n_range (p : Params) : nsIn (KL p) mainGlobals "range" = some none := rfl
theorem n_sorted (p : Params) : nsIn (KL p) mainGlobals "sorted" = some none := rfl
theorem n_dict (p : Params) : nsIn (KL p) mainGlobals "dict" = some none := rfl
theorem n_list (p : Params) : nsIn (KL p) mainGlobals "list" = some none := rfl
theorem n_path_length (p : Params) : nsIn (KL p) mainGlobals "path_length" = some (some (.ref 21)) := rfl
theorem k_path_length (p : Params) : keepIn (KL p) (.ref 21) = true := rfl
theorem n_neighbour_as (p : Params) : nsIn (KL p) mainGlobals "neighbour_as" = some (some (.ref 28)) := rfl
theorem k_neighbour_as (p : Params) : keepIn (KL p) (.ref 28) = true := rfl
theorem n_preference_of (p : Params) : nsIn (KL p) mainGlobals "preference_of" = some (some (.ref 35)) := rfl
theorem k_preference_of (p : Params) : keepIn (KL p) (.ref 35) = true := rfl
theorem n_med_of (p : Params) : nsIn (KL p) mainGlobals "med_of" = some (some (.ref 42)) := rfl
theorem k_med_of (p : Params) : keepIn (KL p) (.ref 42) = true := rfl
theorem n_is_from_outside (p : Params) : nsIn (KL p) mainGlobals "is_from_outside" = some (some (.ref 49)) := rfl
theorem k_is_from_outside (p : Params) : keepIn (KL p) (.ref 49) = true := rfl
theorem n_teller_id (p : Params) : nsIn (KL p) mainGlobals "teller_id" = some (some (.ref 56)) := rfl
theorem k_teller_id (p : Params) : keepIn (KL p) (.ref 56) = true := rfl
theorem n_teller_address (p : Params) : nsIn (KL p) mainGlobals "teller_address" = some (some (.ref 63)) := rfl
theorem k_teller_address (p : Params) : keepIn (KL p) (.ref 63) = true := rfl
theorem n_least_by (p : Params) : nsIn (KL p) mainGlobals "least_by" = some (some (.ref 68)) := rfl
theorem k_least_by (p : Params) : keepIn (KL p) (.ref 68) = true := rfl
theorem n_best_meds (p : Params) : nsIn (KL p) mainGlobals "best_meds" = some (some (.ref 73)) := rfl
theorem k_best_meds (p : Params) : keepIn (KL p) (.ref 73) = true := rfl
theorem n_usable (p : Params) : nsIn (KL p) mainGlobals "usable" = some (some (.ref 78)) := rfl
theorem k_usable (p : Params) : keepIn (KL p) (.ref 78) = true := rfl
theorem n_ladder (p : Params) : nsIn (KL p) mainGlobals "ladder" = some (some (.ref 83)) := rfl
theorem k_ladder (p : Params) : keepIn (KL p) (.ref 83) = true := rfl
theorem n_last_rungs (p : Params) : nsIn (KL p) mainGlobals "last_rungs" = some (some (.ref 88)) := rfl
theorem k_last_rungs (p : Params) : keepIn (KL p) (.ref 88) = true := rfl
theorem n_best_of (p : Params) : nsIn (KL p) mainGlobals "best_of" = some (some (.ref 95)) := rfl
theorem k_best_of (p : Params) : keepIn (KL p) (.ref 95) = true := rfl
theorem n_rung_of (p : Params) : nsIn (KL p) mainGlobals "rung_of" = some (some (.ref 102)) := rfl
theorem k_rung_of (p : Params) : keepIn (KL p) (.ref 102) = true := rfl
theorem n_equal_ones (p : Params) : nsIn (KL p) mainGlobals "equal_ones" = some (some (.ref 109)) := rfl
theorem k_equal_ones (p : Params) : keepIn (KL p) (.ref 109) = true := rfl
theorem n_law_draw (p : Params) : nsIn (KL p) mainGlobals "_law_draw" = some (some (.ref 117)) := rfl
theorem k_law_draw (p : Params) : keepIn (KL p) (.ref 117) = true := rfl
theorem n_law_route (p : Params) : nsIn (KL p) mainGlobals "_law_route" = some (some (.ref 124)) := rfl
theorem k_law_route (p : Params) : keepIn (KL p) (.ref 124) = true := rfl
theorem n_law_worth (p : Params) : nsIn (KL p) mainGlobals "_law_worth" = some (some (.ref 131)) := rfl
theorem k_law_worth (p : Params) : keepIn (KL p) (.ref 131) = true := rfl
theorem n_law_without (p : Params) : nsIn (KL p) mainGlobals "_law_without" = some (some (.ref 136)) := rfl
theorem k_law_without (p : Params) : keepIn (KL p) (.ref 136) = true := rfl
theorem n_law_best_right (p : Params) : nsIn (KL p) mainGlobals "_law_best_right" = some (some (.ref 141)) := rfl
theorem k_law_best_right (p : Params) : keepIn (KL p) (.ref 141) = true := rfl
theorem n_law_used_right (p : Params) : nsIn (KL p) mainGlobals "_law_used_right" = some (some (.ref 146)) := rfl
theorem k_law_used_right (p : Params) : keepIn (KL p) (.ref 146) = true := rfl
theorem n_SEQUENCE (p : Params) : ∃ t, nsIn (KL p) mainGlobals "SEQUENCE" = some (some (.int 2 t)) := ⟨_, rfl⟩
theorem n_SET (p : Params) : ∃ t, nsIn (KL p) mainGlobals "SET" = some (some (.int 1 t)) := ⟨_, rfl⟩
theorem n_USUAL_PREFERENCE (p : Params) : ∃ t, nsIn (KL p) mainGlobals "USUAL_PREFERENCE" = some (some (.int 100 t)) := ⟨_, rfl⟩
end Mine

end

section
namespace Mine
open PySem PySem.W PySem.Calls PyProof.Rows
noncomputable def segD (nums : List D) : D := .tup [.int 2, .tup nums]
theorem one_item {α : Type} {a d : α} {i : Nat} (h : [a][i]? = some d) : i = 0 ∧ d = a := by
  cases i with
  | zero => simp at h; exact ⟨rfl, h.symm⟩
  | succ i => simp at h

section
variable {prog : Program} {w : World} {mg mb : Str → Option Value}

theorem path_length_ok (nums : List D) (hz : (nums.length : Int) < 2 ^ 62) : FnC (TS w mg mb prog) (.ref 21) 1 [.tup [segD nums]] (.int nums.length) := by
  refine @FnC.go _ _ _ _ _ _ _ _ _ _ _ _ _ _ _ _ _ (["path"]) _ _ _ rfl rfl (bind1 fun _ _ => rfl) rfl fun L g₀ U₀ U M => ?_
  refine Ex.assign Ev.int (.inl rfl) rfl ?_
  refine @Ex.for _ _ _ _ _ _ _ _ _ _ _ _ ([segD nums]) (fun i => [("found", .val (.int (if i = 0 then 0 else nums.length)))]) (fun _ d => [("numbers", .val (.tup nums)), ("kind", .val (.int 2))]) (Src.tup (Ev.name rfl rfl)) (Sub.cons rfl Sub.nil) (fun i d hd => ?_) (fun U' i d hd => ?_) (fun _ => rfl) ?_
  · obtain ⟨rfl, rfl⟩ := one_item hd
    exact Asg.pair (.inl rfl) (.inl rfl)
  · obtain ⟨rfl, rfl⟩ := one_item hd
    obtain ⟨t, ht⟩ := n_SEQUENCE w.params
    refine Ex.last (ExS.if (EvT.cmp (Ev.name rfl rfl) (Ev.globInt rfl ht rfl) CmpR.eqInt rfl) (fun _ => ?_) fun h => nomatch h)
    refine @Ex.assign _ _ _ _ _ _ _ _ _ _ (.int (0 + nums.length)) _ _ (Ev.binop (Ev.name rfl rfl) (Ev.callB (ds := [.tup nums]) rfl (n_len _) rfl (by decide) (EvL.cons (Ev.name rfl rfl) EvL.nil rfl) (FnC.lenT hz) rfl (fun _ => rfl) rfl) BinR.add) (.inl rfl) rfl (Ex.nil ⟨rfl, rfl, Sub.cons ?_ Sub.nil⟩)
    rw [Int.zero_add]; rfl
  · exact Ex.ret (Ev.name rfl rfl) rfl

noncomputable def never : List (Str × LV) := [("?", .val .none)]
theorem neighbour_as_ok (d : D) (nums : List D) (hz : ((d :: nums).length : Int) < 2 ^ 62) : FnC (TS w mg mb prog) (.ref 28) 1 [.tup [segD (d :: nums)]] d := by
  refine @FnC.go _ _ _ _ _ _ _ _ _ _ _ _ _ _ _ _ _ (["path"]) _ _ _ rfl rfl (bind1 fun _ _ => rfl) rfl fun L g₀ U₀ U M => ?_
  refine @Ex.for _ _ _ _ _ _ _ _ _ _ _ _ ([segD (d :: nums)]) (fun i => if i = 0 then [] else never) (fun _ _ => [("numbers", .val (.tup (d :: nums))), ("kind", .val (.int 2))]) (Src.tup (Ev.name rfl rfl)) Sub.nil (fun i d hd => ?_) (fun U' i d hd => ?_) (fun _ => rfl) (@Ex.absurd _ _ _ _ _ _ _ _ ("?") _ rfl rfl)
  · obtain ⟨rfl, rfl⟩ := one_item hd
    exact Asg.pair (.inl rfl) (.inl rfl)
  · obtain ⟨rfl, rfl⟩ := one_item hd
    obtain ⟨t, ht⟩ := n_SEQUENCE w.params
    refine @Ex.ifRet _ _ _ _ _ _ _ _ _ (true) _ _ ?_ (fun _ => Ex.ret (Ev.item (Ev.name rfl rfl) Ev.int ItemR.tup0 fun _ _ => rfl) rfl) (fun h => nomatch h)
    refine EvT.andCons (a := true) (EvT.cmp (Ev.name rfl rfl) (Ev.globInt rfl ht rfl) CmpR.eqInt rfl) fun _ => ?_
    refine EvT.andCons (a := true) (b := true) ?_ fun _ => EvT.andNil
    refine EvT.eq (EvT.cmp (Ev.callB (ds := [.tup (d :: nums)]) rfl (n_len _) rfl (by decide) (EvL.cons (Ev.name rfl rfl) EvL.nil rfl) (FnC.lenT hz) rfl (fun _ => rfl) rfl) Ev.int CmpR.gtInt rfl) ?_
    simp only [List.length_cons, decide_eq_true_eq]
    omega

/-- a route -/
structure Rt where
  at' : Int
  org : Int
  med : Int
  lp : Int
  fst : Int
  many : Nat
  cost : Option Int
deriving DecidableEq
noncomputable def optD : Option Int → D
  | none => .none
  | some i => .int i
noncomputable def Rt.nums (r : Rt) : List D := .int r.fst :: List.replicate r.many (.int 300)
noncomputable def Rt.path (r : Rt) : D := .tup [segD r.nums]
noncomputable def Rt.attrs (r : Rt) : List (Str × D) := [("origin", .int r.org), ("as_path", r.path), ("med", .int r.med), ("next_hop", .int (60 + r.at')), ("local_pref", .int r.lp)]
noncomputable def Rt.d (r : Rt) : D := .tup [.tup [.int 0, .int 1], .sd r.attrs, .int r.at', optD r.cost, .int 0]
/-- a peer -/
structure Pr where
  id : Int
  as' : Int
  addr : Int
  ebgp : Bool
noncomputable def Pr.d (p : Pr) : D := .sd [("id", .int p.id), ("as", .int p.as'), ("addr", .int p.addr), ("kind", .str (if p.ebgp then "ebgp" else "ibgp"))]
noncomputable def peersL (n : Nat) (P : Int → Pr) : List (Int × D) := (List.range n).map fun (i : Nat) => ((i : Int), (P i).d)
noncomputable def peersD (n : Nat) (P : Int → Pr) : D := .idt (peersL n P)
noncomputable def optsL (am : Bool) : List (Str × D) := [("always_med", .bool am)]
noncomputable def Rt.ok (n : Nat) (r : Rt) : Prop := 0 ≤ r.at' ∧ r.at' < n ∧ r.many ≤ 1

theorem preference_of_ok (r : Rt) : FnC (TS w mg mb prog) (.ref 35) 1 [r.d] (.int r.lp) := by
  refine @FnC.go _ _ _ _ _ _ _ _ _ _ _ _ _ _ _ _ _ (["route"]) _ _ _ rfl rfl (bind1 fun _ _ => rfl) rfl fun L g₀ U₀ U M => ?_
  obtain ⟨t, ht⟩ := n_USUAL_PREFERENCE w.params
  exact Ex.ret (Ev.get2 (Ev.item (Ev.name rfl rfl) Ev.int (ItemR.tup (j := 1) (by decide) rfl rfl) fun _ _ => rfl) Ev.cstr (Ev.globInt rfl ht rfl) rfl rfl rfl) rfl
end
end Mine

end

section
namespace Mine
open PySem PySem.W PySem.Calls PyProof.Rows

theorem kfind_peers {n : Nat} {P : Int → Pr} {a : Int} (h0 : 0 ≤ a) (h1 : a < n) : kfind (peersL n P) a = some (P a).d := by
  unfold kfind peersL
  obtain ⟨k, rfl⟩ := Int.eq_ofNat_of_zero_le h0
  have hk : k < n := by omega
  have key : ∀ m, k < m → ((List.range m).map fun (i : Nat) => ((i : Int), (P i).d)).find? (fun p => decide (p.1 = (k : Int))) = some ((k : Int), (P k).d) := by
    intro m
    induction m with
    | zero => intro h; omega
    | succ m ih =>
      intro h
      rw [List.range_succ, List.map_append, List.find?_append]
      by_cases q : k < m
      · rw [ih q]; rfl
      · have : k = m := by omega
        subst this
        have hn : ((List.range k).map fun (i : Nat) => ((i : Int), (P i).d)).find? (fun p => decide (p.1 = (k : Int))) = none := by
          rw [List.find?_eq_none]
          intro x hx
          obtain ⟨i, hi, rfl⟩ := List.mem_map.mp hx
          have := List.mem_range.mp hi
          simp only [decide_eq_true_eq]; omega
        rw [hn]; simp
  show Option.map (·.2) (((List.range n).map fun (i : Nat) => ((i : Int), (P i).d)).find? (fun p => decide (p.1 = (k : Int)))) = _
  rw [key n hk]; rfl

section
variable {prog : Program} {w : World} {mg mb : Str → Option Value}

theorem med_of_ok (r : Rt) (am : Bool) : FnC (TS w mg mb prog) (.ref 42) 1 [r.d, .sd (optsL am)] (.int r.med) := by
  refine @FnC.go _ _ _ _ _ _ _ _ _ _ _ _ _ _ _ _ _ (["route", "options"]) _ _ _ rfl rfl (bind2 fun _ _ _ => rfl) rfl fun L g₀ U₀ U M => ?_
  refine Ex.ret (Ev.get2 (dd := .int 0) (Ev.item (Ev.name rfl rfl) Ev.int (ItemR.tup (j := 1) (by decide) rfl rfl) fun _ _ => rfl) Ev.cstr ?_ rfl rfl rfl) rfl
  exact Ev.ifexp (b := false) (EvT.plain (Ev.eq (Ev.get2 (l := optsL am) (Ev.name rfl rfl) Ev.cstr Ev.cbool rfl rfl rfl) rfl) rfl) (fun h => nomatch h) (fun _ => Ev.int)
theorem is_from_outside_ok (r : Rt) (n : Nat) (P : Int → Pr) (h0 : 0 ≤ r.at') (h1 : r.at' < n) : FnC (TS w mg mb prog) (.ref 49) 1 [r.d, peersD n P] (.bool (P r.at').ebgp) := by
  refine @FnC.go _ _ _ _ _ _ _ _ _ _ _ _ _ _ _ _ _ (["route", "peers"]) _ _ _ rfl rfl (bind2 fun _ _ _ => rfl) rfl fun L g₀ U₀ U M => ?_
  refine Ex.ret (Ev.eq (Ev.and (Ev.cmp (Ev.item (Ev.name rfl rfl) Ev.int (ItemR.tup (j := 2) (by decide) rfl rfl) fun _ _ => rfl) Ev.cnone CmpR.isNotNone rfl) fun _ => Ev.boolOne (Ev.cmp (Ev.item (Ev.item (Ev.name rfl rfl) (Ev.item (Ev.name rfl rfl) Ev.int (ItemR.tup (j := 2) (by decide) rfl rfl) fun _ _ => rfl) (ItemR.idt (kfind_peers h0 h1)) fun _ _ => rfl) Ev.cstr (ItemR.sd rfl) fun _ _ => rfl) Ev.cstr CmpR.eqStr rfl)) ?_) rfl
  cases (P r.at').ebgp <;> rfl
theorem teller_id_ok (r : Rt) (n : Nat) (P : Int → Pr) (h0 : 0 ≤ r.at') (h1 : r.at' < n) : FnC (TS w mg mb prog) (.ref 56) 1 [r.d, peersD n P] (.int (P r.at').id) := by
  refine @FnC.go _ _ _ _ _ _ _ _ _ _ _ _ _ _ _ _ _ (["route", "peers"]) _ _ _ rfl rfl (bind2 fun _ _ _ => rfl) rfl fun L g₀ U₀ U M => ?_
  refine @Ex.ifRet _ _ _ _ _ _ _ _ _ (false) _ _ (EvT.cmp (da := .int r.at') (Ev.item (Ev.name rfl rfl) Ev.int (ItemR.tup (j := 2) (by decide) rfl rfl) fun _ _ => rfl) Ev.cnone CmpR.isNone rfl) (fun h => nomatch h) fun _ => ?_
  exact Ex.ret (Ev.get2 (l := r.attrs) (x := "originator") (Ev.item (Ev.name rfl rfl) Ev.int (ItemR.tup (j := 1) (by decide) rfl rfl) fun _ _ => rfl) Ev.cstr (Ev.item (Ev.item (Ev.name rfl rfl) (Ev.item (Ev.name rfl rfl) Ev.int (ItemR.tup (j := 2) (by decide) rfl rfl) fun _ _ => rfl) (ItemR.idt (kfind_peers h0 h1)) fun _ _ => rfl) Ev.cstr (ItemR.sd rfl) fun _ _ => rfl) rfl rfl rfl) rfl
theorem teller_address_ok (r : Rt) (n : Nat) (P : Int → Pr) (h0 : 0 ≤ r.at') (h1 : r.at' < n) : FnC (TS w mg mb prog) (.ref 63) 1 [r.d, peersD n P] (.int (P r.at').addr) := by
  refine @FnC.go _ _ _ _ _ _ _ _ _ _ _ _ _ _ _ _ _ (["route", "peers"]) _ _ _ rfl rfl (bind2 fun _ _ _ => rfl) rfl fun L g₀ U₀ U M => ?_
  refine Ex.ret (Ev.ifexp (b := false) (EvT.cmp (da := .int r.at') (Ev.item (Ev.name rfl rfl) Ev.int (ItemR.tup (j := 2) (by decide) rfl rfl) fun _ _ => rfl) Ev.cnone CmpR.isNone rfl) (fun h => nomatch h) fun _ => ?_) rfl
  exact (Ev.item (Ev.item (Ev.name rfl rfl) (Ev.item (Ev.name rfl rfl) Ev.int (ItemR.tup (j := 2) (by decide) rfl rfl) fun _ _ => rfl) (ItemR.idt (kfind_peers h0 h1)) fun _ _ => rfl) Ev.cstr (ItemR.sd rfl) fun _ _ => rfl)
theorem usable_ok (rs : List Rt) (hz : rs.length ≤ 1000) : FnC (TS w mg mb prog) (.ref 78) 1 [.lst (rs.map Rt.d)] (.lst ((rs.filter fun r => r.cost.isSome).map Rt.d)) := by
  refine @FnC.go _ _ _ _ _ _ _ _ _ _ _ _ _ _ _ _ _ (["routes"]) _ _ _ rfl rfl (bind1 fun _ _ => rfl) rfl fun L g₀ U₀ U M => ?_
  refine Ex.ret (Ev.lcM (rs := rs) (fun _ => Rt.d) (ix_map _ _) [] (fun _ r => r.cost.isSome) (fun _ => Rt.d) (fun _ d => [("route", .val d)]) hz ⟨rfl, by decide, rfl, by decide, (by intro x c h; simp at h), fun _ => rfl⟩ freeNil (Src.list (Ev.name rfl rfl)) (fun C i r hr => AsgL.name rfl) fun C U' M' i r hr => ?_) (by rw [compM_filter])
  refine ⟨Tests.one (EvT.eq (EvT.cmp (da := optD r.cost) (Ev.item (Ev.name rfl rfl) Ev.int (ItemR.tup (j := 3) (by decide) rfl rfl) fun _ _ => rfl) Ev.cnone CmpR.isNotNone rfl) ?_), fun _ => Ev.name rfl rfl⟩
  cases r.cost <;> rfl
end
end Mine

end

section
namespace Mine
open PySem PySem.W PySem.Calls PyProof.Rows

noncomputable def keepLeast (w : Rt → Int) (rs : List Rt) : List Rt := rs.filter fun r => w r == lmin (rs.map w)
section
variable {prog : Program} {w : World} {mg mb : Str → Option Value}
theorem least_by_ok (wt : Rt → Int) (rs : List Rt) (hne : rs ≠ []) (hz : rs.length ≤ 1000) : FnC (TS w mg mb prog) (.ref 68) 1 [.lst (rs.map Rt.d), .lst ((rs.map wt).map D.int)] (.lst ((keepLeast wt rs).map Rt.d)) := by
  refine @FnC.go _ _ _ _ _ _ _ _ _ _ _ _ _ _ _ _ _ (["routes", "worths"]) _ _ _ rfl rfl (bind2 fun _ _ _ => rfl) rfl fun L g₀ U₀ U M => ?_
  refine Ex.assign (Ev.callB (ds := [.lst ((rs.map wt).map D.int)]) rfl (n_min _) rfl (by decide) (EvL.cons (Ev.name rfl rfl) EvL.nil rfl) (FnC.minL (by simpa using hne)) rfl (fun _ => rfl) rfl) (.inr ⟨rfl, rfl, rfl⟩) rfl ?_
  refine Ex.ret (Ev.lcM (rs := rs) (fun i r => .tup [.int i, r.d]) (ix_enum _ _) [("worths", .val (.lst ((rs.map wt).map D.int))), ("least", .val (.int (lmin (rs.map wt))))] (fun _ r => wt r == lmin (rs.map wt)) (fun _ => Rt.d)
    (fun i d => match d with | .tup [a, b] => [("route", .val b), ("at", .val a)] | _ => []) hz ⟨rfl, by decide, rfl, by decide, clCons rfl (clCons rfl clNil), fun _ => rfl⟩
    (freeCons (freeVar rfl rfl rfl rfl rfl) (freeCons (freeVar rfl rfl rfl rfl rfl) freeNil)) (Src.enum rfl (n_enumerate _) rfl (by decide) (Ev.name rfl rfl) rfl rfl) (fun C i r hr => AsgL.pair rfl rfl) fun C U' M' i r hr => ?_) (by rw [compM_filter]; rfl)
  refine ⟨Tests.one (EvT.cmp (Ev.item (Ev.name rfl rfl) (Ev.name rfl rfl) (ItemR.lst (by omega) ?_ ?_) fun _ _ => rfl) (Ev.name rfl rfl) CmpR.eqInt rfl), fun _ => Ev.name rfl rfl⟩
  · have := (List.getElem?_eq_some_iff.mp hr).1
    omega
  · simp [hr]
end
end Mine

end

section
namespace Mine
open PySem PySem.W PySem.Calls PyProof.Rows

noncomputable def rivalsOf (am : Bool) (rs : List Rt) (r : Rt) : List Rt := if am then rs else rs.filter fun o => o.fst == r.fst
noncomputable def medBest (am : Bool) (rs : List Rt) (r : Rt) : Bool := lmin ((rivalsOf am rs r).map (·.med)) == r.med
noncomputable def bestMeds (am : Bool) (rs : List Rt) : List Rt := rs.filter (medBest am rs)
theorem take_succ_filter {rs : List Rt} {i : Nat} {r : Rt} (h : rs[i]? = some r) (c : Rt → Bool) : (rs.take (i + 1)).filter c = (rs.take i).filter c ++ (if c r then [r] else []) := by
  rw [List.take_add_one, h, List.filter_append]
  simp [List.filter_cons]

section
variable {prog : Program} {w : World} {mg mb : Str → Option Value}
theorem nb_ev {f : Fm} {y : Dy} {e : Expr} {p ipos ipos2 cpos : Pos} {k1 k2 : Nat} {q1 q2 : Pos} {r : Rt} (hr : Ev (TS w mg mb prog) f y e r.d) (hk : f.env.kindOf "neighbour_as" = some .globalImplicit) (hm : r.many ≤ 1)
    (hk1 : 1 ≤ f.k)
    (he : starEach [.Subscript (.Subscript e (.Constant (.int 1) k1 q1) ipos) (.Constant (.str "as_path") k2 q2) ipos2] f.env = (false, eval (.Subscript (.Subscript e (.Constant (.int 1) k1 q1) ipos) (.Constant (.str "as_path") k2 q2) ipos2) f.env) :: starEach [] f.env) :
    Ev (TS w mg mb prog) f y (.Call (.Name "neighbour_as" p) [.Subscript (.Subscript e (.Constant (.int 1) k1 q1) ipos) (.Constant (.str "as_path") k2 q2) ipos2] [] cpos) (.int r.fst) := by
  refine Ev.call hk (n_neighbour_as _) (k_neighbour_as _) (EvL.cons (Ev.item (Ev.item hr Ev.int (ItemR.tup (j := 1) (by decide) rfl rfl) fun _ _ => rfl) Ev.cstr (ItemR.sd rfl) fun _ _ => rfl) EvL.nil he) ((neighbour_as_ok (.int r.fst) (List.replicate r.many (.int 300)) ?_).mono hk1) he (fun _ => rfl) rfl
  simp; omega

theorem best_meds_ok (am : Bool) (rs : List Rt) (hz : rs.length ≤ 1000) (hm : ∀ r ∈ rs, r.many ≤ 1) : FnC (TS w mg mb prog) (.ref 73) 2 [.lst (rs.map Rt.d), .sd (optsL am)] (.lst ((bestMeds am rs).map Rt.d)) := by
  refine @FnC.go _ _ _ _ _ _ _ _ _ _ _ _ _ _ _ _ _ (["routes", "options"]) _ _ _ rfl rfl (bind2 fun _ _ _ => rfl) rfl fun L g₀ U₀ U M => ?_
  refine Ex.assignOwn EvL.nil (by decide) (.inl rfl) rfl fun a U M => ?_
  refine @Ex.forM _ _ _ _ _ _ _ _ _ (rs) _ _ _ _ _ (fun _ => Rt.d) (ix_map _ _) (fun i => [("found", .own a (.lst (((rs.take i).filter (medBest am rs)).map Rt.d))), ("routes", .val (.lst (rs.map Rt.d))), ("options", .val (.sd (optsL am)))]) (fun _ d => [("route", .val d)]) (Src.list (Ev.name rfl rfl)) (Sub.cons rfl (Sub.cons rfl (Sub.cons rfl Sub.nil))) (fun i r hr => Asg.name (.inr ⟨rfl, rfl, rfl⟩)) (fun U' i r hr => ?_) (fun _ => rfl) ?_
  · refine Ex.assign (Ev.name rfl rfl) (.inl rfl) rfl ?_
    have hrm : r ∈ rs := List.mem_of_getElem? hr
    refine Ex.ifS (b := !am) [("rivals", .val (.lst ((rivalsOf am rs r).map Rt.d))), ("route", .val r.d), ("found", .own a (.lst (((rs.take i).filter (medBest am rs)).map Rt.d))), ("routes", .val (.lst (rs.map Rt.d))), ("options", .val (.sd (optsL am)))]
      (EvT.not (EvT.plain (Ev.eq (Ev.get2 (l := optsL am) (Ev.name rfl rfl) Ev.cstr Ev.cbool rfl rfl rfl) rfl) rfl)) (fun hb => ?_) (fun hb => ?_) ?_
    · obtain rfl : am = false := by cases am <;> first | rfl | cases hb
      refine @Ex.assignCompM _ _ _ _ _ _ _ _ _ (rs) _ _ _ _ _ _ _ _ _ _ _ (fun _ => Rt.d) (ix_map _ _) [("route", .val r.d)] (fun _ o => o.fst == r.fst) (fun _ => Rt.d) (fun _ d => [("other", .val d)]) hz ⟨rfl, by decide, rfl, by decide, clCons rfl clNil, fun _ => rfl⟩ (freeCons (freeVar rfl rfl rfl rfl rfl) freeNil) (Src.list (Ev.name rfl rfl)) (fun C i r hr => AsgL.name rfl) (fun C U' M' i o ho => ?_) (.inl rfl) rfl ?_
      · exact ⟨Tests.one (EvT.cmp (nb_ev (Ev.name rfl rfl) rfl (hm o (List.mem_of_getElem? ho)) (Nat.le_of_ble_eq_true rfl) rfl) (nb_ev (Ev.name rfl rfl) rfl (hm r hrm) (Nat.le_of_ble_eq_true rfl) rfl) CmpR.eqInt rfl), fun _ => Ev.name rfl rfl⟩
      · rw [compM_filter]
        exact Ex.post (Sub.cons rfl (Sub.cons rfl (Sub.cons rfl (Sub.cons rfl (Sub.cons rfl Sub.nil)))))
    · obtain rfl : am = true := by cases am <;> first | rfl | cases hb
      exact Ex.post (Sub.cons rfl (Sub.cons rfl (Sub.cons rfl (Sub.cons rfl (Sub.cons rfl Sub.nil)))))
    · have hmem : r ∈ rivalsOf am rs r := by unfold rivalsOf; split <;> simp [hrm]
      refine Ex.last (@ExS.if _ _ _ _ _ _ (medBest am rs r) _ _ _ (EvT.cmp (Ev.callB (ds := [.lst (((rivalsOf am rs r).map (·.med)).map D.int)]) rfl (n_min _) rfl (by decide) (EvL.cons ?_ EvL.nil rfl) (FnC.minL (fun e => by rw [List.map_eq_nil_iff] at e; rw [e] at hmem; cases hmem)) rfl (fun _ => rfl) rfl)
        (Ev.call rfl (n_med_of _) (k_med_of _) (EvL.cons (Ev.name rfl rfl) (EvL.cons (Ev.name rfl rfl) EvL.nil rfl) rfl) (med_of_ok r am) rfl (fun _ => rfl) rfl) CmpR.eqInt rfl) (fun hb => ?_) fun hb => ?_)
      · refine Ev.eq (Ev.lcM (rs := rivalsOf am rs r) (fun _ => Rt.d) (ix_map _ _) [("options", .val (.sd (optsL am)))] (fun _ _ => true) (fun _ o => .int o.med) (fun _ d => [("other", .val d)]) ?_ ⟨rfl, by decide, rfl, by decide, clCons rfl clNil, fun _ => rfl⟩ (freeCons (freeVar rfl rfl rfl rfl rfl) freeNil) (Src.list (Ev.name rfl rfl)) (fun C i r hr => AsgL.name rfl) (fun C U' M' i o ho => ⟨Tests.nil, fun _ => ?_⟩)) ?_
        · unfold rivalsOf
          split
          · exact hz
          · exact Nat.le_trans (List.length_filter_le _ _) hz
        · exact Ev.call rfl (n_med_of _) (k_med_of _) (EvL.cons (Ev.name rfl rfl) (EvL.cons (Ev.name rfl rfl) EvL.nil rfl) rfl) (med_of_ok o am) rfl (fun _ => rfl) rfl
        · rw [compM_map, List.map_map]; rfl
      · refine @Ex.append _ _ _ _ _ _ _ _ _ _ _ _ (((rs.take i).filter (medBest am rs)).map Rt.d) _ _ _ _ rfl (Ev.name rfl rfl) ?_ rfl rfl rfl rfl rfl rfl (Ex.post (Sub.cons ?_ (Sub.cons rfl (Sub.cons rfl Sub.nil))))
        · rw [List.length_map]
          exact Nat.le_trans (List.length_filter_le _ _) (Nat.le_trans (List.length_take_le' _ _) hz)
        · rw [take_succ_filter hr, hb, if_pos rfl, List.map_append]; rfl
      · refine Ex.post (Sub.cons ?_ (Sub.cons rfl (Sub.cons rfl Sub.nil)))
        rw [take_succ_filter hr, hb, if_neg (by simp), List.append_nil]; rfl
  · rw [List.take_length]
    exact @Ex.frz _ _ _ _ _ _ _ _ ("found") (a) _ [] rfl rfl fun U M => Ex.ret (Ev.name rfl rfl) rfl
end
end Mine

end

section
namespace Mine
open PySem PySem.W PySem.Calls PyProof.Rows

noncomputable def rungD (x : Str × List Rt) : D := .tup [.str x.1, .lst (x.2.map Rt.d)]
noncomputable def idOf (P : Int → Pr) (r : Rt) : Int := (P r.at').id
noncomputable def addrOf (P : Int → Pr) (r : Rt) : Int := (P r.at').addr
noncomputable def lastRungs (P : Int → Pr) (rs : List Rt) : List (Str × List Rt) :=
  let l1 := keepLeast (idOf P) rs
  let l2 := keepLeast (fun _ => 0) l1
  let l3 := keepLeast (addrOf P) l2
  [("id", l1), ("clusters", l2), ("address", l3)]
theorem keepLeast_ne {wt : Rt → Int} {rs : List Rt} (h : rs ≠ []) : keepLeast wt rs ≠ [] := by
  intro e
  have hm := lmin_mem (rs.map wt) (by simpa using h)
  obtain ⟨r, hr, e1⟩ := List.mem_map.mp hm
  have : r ∈ keepLeast wt rs := List.mem_filter.mpr ⟨hr, by simp [e1]⟩
  rw [e] at this; cases this
theorem keepLeast_sub {wt : Rt → Int} {rs : List Rt} {r : Rt} (h : r ∈ keepLeast wt rs) : r ∈ rs := (List.mem_filter.mp h).1
theorem keepLeast_len {wt : Rt → Int} {rs : List Rt} {n : Nat} (h : rs.length ≤ n) : (keepLeast wt rs).length ≤ n := Nat.le_trans (List.length_filter_le _ _) h

section
variable {prog : Program} {w : World} {mg mb : Str → Option Value}
theorem Ex.least {f : Fm} {U M : List Addr} {lk : List (Str × LV)} {N : Dy → Prop} {R : D → Dy → Prop} {ss : List Stmt} {rs : List Rt} {elt : Expr} {scope : Scope} {cl : List (Str × Addr)} {p1 p2 p3 p4 p5 p6 p7 p8 : Pos} (wt : Rt → Int) (Lz : List (Str × LV))
    (hl : lk.lookup ("left" : Str) = some (.val (.lst (rs.map Rt.d)))) (hne : rs ≠ []) (hz : rs.length ≤ 1000) (hk1 : 1 ≤ f.k) (hc : CompOk f scope cl (.Name "left" p5))
    (hfree : ∀ z l, Lz.lookup z = some l → (∃ d, l = .val d) ∧ lk.lookup z = some l ∧ FreeOk f scope cl z)
    (ha : ∀ C, (f.comp scope cl C).env.kindOf "route" = some .local)
    (turn : ∀ C U' M' r, r ∈ rs → Ev (TS w mg mb prog) (f.comp scope cl C) ⟨U', M', ("route", .val r.d) :: Lz⟩ elt (.int (wt r)))
    (hk : f.env.kindOf "least_by" = some .globalImplicit) (hst : CanStore f "left")
    (he1 : starEach [.Name "left" p3, .ListComp elt [⟨.Name "route" p4, .Name "left" p5, [], 0⟩] scope p6] f.env = (false, eval (.Name "left" p3) f.env) :: starEach [.ListComp elt [⟨.Name "route" p4, .Name "left" p5, [], 0⟩] scope p6] f.env)
    (he2 : starEach [.ListComp elt [⟨.Name "route" p4, .Name "left" p5, [], 0⟩] scope p6] f.env = (false, eval (.ListComp elt [⟨.Name "route" p4, .Name "left" p5, [], 0⟩] scope p6) f.env) :: starEach [] f.env)
    (hp : ∀ pos, (backTo pos (starEach [.ListComp elt [⟨.Name "route" p4, .Name "left" p5, [], 0⟩] scope p6] f.env)).any (·.1) = false)
    (hsw : swapsWith (.Call (.Name "least_by" p2) [.Name "left" p3, .ListComp elt [⟨.Name "route" p4, .Name "left" p5, [], 0⟩] scope p6] [] p7) (some (.Name "left" p1)) p8.line f.env = pure false)
    (r : Ex (TS w mg mb prog) f ⟨U, M, ("left", .val (.lst ((keepLeast wt rs).map Rt.d))) :: lk⟩ ss N R) :
    Ex (TS w mg mb prog) f ⟨U, M, lk⟩ (.Assign [.Name "left" p1] (.Call (.Name "least_by" p2) [.Name "left" p3, .ListComp elt [⟨.Name "route" p4, .Name "left" p5, [], 0⟩] scope p6] [] p7) p8 :: ss) N R := by
  refine Ex.assign (Ev.call hk (n_least_by _) (k_least_by _) (EvL.cons (Ev.name hl rfl) (EvL.cons (d := .lst ((rs.map wt).map D.int)) ?_ EvL.nil he2) he1) ((least_by_ok wt rs hne hz).mono hk1) he1 hp rfl) hst hsw r
  refine Ev.eq (Ev.lcM (rs := rs) (fun _ => Rt.d) (ix_map _ _) Lz (fun _ _ => true) (fun _ r => .int (wt r)) (fun _ d => [("route", .val d)]) hz hc hfree (Src.list (Ev.name hl rfl)) (fun C i r hr => AsgL.name (ha C)) (fun C U' M' i r hr => ⟨Tests.nil, fun _ => turn C U' M' r (List.mem_of_getElem? hr)⟩)) ?_
  rw [compM_map, List.map_map]; rfl

theorem last_rungs_ok (rs : List Rt) (n : Nat) (P : Int → Pr) (hne : rs ≠ []) (hz : rs.length ≤ 1000) (hr : ∀ r ∈ rs, r.ok n) : FnC (TS w mg mb prog) (.ref 88) 2 [.lst (rs.map Rt.d), peersD n P] (.lst ((lastRungs P rs).map rungD)) := by
  refine @FnC.go _ _ _ _ _ _ _ _ _ _ _ _ _ _ _ _ _ (["left", "peers"]) _ _ _ rfl rfl (bind2 fun _ _ _ => rfl) rfl fun L g₀ U₀ U M => ?_
  refine Ex.least (idOf P) [("peers", .val (peersD n P))] rfl hne hz (Nat.le_of_ble_eq_true rfl) ⟨rfl, by decide, rfl, by decide, clCons rfl clNil, fun _ => rfl⟩ (freeCons (freeVar rfl rfl rfl rfl rfl) freeNil) (fun _ => rfl) (fun C U' M' r hrm => ?_) rfl (.inl rfl) rfl rfl (fun _ => rfl) rfl ?_
  · exact Ev.call rfl (n_teller_id _) (k_teller_id _) (EvL.cons (Ev.name rfl rfl) (EvL.cons (Ev.name rfl rfl) EvL.nil rfl) rfl) (teller_id_ok r n P (hr r hrm).1 (hr r hrm).2.1) rfl (fun _ => rfl) rfl
  refine @Ex.assignOwn _ _ _ _ _ _ _ _ _ _ ([rungD ("id", keepLeast (idOf P) rs)]) _ _ _ (EvL.cons (Ev.tuple (EvL.cons Ev.cstr (EvL.cons (Ev.name rfl rfl) EvL.nil rfl) rfl) (Nat.le_of_ble_eq_true rfl)) EvL.nil rfl) (Nat.le_of_ble_eq_true rfl) (.inl rfl) rfl fun a U M => ?_
  refine Ex.least (fun _ => 0) [] rfl (keepLeast_ne hne) (keepLeast_len hz) (Nat.le_of_ble_eq_true rfl) ⟨rfl, by decide, rfl, by decide, clNil, fun _ => rfl⟩ freeNil (fun _ => rfl) (fun C U' M' r hrm => ?_) rfl (.inl rfl) rfl rfl (fun _ => rfl) rfl ?_
  · refine Ev.callB (ds := [.tup []]) rfl (n_len _) rfl (by decide) (EvL.cons (Ev.eq (Ev.get2 (l := r.attrs) (x := "clusters") (Ev.item (Ev.name rfl rfl) Ev.int (ItemR.tup (j := 1) (by decide) rfl rfl) fun _ _ => rfl) Ev.cstr (Ev.tuple EvL.nil (Nat.le_of_ble_eq_true rfl)) rfl rfl rfl) rfl) EvL.nil rfl) (FnC.lenT (by decide)) rfl (fun _ => rfl) rfl
  refine @Ex.append _ _ _ _ _ _ _ _ _ _ _ _ ([_]) _ _ _ _ rfl (Ev.tuple (EvL.cons Ev.cstr (EvL.cons (Ev.name rfl rfl) EvL.nil rfl) rfl) (Nat.le_of_ble_eq_true rfl)) (Nat.le_of_ble_eq_true rfl) rfl rfl rfl rfl rfl rfl ?_
  refine Ex.least (addrOf P) [("peers", .val (peersD n P))] rfl (keepLeast_ne (keepLeast_ne hne)) (keepLeast_len (keepLeast_len hz)) (Nat.le_of_ble_eq_true rfl) ⟨rfl, by decide, rfl, by decide, clCons rfl clNil, fun _ => rfl⟩ (freeCons (freeVar rfl rfl rfl rfl rfl) freeNil) (fun _ => rfl) (fun C U' M' r hrm => ?_) rfl (.inl rfl) rfl rfl (fun _ => rfl) rfl ?_
  · have := hr r (keepLeast_sub (keepLeast_sub hrm))
    exact Ev.call rfl (n_teller_address _) (k_teller_address _) (EvL.cons (Ev.name rfl rfl) (EvL.cons (Ev.name rfl rfl) EvL.nil rfl) rfl) (teller_address_ok r n P this.1 this.2.1) rfl (fun _ => rfl) rfl
  refine Ex.append rfl (Ev.tuple (EvL.cons Ev.cstr (EvL.cons (Ev.name rfl rfl) EvL.nil rfl) rfl) (Nat.le_of_ble_eq_true rfl)) (Nat.le_of_ble_eq_true rfl) rfl rfl rfl rfl rfl rfl ?_
  exact @Ex.frz _ _ _ _ _ _ _ _ ("rungs") (a) _ [] rfl rfl fun U M => Ex.ret (Ev.name rfl rfl) rfl
end
end Mine

end

section
namespace Mine
open PySem PySem.W PySem.Calls PyProof.Rows

noncomputable def lpW (r : Rt) : Int := 0 - r.lp
noncomputable def plW (r : Rt) : Int := (r.nums.length : Int)
noncomputable def outW (P : Int → Pr) (r : Rt) : Int := if (P r.at').ebgp then 0 else 1
noncomputable def costW (r : Rt) : Int := r.cost.getD 0
noncomputable def usableL (rs : List Rt) : List Rt := rs.filter fun r => r.cost.isSome
noncomputable def midRungs (am : Bool) (P : Int → Pr) (u : List Rt) : List (Str × List Rt) :=
  let a1 := keepLeast lpW u
  let a2 := keepLeast (fun _ => 1) a1
  let a3 := keepLeast plW a2
  let a4 := keepLeast (·.org) a3
  let a5 := bestMeds am a4
  let a6 := keepLeast (outW P) a5
  let a7 := keepLeast costW a6
  [("usable", u), ("preference", a1), ("own", a2), ("path", a3), ("origin", a4), ("med", a5), ("outside", a6), ("cost", a7)]
noncomputable def costRung (am : Bool) (P : Int → Pr) (u : List Rt) : List Rt := keepLeast costW (keepLeast (outW P) (bestMeds am (keepLeast (·.org) (keepLeast plW (keepLeast (fun _ => 1) (keepLeast lpW u))))))
noncomputable def ladderL (am : Bool) (P : Int → Pr) (rs : List Rt) : List (Str × List Rt) :=
  if usableL rs = [] then [("usable", [])] else midRungs am P (usableL rs) ++ lastRungs P (costRung am P (usableL rs))

theorem lmin_le' : ∀ {l : List Int} {x : Int}, x ∈ l → lmin l ≤ x := fun h => lmin_le _ _ h
theorem bestMeds_ne {am : Bool} {rs : List Rt} (h : rs ≠ []) : bestMeds am rs ≠ [] := by
  intro e
  have hm := lmin_mem (rs.map (·.med)) (by simpa using h)
  obtain ⟨r, hr, e1⟩ := List.mem_map.mp hm
  have hriv : ∀ o ∈ rivalsOf am rs r, o ∈ rs := by
    intro o ho
    unfold rivalsOf at ho
    split at ho
    · exact ho
    · exact (List.mem_filter.mp ho).1
  have hself : r ∈ rivalsOf am rs r := by unfold rivalsOf; split <;> simp [hr]
  have hmin : lmin ((rivalsOf am rs r).map (·.med)) = r.med := by
    apply Int.le_antisymm
    · exact lmin_le' (List.mem_map_of_mem (f := (·.med)) hself)
    · have := lmin_mem ((rivalsOf am rs r).map (·.med)) (by intro e; rw [List.map_eq_nil_iff] at e; rw [e] at hself; cases hself)
      obtain ⟨o, ho, e2⟩ := List.mem_map.mp this
      rw [← e2, e1]
      exact lmin_le' (List.mem_map_of_mem (f := (·.med)) (hriv o ho))
  have : r ∈ bestMeds am rs := List.mem_filter.mpr ⟨hr, by unfold medBest; rw [hmin]; simp⟩
  rw [e] at this; cases this
theorem bestMeds_sub {am : Bool} {rs : List Rt} {r : Rt} (h : r ∈ bestMeds am rs) : r ∈ rs := (List.mem_filter.mp h).1
theorem bestMeds_len {am : Bool} {rs : List Rt} {n : Nat} (h : rs.length ≤ n) : (bestMeds am rs).length ≤ n := Nat.le_trans (List.length_filter_le _ _) h

section
variable {prog : Program} {w : World} {mg mb : Str → Option Value}
theorem ladder_ok (am : Bool) (rs : List Rt) (n : Nat) (P : Int → Pr) (hz : rs.length ≤ 1000) (hr : ∀ r ∈ rs, r.ok n) : FnC (TS w mg mb prog) (.ref 83) 3 [.lst (rs.map Rt.d), peersD n P, .sd (optsL am)] (.lst ((ladderL am P rs).map rungD)) := by
  refine @FnC.go _ _ _ _ _ _ _ _ _ _ _ _ _ _ _ _ _ (["routes", "peers", "options"]) _ _ _ rfl rfl (bind3 fun _ _ _ _ => rfl) rfl fun L g₀ U₀ U M => ?_
  have hu : (usableL rs).length ≤ 1000 := Nat.le_trans (List.length_filter_le _ _) hz
  have hur : ∀ r ∈ usableL rs, r.ok n := fun r h => hr r (List.mem_filter.mp h).1
  have huc : ∀ r ∈ usableL rs, r.cost.isSome = true := fun r h => (List.mem_filter.mp h).2
  refine @Ex.assign _ _ _ _ _ _ _ _ _ _ (.lst ((usableL rs).map Rt.d)) _ _ (Ev.call rfl (n_usable _) (k_usable _) (EvL.cons (Ev.name rfl rfl) EvL.nil rfl) ((usable_ok rs hz).mono (Nat.le_of_ble_eq_true rfl)) rfl (fun _ => rfl) rfl) (.inl rfl) rfl ?_
  refine @Ex.assignOwn _ _ _ _ _ _ _ _ _ _ ([rungD ("usable", usableL rs)]) _ _ _ (EvL.cons (Ev.tuple (EvL.cons Ev.cstr (EvL.cons (Ev.name rfl rfl) EvL.nil rfl) rfl) (Nat.le_of_ble_eq_true rfl)) EvL.nil rfl) (Nat.le_of_ble_eq_true rfl) (.inl rfl) rfl fun a U M => ?_
  refine @Ex.ifRet _ _ _ _ _ _ _ _ _ (decide (usableL rs = [])) _ _ (EvT.eq (EvT.cmp (Ev.callB (ds := [.lst ((usableL rs).map Rt.d)]) rfl (n_len _) rfl (by decide) (EvL.cons (Ev.name rfl rfl) EvL.nil rfl) (FnC.lenL (by rw [List.length_map]; omega)) rfl (fun _ => rfl) rfl) Ev.int CmpR.eqInt rfl) ?_) (fun hb => ?_) fun hb => ?_
  · rw [List.length_map]
    cases usableL rs with
    | nil => rfl
    | cons x l =>
      have e1 : (decide (x :: l = [])) = false := by simp
      rw [e1, beq_eq_false_iff_ne, List.length_cons]
      omega
  · have hnil : usableL rs = [] := of_decide_eq_true hb
    refine @Ex.frz _ _ _ _ _ _ _ _ ("rungs") (a) _ [] rfl rfl fun U M => Ex.ret (Ev.name rfl rfl) ?_
    unfold ladderL
    rw [if_pos hnil, hnil]; rfl
  · have hne : usableL rs ≠ [] := of_decide_eq_false hb
    generalize hus : usableL rs = u at *
    refine Ex.least lpW [] rfl hne hu (Nat.le_of_ble_eq_true rfl) ⟨rfl, by decide, rfl, by decide, clNil, fun _ => rfl⟩ freeNil (fun _ => rfl) (fun C U' M' r hrm => ?_) rfl (.inl rfl) rfl rfl (fun _ => rfl) rfl ?_
    · exact Ev.binop Ev.int (Ev.call rfl (n_preference_of _) (k_preference_of _) (EvL.cons (Ev.name rfl rfl) EvL.nil rfl) ((preference_of_ok r).mono (Nat.le_of_ble_eq_true rfl)) rfl (fun _ => rfl) rfl) BinR.sub
    have n1 := keepLeast_ne (wt := lpW) hne
    have z1 := keepLeast_len (wt := lpW) hu
    have s1 : ∀ r ∈ keepLeast lpW u, r ∈ u := fun r h => keepLeast_sub h
    generalize ha1 : keepLeast lpW u = a1 at n1 z1 s1 ⊢
    refine @Ex.append _ _ _ _ _ _ _ _ _ _ _ _ ([_]) _ _ _ _ rfl (Ev.tuple (EvL.cons Ev.cstr (EvL.cons (Ev.name rfl rfl) EvL.nil rfl) rfl) (Nat.le_of_ble_eq_true rfl)) (Nat.le_of_ble_eq_true rfl) rfl rfl rfl rfl rfl rfl ?_
    refine Ex.least (fun _ => 1) [] rfl n1 z1 (Nat.le_of_ble_eq_true rfl) ⟨rfl, by decide, rfl, by decide, clNil, fun _ => rfl⟩ freeNil (fun _ => rfl) (fun C U' M' r hrm => ?_) rfl (.inl rfl) rfl rfl (fun _ => rfl) rfl ?_
    · exact Ev.ifexp (b := false) (EvT.cmp (da := .int r.at') (Ev.item (Ev.name rfl rfl) Ev.int (ItemR.tup (j := 2) (by decide) rfl rfl) fun _ _ => rfl) Ev.cnone CmpR.isNone rfl) (fun h => nomatch h) fun _ => Ev.int
    have n2 := keepLeast_ne (wt := fun _ => 1) n1
    have z2 := keepLeast_len (wt := fun _ => 1) z1
    have s2 : ∀ r ∈ keepLeast (fun _ => 1) a1, r ∈ u := fun r h => s1 r (keepLeast_sub h)
    generalize ha2 : keepLeast (fun _ => 1) a1 = a2 at n2 z2 s2 ⊢
    refine @Ex.append _ _ _ _ _ _ _ _ _ _ _ _ ([_, _]) _ _ _ _ rfl (Ev.tuple (EvL.cons Ev.cstr (EvL.cons (Ev.name rfl rfl) EvL.nil rfl) rfl) (Nat.le_of_ble_eq_true rfl)) (Nat.le_of_ble_eq_true rfl) rfl rfl rfl rfl rfl rfl ?_
    refine Ex.least plW [] rfl n2 z2 (Nat.le_of_ble_eq_true rfl) ⟨rfl, by decide, rfl, by decide, clNil, fun _ => rfl⟩ freeNil (fun _ => rfl) (fun C U' M' r hrm => ?_) rfl (.inl rfl) rfl rfl (fun _ => rfl) rfl ?_
    · refine Ev.call rfl (n_path_length _) (k_path_length _) (EvL.cons (Ev.item (Ev.item (Ev.name rfl rfl) Ev.int (ItemR.tup (j := 1) (by decide) rfl rfl) fun _ _ => rfl) Ev.cstr (ItemR.sd rfl) fun _ _ => rfl) EvL.nil rfl) ((path_length_ok r.nums ?_).mono (Nat.le_of_ble_eq_true rfl)) rfl (fun _ => rfl) rfl
      have := (hur r (s2 r hrm)).2.2
      simp [Rt.nums]; omega
    have n3 := keepLeast_ne (wt := plW) n2
    have z3 := keepLeast_len (wt := plW) z2
    have s3 : ∀ r ∈ keepLeast plW a2, r ∈ u := fun r h => s2 r (keepLeast_sub h)
    generalize ha3 : keepLeast plW a2 = a3 at n3 z3 s3 ⊢
    refine @Ex.append _ _ _ _ _ _ _ _ _ _ _ _ ([_, _, _]) _ _ _ _ rfl (Ev.tuple (EvL.cons Ev.cstr (EvL.cons (Ev.name rfl rfl) EvL.nil rfl) rfl) (Nat.le_of_ble_eq_true rfl)) (Nat.le_of_ble_eq_true rfl) rfl rfl rfl rfl rfl rfl ?_
    refine Ex.least (·.org) [] rfl n3 z3 (Nat.le_of_ble_eq_true rfl) ⟨rfl, by decide, rfl, by decide, clNil, fun _ => rfl⟩ freeNil (fun _ => rfl) (fun C U' M' r hrm => ?_) rfl (.inl rfl) rfl rfl (fun _ => rfl) rfl ?_
    · exact Ev.item (Ev.item (Ev.name rfl rfl) Ev.int (ItemR.tup (j := 1) (by decide) rfl rfl) fun _ _ => rfl) Ev.cstr (ItemR.sd rfl) fun _ _ => rfl
    have n4 := keepLeast_ne (wt := (·.org)) n3
    have z4 := keepLeast_len (wt := (·.org)) z3
    have s4 : ∀ r ∈ keepLeast (·.org) a3, r ∈ u := fun r h => s3 r (keepLeast_sub h)
    generalize ha4 : keepLeast (·.org) a3 = a4 at n4 z4 s4 ⊢
    refine @Ex.append _ _ _ _ _ _ _ _ _ _ _ _ ([_, _, _, _]) _ _ _ _ rfl (Ev.tuple (EvL.cons Ev.cstr (EvL.cons (Ev.name rfl rfl) EvL.nil rfl) rfl) (Nat.le_of_ble_eq_true rfl)) (Nat.le_of_ble_eq_true rfl) rfl rfl rfl rfl rfl rfl ?_
    refine @Ex.assign _ _ _ _ _ _ _ _ _ _ (.lst ((bestMeds am a4).map Rt.d)) _ _ (Ev.call rfl (n_best_meds _) (k_best_meds _) (EvL.cons (Ev.name rfl rfl) (EvL.cons (Ev.name rfl rfl) EvL.nil rfl) rfl) ((best_meds_ok am a4 z4 fun r h => (hur r (s4 r h)).2.2).mono (Nat.le_of_ble_eq_true rfl)) rfl (fun _ => rfl) rfl) (.inl rfl) rfl ?_
    have n5 := bestMeds_ne (am := am) n4
    have z5 := bestMeds_len (am := am) z4
    have s5 : ∀ r ∈ bestMeds am a4, r ∈ u := fun r h => s4 r (bestMeds_sub h)
    generalize ha5 : bestMeds am a4 = a5 at n5 z5 s5 ⊢
    refine @Ex.append _ _ _ _ _ _ _ _ _ _ _ _ ([_, _, _, _, _]) _ _ _ _ rfl (Ev.tuple (EvL.cons Ev.cstr (EvL.cons (Ev.name rfl rfl) EvL.nil rfl) rfl) (Nat.le_of_ble_eq_true rfl)) (Nat.le_of_ble_eq_true rfl) rfl rfl rfl rfl rfl rfl ?_
    refine Ex.least (outW P) [("peers", .val (peersD n P))] rfl n5 z5 (Nat.le_of_ble_eq_true rfl) ⟨rfl, by decide, rfl, by decide, clCons rfl clNil, fun _ => rfl⟩ (freeCons (freeVar rfl rfl rfl rfl rfl) freeNil) (fun _ => rfl) (fun C U' M' r hrm => ?_) rfl (.inl rfl) rfl rfl (fun _ => rfl) rfl ?_
    · have hok := hur r (s5 r hrm)
      refine Ev.ifexp (b := (P r.at').ebgp) (EvT.plain (Ev.call rfl (n_is_from_outside _) (k_is_from_outside _) (EvL.cons (Ev.name rfl rfl) (EvL.cons (Ev.name rfl rfl) EvL.nil rfl) rfl) ((is_from_outside_ok r n P hok.1 hok.2.1).mono (Nat.le_of_ble_eq_true rfl)) rfl (fun _ => rfl) rfl) rfl) (fun hb => Ev.eq Ev.int ?_) (fun hb => Ev.eq Ev.int ?_)
      · unfold outW; rw [if_pos hb]
      · unfold outW; rw [if_neg (by rw [hb]; simp)]
    have n6 := keepLeast_ne (wt := outW P) n5
    have z6 := keepLeast_len (wt := outW P) z5
    have s6 : ∀ r ∈ keepLeast (outW P) a5, r ∈ u := fun r h => s5 r (keepLeast_sub h)
    generalize ha6 : keepLeast (outW P) a5 = a6 at n6 z6 s6 ⊢
    refine @Ex.append _ _ _ _ _ _ _ _ _ _ _ _ ([_, _, _, _, _, _]) _ _ _ _ rfl (Ev.tuple (EvL.cons Ev.cstr (EvL.cons (Ev.name rfl rfl) EvL.nil rfl) rfl) (Nat.le_of_ble_eq_true rfl)) (Nat.le_of_ble_eq_true rfl) rfl rfl rfl rfl rfl rfl ?_
    refine Ex.least costW [] rfl n6 z6 (Nat.le_of_ble_eq_true rfl) ⟨rfl, by decide, rfl, by decide, clNil, fun _ => rfl⟩ freeNil (fun _ => rfl) (fun C U' M' r hrm => ?_) rfl (.inl rfl) rfl rfl (fun _ => rfl) rfl ?_
    · refine Ev.eq (Ev.item (Ev.name rfl rfl) Ev.int (ItemR.tup (d := optD r.cost) (j := 3) (by decide) rfl rfl) fun _ _ => rfl) ?_
      have := huc r (s6 r hrm)
      unfold costW
      cases hc : r.cost with
      | none => rw [hc] at this; cases this
      | some c => rfl
    have n7 := keepLeast_ne (wt := costW) n6
    have z7 := keepLeast_len (wt := costW) z6
    have s7 : ∀ r ∈ keepLeast costW a6, r ∈ u := fun r h => s6 r (keepLeast_sub h)
    generalize ha7 : keepLeast costW a6 = a7 at n7 z7 s7 ⊢
    refine @Ex.append _ _ _ _ _ _ _ _ _ _ _ _ ([_, _, _, _, _, _, _]) _ _ _ _ rfl (Ev.tuple (EvL.cons Ev.cstr (EvL.cons (Ev.name rfl rfl) EvL.nil rfl) rfl) (Nat.le_of_ble_eq_true rfl)) (Nat.le_of_ble_eq_true rfl) rfl rfl rfl rfl rfl rfl ?_
    refine @Ex.frz _ _ _ _ _ _ _ _ ("rungs") (a) _ ["left", "peers"] rfl rfl fun U M => Ex.ret (Ev.binop (Ev.name rfl rfl) (Ev.call rfl (n_last_rungs _) (k_last_rungs _) (EvL.cons (Ev.name rfl rfl) (EvL.cons (Ev.name rfl rfl) EvL.nil rfl) rfl) ((last_rungs_ok a7 n P n7 z7 fun r h => hur r (s7 r h)).mono (Nat.le_of_ble_eq_true rfl)) rfl (fun _ => rfl) rfl) (BinR.addL (Nat.le_of_ble_eq_true rfl))) ?_
    unfold ladderL costRung midRungs
    rw [hus, if_neg hne, List.map_append]
    subst ha7 ha6 ha5 ha4 ha3 ha2 ha1
    rfl
end
end Mine

end

section
namespace Mine
open PySem PySem.W PySem.Calls PyProof.Rows

theorem optD_cmp (n : Nat) (a b : Option Int) : cmp (n + 1) (optD a) (optD b) = some (decide (a = b)) := by
  cases a <;> cases b <;> simp [optD, cmp, Bool.beq_eq_decide_eq]
theorem cmp_tup {n : Nat} {l m : List D} : cmp (n + 1) (.tup l) (.tup m) = (cmpL (cmp n) l m).map fun e => e && l.length == m.length := rfl
theorem cmp_int {n : Nat} {i j : Int} : cmp (n + 1) (.int i) (.int j) = some (i == j) := rfl
theorem cmp_str {n : Nat} {i j : Str} : cmp (n + 1) (.str i) (.str j) = some (i == j) := rfl
theorem cmpL_nil {c : D → D → Option Bool} : cmpL c [] [] = some true := rfl
theorem cmpL_cons {c : D → D → Option Bool} {a b : D} {l m : List D} {x y : Bool} (h1 : c a b = some x) (h2 : cmpL c l m = some y) : cmpL c (a :: l) (b :: m) = some (x && y) := by rw [cmpL, h1, h2]
theorem rep_cmp (n : Nat) : ∀ i j : Nat, cmpL (cmp (n + 1)) (List.replicate i (D.int 300)) (List.replicate j (D.int 300)) = some true
  | 0, _ => by simp [cmpL]
  | _ + 1, 0 => by simp [cmpL, List.replicate]
  | i + 1, j + 1 => cmpL_cons (x := true) (by rw [cmp_int]; simp) (rep_cmp n i j)
theorem nums_cmp (n : Nat) (r q : Rt) : cmp (n + 2) (.tup r.nums) (.tup q.nums) = some (decide (r.fst = q.fst ∧ r.many = q.many)) := by
  rw [cmp_tup, Rt.nums, Rt.nums, cmpL_cons cmp_int (rep_cmp n _ _), Option.map_some]
  congr 1
  rw [Bool.eq_iff_iff]
  simp
theorem rt_cmp (n : Nat) (r q : Rt) : cmp (n + 6) r.d q.d = some (decide (r = q)) := by
  have h1 := optD_cmp (n + 4) r.cost q.cost
  have h2 := nums_cmp n r q
  have hp : cmp (n + 4) r.path q.path = some (decide (r.fst = q.fst ∧ r.many = q.many)) := by
    have hs : cmp (n + 3) (segD r.nums) (segD q.nums) = some (decide (r.fst = q.fst ∧ r.many = q.many)) := by
      rw [segD, segD, cmp_tup, cmpL_cons cmp_int (cmpL_cons h2 cmpL_nil)]
      simp
    rw [Rt.path, Rt.path, cmp_tup, cmpL_cons hs cmpL_nil]
    simp
  have ha : cmp (n + 5) (.sd r.attrs) (.sd q.attrs) = some (decide (r.org = q.org ∧ (r.fst = q.fst ∧ r.many = q.many) ∧ r.med = q.med ∧ r.at' = q.at' ∧ r.lp = q.lp)) := by
    show (if r.attrs.map (·.1) = q.attrs.map (·.1) then cmpL (cmp (n + 4)) (r.attrs.map (·.2)) (q.attrs.map (·.2)) else none) = _
    rw [if_pos (by simp [Rt.attrs])]
    show cmpL _ [_, _, _, _, _] [_, _, _, _, _] = _
    rw [cmpL_cons cmp_int (cmpL_cons hp (cmpL_cons cmp_int (cmpL_cons cmp_int (cmpL_cons cmp_int cmpL_nil))))]
    congr 1
    rw [Bool.eq_iff_iff]
    simp
  have h01 : cmp (n + 5) (.tup [.int 0, .int 1]) (.tup [.int 0, .int 1]) = some true := by rw [cmp_tup, cmpL_cons cmp_int (cmpL_cons cmp_int cmpL_nil)]; rfl
  rw [Rt.d, Rt.d, cmp_tup, cmpL_cons h01 (cmpL_cons ha (cmpL_cons cmp_int (cmpL_cons h1 (cmpL_cons cmp_int cmpL_nil)))), Option.map_some]
  congr 1
  rw [Bool.eq_iff_iff]
  obtain ⟨a1, a2, a3, a4, a5, a6, a7⟩ := r
  obtain ⟨b1, b2, b3, b4, b5, b6, b7⟩ := q
  simp
  constructor
  · rintro ⟨⟨h1, ⟨h2, h3⟩, h4, h5, h6⟩, h7, h8⟩
    exact ⟨h5, h1, h4, h6, h2, h3, h8⟩
  · rintro ⟨h5, h1, h4, h6, h2, h3, h8⟩
    exact ⟨⟨h1, ⟨h2, h3⟩, h4, h5, h6⟩, h5, h8⟩
theorem lst_cmp {α : Type} [DecidableEq α] (n : Nat) (φ : α → D) (h : ∀ a b, cmp n (φ a) (φ b) = some (decide (a = b))) : ∀ l m : List α, cmp (n + 1) (.lst (l.map φ)) (.lst (m.map φ)) = some (decide (l = m)) := by
  intro l m
  change (if _ then cmpL (cmp n) _ _ else _) = _
  simp only [List.length_map]
  split
  · rename_i hl
    induction l generalizing m with
    | nil => cases m with
      | nil => simp [cmpL]
      | cons => simp at hl
    | cons a l ih =>
      cases m with
      | nil => simp at hl
      | cons b m =>
        have := ih m (by simpa using hl)
        simp only [List.map_cons, cmpL, h, this]
        congr 1
        rw [Bool.eq_iff_iff]
        simp
  · rename_i hl
    have : l ≠ m := fun e => hl (by rw [e])
    simp [this]
theorem rts_cmp (n : Nat) (l m : List Rt) : cmp (n + 7) (.lst (l.map Rt.d)) (.lst (m.map Rt.d)) = some (decide (l = m)) := lst_cmp (n + 6) Rt.d (rt_cmp n) l m
theorem rung_cmp (n : Nat) (x y : Str × List Rt) : cmp (n + 8) (rungD x) (rungD y) = some (decide (x = y)) := by
  have h := rts_cmp n x.2 y.2
  rw [rungD, rungD, cmp_tup, cmpL_cons cmp_str (cmpL_cons h cmpL_nil), Option.map_some]
  congr 1
  rw [Bool.eq_iff_iff]
  obtain ⟨a, b⟩ := x
  obtain ⟨c, d⟩ := y
  simp
theorem rungs_cmp (n : Nat) (l m : List (Str × List Rt)) : cmp (n + 9) (.lst (l.map rungD)) (.lst (m.map rungD)) = some (decide (l = m)) := lst_cmp (n + 8) rungD (rung_cmp n) l m
theorem inD_rt (r : Rt) (l : List Rt) : inD r.d (l.map Rt.d) = decide (r ∈ l) := by
  unfold inD
  rw [List.any_map, Bool.eq_iff_iff, List.any_eq_true]
  simp only [decide_eq_true_eq]
  constructor
  · rintro ⟨x, hx, e⟩
    have := rt_cmp 3 x r
    simp only [Function.comp] at e
    rw [this] at e
    simp at e
    exact e ▸ hx
  · intro h
    refine ⟨r, h, ?_⟩
    have := rt_cmp 3 r r
    simp only [Function.comp]
    rw [this]; simp
theorem inD_ok (r : Rt) (l : List Rt) : ∀ d' ∈ l.map Rt.d, (cmp 9 d' r.d).isSome = true := by
  intro d' h
  obtain ⟨q, _, rfl⟩ := List.mem_map.mp h
  rw [rt_cmp 3]; rfl
section
variable {S : S0}
theorem CmpR.eqRt {r q : Rt} : CmpR S .Eq r.d q.d (decide (r = q)) := CmpR.eqTup (rt_cmp 3 r q)
theorem CmpR.neRt {r q : Rt} : CmpR S .NotEq r.d q.d (!decide (r = q)) := CmpR.neTup (rt_cmp 3 r q)
theorem CmpR.eqRts {l m : List Rt} : CmpR S .Eq (.lst (l.map Rt.d)) (.lst (m.map Rt.d)) (decide (l = m)) := CmpR.eqLst (rts_cmp 2 l m)
theorem CmpR.neRts {l m : List Rt} : CmpR S .NotEq (.lst (l.map Rt.d)) (.lst (m.map Rt.d)) (!decide (l = m)) := CmpR.neLst (rts_cmp 2 l m)
theorem CmpR.neRungs {l m : List (Str × List Rt)} : CmpR S .NotEq (.lst (l.map rungD)) (.lst (m.map rungD)) (!decide (l = m)) := CmpR.neLst (rungs_cmp 0 l m)
theorem CmpR.inRt {r : Rt} {l : List Rt} : CmpR S .In r.d (.lst (l.map Rt.d)) (decide (r ∈ l)) := by rw [← inD_rt]; exact CmpR.inLst (inD_ok r l)
theorem CmpR.notInRt {r : Rt} {l : List Rt} : CmpR S .NotIn r.d (.lst (l.map Rt.d)) (!decide (r ∈ l)) := by rw [← inD_rt]; exact CmpR.notInLst (inD_ok r l)
theorem Ev.neg {f : Fm} {y : Dy} {e : Expr} {i : Int} {pos} (h : Ev S f y e (.int i)) : Ev S f y (.UnaryOp .USub e pos) (.int (-i)) := by
  intro A s Q E hA ok hq
  refine UnaryOp_ (h A s _ _ hA ok fun v1 g1 t1 k1 r1 => ?_)
  replace r1 := r1.inv
  cases r1
  exact PyProof.Rows.neg_int (hq _ g1 _ k1 (.int _ _))
end
end Mine

end

section
namespace Mine
open PySem PySem.W PySem.Calls PyProof.Rows

noncomputable def lastOf (l : List (Str × List Rt)) : List Rt := match l.getLast? with
  | some x => x.2
  | none => []
noncomputable def bestL (am : Bool) (P : Int → Pr) (rs : List Rt) : Option Rt := (lastOf (ladderL am P rs)).head?
noncomputable def optRtD : Option Rt → D
  | none => .none
  | some r => r.d
noncomputable def rungOf (l : List (Str × List Rt)) (x : Str) : List Rt := match l.find? (fun p => p.1 == x) with
  | some p => p.2
  | none => []
noncomputable def eqStep (b : Rt) (most : Int) (found : List Rt) (r : Rt) : List Rt := if r ≠ b ∧ r.fst = b.fst ∧ (found.length : Int) < most then found ++ [r] else found
noncomputable def equalL (am : Bool) (P : Int → Pr) (rs : List Rt) (most : Int) : List Rt := match bestL am P rs with
  | none => []
  | some b => if most < 1 then [] else (rungOf (ladderL am P rs) "cost").foldl (eqStep b most) [b]
theorem ladderL_ne {am : Bool} {P : Int → Pr} {rs : List Rt} : ladderL am P rs ≠ [] := by
  unfold ladderL; split <;> simp [midRungs]
theorem ladderL_short {am : Bool} {P : Int → Pr} {rs : List Rt} : (ladderL am P rs).length ≤ 11 := by
  unfold ladderL; split <;> simp [midRungs, lastRungs]
theorem ladderL_rung {am : Bool} {P : Int → Pr} {rs : List Rt} {x : Str × List Rt} (h : x ∈ ladderL am P rs) : x.2.length ≤ rs.length ∧ ∀ r ∈ x.2, r ∈ rs := by
  have fl : ∀ {p : Rt → Bool} {l : List Rt}, (l.length ≤ rs.length ∧ ∀ r ∈ l, r ∈ rs) → ((l.filter p).length ≤ rs.length ∧ ∀ r ∈ l.filter p, r ∈ rs) := fun {p l} h => ⟨Nat.le_trans (List.length_filter_le _ _) h.1, fun r q => h.2 r (List.mem_filter.mp q).1⟩
  have b0 : rs.length ≤ rs.length ∧ ∀ r ∈ rs, r ∈ rs := ⟨Nat.le_refl _, fun _ h => h⟩
  unfold ladderL at h
  split at h
  · simp at h; subst h; simp
  · simp only [midRungs, lastRungs, List.cons_append, List.nil_append, List.mem_cons, List.not_mem_nil, or_false, keepLeast, bestMeds, costRung, usableL] at h
    rcases h with rfl | rfl | rfl | rfl | rfl | rfl | rfl | rfl | rfl | rfl | rfl <;> (dsimp only; repeat' (first | exact b0 | apply fl))
theorem bestL_mem {am : Bool} {P : Int → Pr} {rs : List Rt} {b : Rt} (h : bestL am P rs = some b) : b ∈ rs := by
  unfold bestL lastOf at h
  split at h
  · rename_i x hx
    exact (ladderL_rung (List.mem_of_getLast? hx)).2 b (List.mem_of_head? h)
  · simp at h
theorem rungOf_sub {am : Bool} {P : Int → Pr} {rs : List Rt} {x : Str} : (rungOf (ladderL am P rs) x).length ≤ rs.length ∧ ∀ r ∈ rungOf (ladderL am P rs) x, r ∈ rs := by
  unfold rungOf
  split
  · rename_i p hp; exact ladderL_rung (List.mem_of_find?_eq_some hp)
  · simp

section
variable {prog : Program} {w : World} {mg mb : Str → Option Value}
theorem best_of_ok (am : Bool) (rs : List Rt) (n : Nat) (P : Int → Pr) (hz : rs.length ≤ 1000) (hr : ∀ r ∈ rs, r.ok n) : FnC (TS w mg mb prog) (.ref 95) 4 [.lst (rs.map Rt.d), peersD n P, .sd (optsL am)] (optRtD (bestL am P rs)) := by
  refine @FnC.go _ _ _ _ _ _ _ _ _ _ _ _ _ _ _ _ _ (["routes", "peers", "options"]) _ _ _ rfl rfl (bind3 fun _ _ _ _ => rfl) rfl fun L g₀ U₀ U M => ?_
  obtain ⟨x, hx⟩ : ∃ x, (ladderL am P rs).getLast? = some x := by
    cases h : (ladderL am P rs).getLast? with
    | none => exact absurd (List.getLast?_eq_none_iff.mp h) ladderL_ne
    | some x => exact ⟨x, rfl⟩
  have hs := ladderL_short (am := am) (P := P) (rs := rs)
  have h0 : (ladderL am P rs).length ≠ 0 := fun e => ladderL_ne (List.eq_nil_of_length_eq_zero e)
  have hxl := (ladderL_rung (List.mem_of_getLast? hx)).1
  have hb : bestL am P rs = x.2.head? := by unfold bestL lastOf; rw [hx]
  refine @Ex.assign _ _ _ _ _ _ _ _ _ _ (.lst (x.2.map Rt.d)) _ _ (Ev.item (da := rungD x) (Ev.item (Ev.call rfl (n_ladder _) (k_ladder _) (EvL.cons (Ev.name rfl rfl) (EvL.cons (Ev.name rfl rfl) (EvL.cons (Ev.name rfl rfl) EvL.nil rfl) rfl) rfl) (ladder_ok am rs n P hz hr) rfl (fun _ => rfl) rfl) (Ev.neg Ev.int) (ItemR.lstNeg (by decide) ?_ (by decide) ?_) fun _ _ => rfl) Ev.int (ItemR.tup (j := 1) (by decide) rfl rfl) fun _ _ => rfl) (.inl rfl) rfl ?_
  · rw [List.length_map]; omega
  · rw [List.length_map, List.getElem?_map]
    rw [List.getLast?_eq_getElem?] at hx
    rw [show ((-1 : Int) + ((ladderL am P rs).length : Int)).toNat = (ladderL am P rs).length - 1 by omega, hx]; rfl
  refine @Ex.ret _ _ _ _ _ _ _ _ (optRtD x.2.head?) _ (Ev.ifexp (b := decide (x.2 ≠ [])) (EvT.eq (EvT.cmp (Ev.callB (ds := [.lst (x.2.map Rt.d)]) rfl (n_len _) rfl (by decide) (EvL.cons (Ev.name rfl rfl) EvL.nil rfl) (FnC.lenL (by rw [List.length_map]; omega)) rfl (fun _ => rfl) rfl) Ev.int CmpR.gtInt rfl) ?_) (fun hb => ?_) fun hb => ?_) (by rw [hb])
  · rw [List.length_map]
    cases x.2 with
    | nil => rfl
    | cons a l => simp
  · refine Ev.item (Ev.name rfl rfl) Ev.int (ItemR.lst (by decide) (by decide) ?_) fun _ _ => rfl
    cases hx2 : x.2 with
    | nil => rw [hx2] at hb; simp at hb
    | cons a l => rfl
  · refine Ev.eq Ev.cnone ?_
    cases hx2 : x.2 with
    | nil => rfl
    | cons a l => rw [hx2] at hb; simp at hb
theorem rung_of_ok (am : Bool) (rs : List Rt) (n : Nat) (P : Int → Pr) (x : Str) (hz : rs.length ≤ 1000) (hr : ∀ r ∈ rs, r.ok n) : FnC (TS w mg mb prog) (.ref 102) 4 [.lst (rs.map Rt.d), peersD n P, .sd (optsL am), .str x] (.lst ((rungOf (ladderL am P rs) x).map Rt.d)) := by
  refine @FnC.go _ _ _ _ _ _ _ _ _ _ _ _ _ _ _ _ _ (["routes", "peers", "options", "wanted"]) _ _ _ rfl rfl (bind4 fun _ _ _ _ _ => rfl) rfl fun L g₀ U₀ U M => ?_
  generalize hl : ladderL am P rs = l
  refine @Ex.forM _ _ _ _ _ _ _ _ _ (l) _ _ _ _ _ (fun _ => rungD) (ix_map _ _) (fun i => if (l.take i).any (fun p => p.1 == x) then never else [("wanted", .val (.str x))]) (fun _ d => match d with | .tup [a, b] => [("left", .val b), ("word", .val a)] | _ => []) (Src.list (Ev.call rfl (n_ladder _) (k_ladder _) (EvL.cons (Ev.name rfl rfl) (EvL.cons (Ev.name rfl rfl) (EvL.cons (Ev.name rfl rfl) EvL.nil rfl) rfl) rfl) (by rw [← hl]; exact ladder_ok am rs n P hz hr) rfl (fun _ => rfl) rfl)) (Sub.cons rfl Sub.nil) (fun i r hr => Asg.pair (.inl rfl) (.inl rfl)) (fun U' i p hp => ?_) (fun _ => rfl) ?_
  · by_cases hb : (l.take i).any (fun p => p.1 == x) = true
    · rw [if_pos hb]
      exact @Ex.absurd _ _ _ _ _ _ _ _ ("?") _ rfl rfl
    · rw [if_neg hb]
      refine @Ex.ifRet _ _ _ _ _ _ _ _ _ (p.1 == x) _ _ (EvT.cmp (Ev.name rfl rfl) (Ev.name rfl rfl) CmpR.eqStr rfl) (fun q => @Ex.ret _ _ _ _ _ _ _ _ (.lst (p.2.map Rt.d)) _ (Ev.name rfl rfl) ?_) fun q => Ex.post ?_
      · have hf : l.find? (fun p => p.1 == x) = some p := by
          have e : l = l.take i ++ p :: l.drop (i + 1) := by
            obtain ⟨hi, e⟩ := List.getElem?_eq_some_iff.mp hp
            rw [← e, List.getElem_cons_drop, List.take_append_drop]
          rw [e, List.find?_append]
          have : (l.take i).find? (fun p => p.1 == x) = none := by
            rw [List.find?_eq_none]
            intro z hz q
            exact hb (List.any_eq_true.mpr ⟨z, hz, q⟩)
          rw [this]
          simp [q]
        unfold rungOf; rw [hf]
      · have : (l.take (i + 1)).any (fun p => p.1 == x) = false := by
          rw [List.take_add_one, hp, List.any_append]
          rw [Bool.eq_false_iff.mpr hb]
          simp [q]
        rw [if_neg (by rw [this]; simp)]
        exact Sub.cons rfl Sub.nil
  · rw [List.take_length]
    by_cases hb : l.any (fun p => p.1 == x) = true
    · rw [if_pos hb]
      exact @Ex.absurd _ _ _ _ _ _ _ _ ("?") _ rfl rfl
    · rw [if_neg hb]
      refine Ex.ret (Ev.list EvL.nil (Nat.le_of_ble_eq_true rfl)) ?_
      have : l.find? (fun p => p.1 == x) = none := by
        rw [List.find?_eq_none]
        intro z hz q
        exact hb (List.any_eq_true.mpr ⟨z, hz, q⟩)
      unfold rungOf; rw [this]; rfl

end
theorem Ev.lenOwn {S : S0} {f : Fm} {U M : List Addr} {lk : List (Str × LV)} {x y : Str} {p q pos : Pos} {a : Addr} {l : List D} (hl : lk.lookup y = some (.own a (.lst l))) (hz : l.length ≤ 1000) (hx : f.env.kindOf x = some .globalImplicit) (hv : nsIn S.K mainGlobals x = some none) (hb : bootBuiltins x = some (.builtin "len")) (hn : x ≠ "__name__")
    (he : starEach [.Name y q] f.env = (false, eval (.Name y q) f.env) :: starEach [] f.env) (hp : ∀ pos, (backTo pos (starEach [] f.env)).any (·.1) = false) (hd : (x == ("__debug__" : Str)) = false) (hd2 : (y == ("__debug__" : Str)) = false) :
    Ev S f ⟨U, M, lk⟩ (.Call (.Name x p) [.Name y q] [] pos) (.int l.length) := by
  intro A s Q E hA ok hq
  obtain ⟨v, hv', rfl, aM, aL, og⟩ := ok.vars y _ hl
  refine Call_ (Name_function_global ok.kind hx (loadGlobal_builtin (env := f.env) (by rw [ok.glob]; exact ok.top.g) (mg_none_of ok.top.X ok.top.g hv) (by rw [ok.blt]; exact ok.top.b) ((ok.top.builtins x hn).trans hb) ?_) hd)
  refine PyProof.Rows.callWith_builtin1 ?_ he (hp _)
  rw [he]
  show wpAny _ A (spliced ((false, eval (.Name y q) f.env) :: backTo pos (starEach [] f.env))) _ E s
  unfold spliced
  refine wpAny_bind (load_var ok.kind hv' hd2 ?_)
  simp only [Bool.false_eq_true, if_false]
  refine wpAny_bind (wpAny_pure (wpAny_bind (wpAny_holding (spliced_nil (wpAny_pure ?_)))))
  cases og with
  | @lst vs n ds g r =>
    have hlen := r.length
    refine Calls.call_len_list (items := vs.toArray) ⟨_, g, rfl, n, rfl⟩ (by rw [List.size_toArray, hlen]; omega) ?_
    rw [List.size_toArray, hlen]
    exact hq _ s.heap _ (Keep.refl _) (.int _ _)

section
variable {prog : Program} {w : World} {mg mb : Str → Option Value}
theorem equal_ones_ok (am : Bool) (rs : List Rt) (n : Nat) (P : Int → Pr) (most : Int) (hz : rs.length ≤ 900) (hr : ∀ r ∈ rs, r.ok n) : FnC (TS w mg mb prog) (.ref 109) 5 [.lst (rs.map Rt.d), peersD n P, .sd (optsL am), .int most] (.lst ((equalL am P rs most).map Rt.d)) := by
  refine @FnC.go _ _ _ _ _ _ _ _ _ _ _ _ _ _ _ _ _ (["routes", "peers", "options", "most"]) _ _ _ rfl rfl (bind4 fun _ _ _ _ _ => rfl) rfl fun L g₀ U₀ U M => ?_
  refine Ex.assign (Ev.call rfl (n_best_of _) (k_best_of _) (EvL.cons (Ev.name rfl rfl) (EvL.cons (Ev.name rfl rfl) (EvL.cons (Ev.name rfl rfl) EvL.nil rfl) rfl) rfl) (best_of_ok am rs n P (by omega) hr) rfl (fun _ => rfl) rfl) (.inl rfl) rfl ?_
  refine @Ex.ifRet _ _ _ _ _ _ _ _ _ ((optRtD (bestL am P rs)).isNone || decide (most < 1)) _ _ (EvT.eq (EvT.orCons (EvT.cmp (Ev.name rfl rfl) Ev.cnone CmpR.isNone rfl) fun _ => EvT.orCons (EvT.cmp (Ev.name rfl rfl) Ev.int CmpR.ltInt rfl) fun _ => EvT.orNil) (by rw [Bool.or_false])) (fun hb => ?_) fun hb => ?_
  · refine Ex.ret (Ev.list EvL.nil (Nat.le_of_ble_eq_true rfl)) ?_
    unfold equalL
    cases hbl : bestL am P rs with
    | none => rfl
    | some b =>
      rw [hbl] at hb
      have : most < 1 := by simpa [optRtD, D.isNone, Rt.d] using hb
      simp [this]
  · obtain ⟨b, hbl⟩ : ∃ b, bestL am P rs = some b := by
      cases hbl : bestL am P rs with
      | none => rw [hbl] at hb; simp [optRtD, D.isNone] at hb
      | some b => exact ⟨b, rfl⟩
    have hm : ¬ most < 1 := by rw [hbl] at hb; simpa [optRtD, D.isNone, Rt.d] using hb
    have hbm := bestL_mem hbl
    have he : equalL am P rs most = (rungOf (ladderL am P rs) "cost").foldl (eqStep b most) [b] := by unfold equalL; rw [hbl]; simp [hm]
    obtain ⟨hl1, hl2⟩ := rungOf_sub (am := am) (P := P) (rs := rs) (x := "cost")
    rw [he, hbl]
    generalize hl : rungOf (ladderL am P rs) "cost" = l at hl1 hl2
    have hlen : ∀ i, ((l.take i).foldl (eqStep b most) [b]).length ≤ i + 1 := by
      intro i
      have key : ∀ (m : List Rt) (f0 : List Rt), (m.foldl (eqStep b most) f0).length ≤ f0.length + m.length := by
        intro m
        induction m with
        | nil => intro f0; simp
        | cons x m ih =>
          intro f0
          rw [List.foldl_cons]
          refine Nat.le_trans (ih _) ?_
          have : (eqStep b most f0 x).length ≤ f0.length + 1 := by unfold eqStep; split <;> simp
          simp; omega
      refine Nat.le_trans (key _ _) ?_
      have := List.length_take_le i l
      simp; omega
    refine @Ex.assignOwn _ _ _ _ _ _ _ _ _ _ ([b.d]) _ _ _ (EvL.cons (Ev.name rfl rfl) EvL.nil rfl) (Nat.le_of_ble_eq_true rfl) (.inl rfl) rfl fun a U M => ?_
    refine @Ex.forM _ _ _ _ _ _ _ _ _ (l) _ _ _ _ _ (fun _ => Rt.d) (ix_map _ _) (fun i => [("found", .own a (.lst (((l.take i).foldl (eqStep b most) [b]).map Rt.d))), ("best", .val b.d), ("most", .val (.int most))]) (fun _ d => [("route", .val d)]) (Src.list (Ev.call rfl (n_rung_of _) (k_rung_of _) (EvL.cons (Ev.name rfl rfl) (EvL.cons (Ev.name rfl rfl) (EvL.cons (Ev.name rfl rfl) (EvL.cons Ev.cstr EvL.nil rfl) rfl) rfl) rfl) (by rw [← hl]; exact rung_of_ok am rs n P "cost" (by omega) hr) rfl (fun _ => rfl) rfl)) (Sub.cons rfl (Sub.cons rfl (Sub.cons rfl Sub.nil))) (fun i r hr => Asg.name (.inl rfl)) (fun U' i r hrm => ?_) (fun _ => rfl) ?_
    · have hrr := hr r (hl2 r (List.mem_of_getElem? hrm))
      have hi : i < l.length := (List.getElem?_eq_some_iff.mp hrm).1
      have hlen' := hlen i
      have hnext : (l.take (i + 1)).foldl (eqStep b most) [b] = eqStep b most ((l.take i).foldl (eqStep b most) [b]) r := by
        rw [List.take_add_one, hrm, List.foldl_append]; rfl
      generalize hF : (l.take i).foldl (eqStep b most) [b] = F at hnext hlen'
      refine Ex.assign (Ev.cmp (nb_ev (Ev.name rfl rfl) rfl hrr.2.2 (Nat.le_of_ble_eq_true rfl) rfl) (nb_ev (Ev.name rfl rfl) rfl (hr b hbm).2.2 (Nat.le_of_ble_eq_true rfl) rfl) CmpR.eqInt rfl) (.inl rfl) rfl ?_
      refine Ex.last (@ExS.if _ _ _ _ _ _ (decide (r ≠ b ∧ r.fst = b.fst ∧ (F.length : Int) < most)) _ _ _ (EvT.eq (EvT.andCons (EvT.cmp (Ev.name rfl rfl) (Ev.name rfl rfl) CmpR.neRt rfl) fun _ => EvT.andCons (EvT.plain (Ev.name rfl rfl) rfl) fun _ => EvT.andCons (EvT.cmp (Ev.lenOwn (l := F.map Rt.d) rfl (by rw [List.length_map]; omega) rfl (n_len _) rfl (by decide) rfl (fun _ => rfl) rfl rfl) (Ev.name rfl rfl) CmpR.ltInt rfl) fun _ => EvT.andNil) ?_) (fun hb => ?_) fun hb => ?_)
      · rw [List.length_map, Bool.eq_iff_iff]
        simp
      · refine @Ex.append _ _ _ _ _ _ _ _ _ _ _ _ (F.map Rt.d) _ _ _ _ rfl (Ev.name rfl rfl) (by rw [List.length_map]; omega) rfl rfl rfl rfl rfl rfl (Ex.post (Sub.cons ?_ (Sub.cons rfl (Sub.cons rfl Sub.nil))))
        rw [hnext, eqStep, if_pos (of_decide_eq_true hb), List.map_append]; rfl
      · refine Ex.post (Sub.cons ?_ (Sub.cons rfl (Sub.cons rfl Sub.nil)))
        rw [hnext, eqStep, if_neg (of_decide_eq_false hb)]; rfl
    · rw [List.take_length]
      exact @Ex.frz _ _ _ _ _ _ _ _ ("found") (a) _ [] rfl rfl fun U M => Ex.ret (Ev.name rfl rfl) rfl
end
end Mine

end

section
namespace Mine
open PySem PySem.W PySem.Calls PyProof.Rows

section
variable {S : S0} {f : Fm} {y : Dy}
theorem Ev.sorted0 {x : Str} {e : Expr} {p pos ipos q : Pos} {k : Nat} {tms : List (List Int)} (h : Ev S f y e (.lst (tms.map tupI))) (hne : ∀ t ∈ tms, t ≠ []) (h1 : tms ≠ []) (h5 : tms.length ≤ 5)
    (hx : f.env.kindOf x = some .globalImplicit) (hv : nsIn S.K mainGlobals x = some none) (hb : bootBuiltins x = some (.builtin "sorted")) (hn : x ≠ "__name__")
    (he : starEach [e] f.env = (false, eval e f.env) :: starEach [] f.env) (hp : ∀ pos, (backTo pos (starEach [] f.env)).any (·.1) = false) (hd : (x == ("__debug__" : Str)) = false)
    (hs : ∀ o v, subscripted (.Constant (.int 0) k q) false o v = operate [o, v] (getItem o v)) :
    Ev S f y (.Subscript (.Call (.Name x p) [e] [] pos) (.Constant (.int 0) k q) ipos) (tupI (lexMin tms)) := by
  intro A s Q E hA ok hq
  refine Subscript_ (Call_ (Name_function_global ok.kind hx (loadGlobal_builtin (env := f.env) (by rw [ok.glob]; exact ok.top.g) (mg_none_of ok.top.X ok.top.g hv) (by rw [ok.blt]; exact ok.top.b) ((ok.top.builtins x hn).trans hb) ?_) hd))
  refine PyProof.Rows.callWith_builtin1 ?_ he (hp _)
  refine (EvL.cons h EvL.nil he) pos A s _ _ hA ok fun vs g1 t1 k1 r1 => ?_
  replace r1 := r1.inv
  cases r1 with
  | cons r1 r2 =>
    replace r2 := r2.inv
    cases r2
    refine sorted_tups (S := S) (U := y.U) (ok.keeps k1).live r1 hne h1 h5 fun v' L h' tk k2 r2 hL => ?_
    have ok2 := (ok.keeps k1).keeps k2
    refine (Ev.int (S := S) (f := f) (y := y) (i := 0) (k := k) (pos := q)) A _ _ _ hA ok2 fun v3 g3 t3 k3 r3 => ?_
    obtain ⟨⟨T, id, hT, hl⟩, hg⟩ := ItemR.lst (S := S) (l := L) (i := 0) (by decide) (by decide) hL y.U A { s with heap := g3, toks := t3 } v' v3 Q E (r2.keep k3) r3 fun v tk r => hq v g3 tk ((k1.trans k2).trans k3) r
    exact tail_any hT hl hg (hs _ _)
end

noncomputable def worthOf (P : Int → Pr) (r : Rt) : List Int := [0 - r.lp, plW r, r.org, r.med, outW P r, costW r, idOf P r, addrOf P r]
noncomputable def without (l : List (Str × List Rt)) (one : Rt) : List (Str × List Rt) := l.map fun x => (x.1, x.2.filter fun r => r ≠ one)

section
variable {prog : Program} {w : World} {mg mb : Str → Option Value}
theorem law_worth_ok (r : Rt) (n : Nat) (P : Int → Pr) (hr : r.ok n) (hc : r.cost.isSome = true) : FnC (TS w mg mb prog) (.ref 131) 1 [r.d, peersD n P] (tupI (worthOf P r)) := by
  refine @FnC.go _ _ _ _ _ _ _ _ _ _ _ _ _ _ _ _ _ (["route", "peers"]) _ _ _ rfl rfl (bind2 fun _ _ _ => rfl) rfl fun L g₀ U₀ U M => ?_
  refine @Ex.unpackS _ _ _ _ _ _ _ _ _ _ _ _ _ _ _ (["attrs", "peer"]) (fun x hx => ?_) (by decide) (EvLM.cons (EvM.of (d := .sd r.attrs) (Ev.item (Ev.name rfl rfl) Ev.int (ItemR.tup (j := 1) (by decide) rfl rfl) fun _ _ => rfl) (EvLM.cons (EvM.of (d := (P r.at').d) (Ev.item (Ev.name rfl rfl) (Ev.item (Ev.name rfl rfl) Ev.int (ItemR.tup (d := .int r.at') (j := 2) (by decide) rfl rfl) fun _ _ => rfl) (ItemR.idt (kfind_peers hr.1 hr.2.1)) fun _ _ => rfl) (EvLM.nil ⟨rfl, ?_⟩)) rfl)) rfl) rfl rfl
  · simp at hx; rcases hx with rfl | rfl <;> exact .inl rfl
  refine @Ex.assign _ _ _ _ _ _ _ _ _ _ (.int (outW P r)) _ _ (Ev.ifexp (b := (P r.at').ebgp) (EvT.eq (EvT.cmp (Ev.item (Ev.name rfl rfl) Ev.cstr (ItemR.sd rfl) fun _ _ => rfl) Ev.cstr CmpR.eqStr rfl) ?_) (fun hb => Ev.eq Ev.int ?_) (fun hb => Ev.eq Ev.int ?_)) (.inl rfl) rfl ?_
  · cases (P r.at').ebgp <;> rfl
  · unfold outW; rw [if_pos hb]
  · unfold outW; rw [if_neg (by rw [hb]; simp)]
  have hcost : optD r.cost = .int (costW r) := by
    unfold costW
    cases h : r.cost with
    | none => rw [h] at hc; cases hc
    | some c => rfl
  refine @Ex.assign _ _ _ _ _ _ _ _ _ _ (.tup [.int (0 - r.lp), .int (plW r), .int r.org, .int r.med, .int (outW P r), .int (costW r)]) _ _ (Ev.tuple (EvL.cons (Ev.binop Ev.int (Ev.item (Ev.name rfl rfl) Ev.cstr (ItemR.sd rfl) fun _ _ => rfl) BinR.sub) (EvL.cons (Ev.callB (ds := [.tup r.nums]) rfl (n_len _) rfl (by decide) (EvL.cons (Ev.item (da := segD r.nums) (Ev.item (da := r.path) (Ev.item (Ev.name rfl rfl) Ev.cstr (ItemR.sd rfl) fun _ _ => rfl) Ev.int ItemR.tup0 fun _ _ => rfl) Ev.int (ItemR.tup (j := 1) (by decide) rfl rfl) fun _ _ => rfl) EvL.nil rfl) (FnC.lenT ?_) rfl (fun _ => rfl) rfl)
    (EvL.cons (Ev.item (Ev.name rfl rfl) Ev.cstr (ItemR.sd rfl) fun _ _ => rfl) (EvL.cons (Ev.item (Ev.name rfl rfl) Ev.cstr (ItemR.sd rfl) fun _ _ => rfl) (EvL.cons (Ev.name rfl rfl) (EvL.cons (Ev.eq (Ev.item (Ev.name rfl rfl) Ev.int (ItemR.tup (d := optD r.cost) (j := 3) (by decide) rfl rfl) fun _ _ => rfl) hcost) EvL.nil rfl) rfl) rfl) rfl) rfl) rfl) (Nat.le_of_ble_eq_true rfl)) (.inl rfl) rfl ?_
  · have := hr.2.2
    simp [Rt.nums]; omega
  refine Ex.ret (Ev.binop (Ev.name rfl rfl) (Ev.tuple (EvL.cons (Ev.item (Ev.name rfl rfl) Ev.cstr (ItemR.sd rfl) fun _ _ => rfl) (EvL.cons (Ev.item (Ev.name rfl rfl) Ev.cstr (ItemR.sd rfl) fun _ _ => rfl) EvL.nil rfl) rfl) (Nat.le_of_ble_eq_true rfl)) (BinR.addT (Nat.le_of_ble_eq_true rfl) (by simp) (by simp))) rfl

theorem law_without_ok (l : List (Str × List Rt)) (one : Rt) (hz : l.length ≤ 1000) (hl : ∀ x ∈ l, x.2.length ≤ 1000) : FnC (TS w mg mb prog) (.ref 136) 1 [.lst (l.map rungD), one.d] (.lst ((without l one).map rungD)) := by
  refine @FnC.go _ _ _ _ _ _ _ _ _ _ _ _ _ _ _ _ _ (["rungs", "one"]) _ _ _ rfl rfl (bind2 fun _ _ _ => rfl) rfl fun L g₀ U₀ U M => ?_
  refine Ex.ret (Ev.lcM (rs := l) (fun _ => rungD) (ix_map _ _) [("one", .val one.d)] (fun _ _ => true) (fun _ x => rungD (x.1, x.2.filter fun r => r ≠ one)) (fun _ d => match d with | .tup [a, b] => [("left", .val b), ("word", .val a)] | _ => []) hz ⟨rfl, by decide, rfl, by decide, clCons rfl clNil, fun _ => rfl⟩
    (freeCons (freeVar rfl rfl rfl rfl rfl) freeNil) (Src.list (Ev.name rfl rfl)) (fun C i r hr => AsgL.pair rfl rfl) fun C U' M' i x hx => ⟨Tests.nil, fun _ => ?_⟩) (by rw [compM_map]; unfold without; rw [List.map_map]; rfl)
  refine Ev.tuple (EvL.cons (Ev.name rfl rfl) (EvL.cons (d := .lst ((x.2.filter fun r => r ≠ one).map Rt.d)) ?_ EvL.nil rfl) rfl) (Nat.le_of_ble_eq_true rfl)
  refine Ev.eq (Ev.lcM (rs := x.2) (fun _ => Rt.d) (ix_map _ _) [("one", .val one.d)] (fun _ r => !decide (r = one)) (fun _ => Rt.d) (fun _ d => [("route", .val d)]) (hl x (List.mem_of_getElem? hx)) ⟨rfl, by decide, rfl, by decide, clCons rfl clNil, fun _ => rfl⟩
    (freeCons (freeVar rfl rfl rfl rfl rfl) freeNil) (Src.list (Ev.name rfl rfl)) (fun C i r hr => AsgL.name rfl) fun C U' M' i r hr => ⟨Tests.one (EvT.cmp (Ev.name rfl rfl) (Ev.name rfl rfl) CmpR.neRt rfl), fun _ => Ev.name rfl rfl⟩) ?_
  rw [compM_filter]
  congr 3
  funext r
  simp
end
end Mine

end

section
namespace Mine
open PySem PySem.W PySem.Calls PyProof.Rows

theorem ints_cmp (n : Nat) : ∀ a b : List Int, ∃ c, cmpL (cmp (n + 1)) (a.map D.int) (b.map D.int) = some c ∧ (c && a.length == b.length) = decide (a = b)
  | [], [] => ⟨true, rfl, rfl⟩
  | [], _ :: _ => ⟨true, rfl, by simp⟩
  | _ :: _, [] => ⟨true, rfl, by simp⟩
  | x :: a, y :: b => by
    obtain ⟨c, h1, h2⟩ := ints_cmp n a b
    refine ⟨(x == y) && c, by rw [List.map_cons, List.map_cons, cmpL_cons cmp_int h1], ?_⟩
    rw [Bool.eq_iff_iff] at h2 ⊢
    simp at h2 ⊢
    constructor
    · rintro ⟨⟨p, q⟩, r⟩; exact ⟨p, h2.mp ⟨q, r⟩⟩
    · rintro ⟨p, q⟩; obtain ⟨r, t⟩ := h2.mpr q; exact ⟨⟨p, r⟩, t⟩
theorem tupI_cmp (n : Nat) (a b : List Int) : cmp (n + 2) (tupI a) (tupI b) = some (decide (a = b)) := by
  obtain ⟨c, h1, h2⟩ := ints_cmp n a b
  rw [tupI, tupI, cmp_tup, h1, Option.map_some, List.length_map, List.length_map, h2]
theorem CmpR.eqTupI {S : S0} {a b : List Int} : CmpR S .Eq (tupI a) (tupI b) (decide (a = b)) := CmpR.eqTup (tupI_cmp 7 a b)

noncomputable def lastL (am : Bool) (P : Int → Pr) (u : List Rt) : List Rt := keepLeast (addrOf P) (keepLeast (fun _ => 0) (keepLeast (idOf P) (costRung am P u)))
theorem costRung_ne {am : Bool} {P : Int → Pr} {u : List Rt} (h : u ≠ []) : costRung am P u ≠ [] := keepLeast_ne (keepLeast_ne (bestMeds_ne (keepLeast_ne (keepLeast_ne (keepLeast_ne (keepLeast_ne h))))))
theorem costRung_sub {am : Bool} {P : Int → Pr} {u : List Rt} {r : Rt} (h : r ∈ costRung am P u) : r ∈ u := keepLeast_sub (keepLeast_sub (keepLeast_sub (keepLeast_sub (bestMeds_sub (keepLeast_sub (keepLeast_sub h))))))
theorem lastL_ne {am : Bool} {P : Int → Pr} {u : List Rt} (h : u ≠ []) : lastL am P u ≠ [] := keepLeast_ne (keepLeast_ne (keepLeast_ne (costRung_ne h)))
theorem lastL_sub {am : Bool} {P : Int → Pr} {u : List Rt} {r : Rt} (h : r ∈ lastL am P u) : r ∈ costRung am P u := keepLeast_sub (keepLeast_sub (keepLeast_sub h))
theorem ladderL_some {am : Bool} {P : Int → Pr} {rs : List Rt} (h : usableL rs ≠ []) : ladderL am P rs = midRungs am P (usableL rs) ++ lastRungs P (costRung am P (usableL rs)) := by unfold ladderL; rw [if_neg h]
theorem ladderL_none {am : Bool} {P : Int → Pr} {rs : List Rt} (h : usableL rs = []) : ladderL am P rs = [(("usable" : Str), ([] : List Rt))] := by unfold ladderL; rw [if_pos h]
theorem bestL_some {am : Bool} {P : Int → Pr} {rs : List Rt} (h : usableL rs ≠ []) : bestL am P rs = (lastL am P (usableL rs)).head? := by
  unfold bestL; rw [ladderL_some h]; rfl
theorem bestL_none {am : Bool} {P : Int → Pr} {rs : List Rt} (h : usableL rs = []) : bestL am P rs = none := by
  unfold bestL; rw [ladderL_none h]; rfl
theorem bestL_ex {am : Bool} {P : Int → Pr} {rs : List Rt} (h : usableL rs ≠ []) : ∃ b, bestL am P rs = some b ∧ b ∈ lastL am P (usableL rs) := by
  rw [bestL_some h]
  cases e : lastL am P (usableL rs) with
  | nil => exact absurd e (lastL_ne h)
  | cons b l => exact ⟨b, rfl, List.mem_cons_self⟩
theorem rungOf_cost {am : Bool} {P : Int → Pr} {rs : List Rt} (h : usableL rs ≠ []) : rungOf (ladderL am P rs) "cost" = costRung am P (usableL rs) := by
  rw [ladderL_some h]; rfl
theorem ladderL_keys {am : Bool} {P : Int → Pr} {rs : List Rt} : ((ladderL am P rs).map (·.1)).Nodup := by
  by_cases h : usableL rs = []
  · rw [ladderL_none h]; simp
  · rw [ladderL_some h]
    have e : (midRungs am P (usableL rs) ++ lastRungs P (costRung am P (usableL rs))).map (·.1) = (["usable", "preference", "own", "path", "origin", "med", "outside", "cost", "id", "clusters", "address"] : List Str) := rfl
    rw [e]; decide
noncomputable def worths (P : Int → Pr) (u : List Rt) : List (List Int) := u.map (worthOf P)
noncomputable def bestRight (am : Bool) (P : Int → Pr) (rs : List Rt) : Bool := match bestL am P rs with
  | none => true
  | some b => decide (b ∈ usableL rs) && (!am || decide (worthOf P b = lexMin (worths P (usableL rs))))
noncomputable def strangeL (am : Bool) (P : Int → Pr) (rs : List Rt) (most : Int) (b : Rt) : List Rt := (equalL am P rs most).filter fun r => !decide (r ∈ costRung am P (usableL rs)) || r.fst != b.fst
noncomputable def usedRight (am : Bool) (P : Int → Pr) (rs : List Rt) (most : Int) : Bool := match bestL am P rs with
  | none => true
  | some b => decide (((equalL am P rs most).length : Int) ≤ most) && decide (strangeL am P rs most b = [])
theorem fold_head {b : Rt} {most : Int} : ∀ (m : List Rt) (l : List Rt), ∃ l', m.foldl (eqStep b most) (b :: l) = b :: l'
  | [], l => ⟨l, rfl⟩
  | x :: m, l => by
    rw [List.foldl_cons]
    unfold eqStep
    split
    · exact fold_head m (l ++ [x])
    · exact fold_head m l
theorem equalL_some {am : Bool} {P : Int → Pr} {rs : List Rt} {most : Int} {b : Rt} (h : bestL am P rs = some b) (hm : 1 ≤ most) : ∃ l, equalL am P rs most = b :: l := by
  unfold equalL
  rw [h]
  dsimp only
  rw [if_neg (by omega)]
  exact fold_head _ []
theorem fold_len {b : Rt} {most : Int} (hm : 1 ≤ most) : ∀ (m : List Rt) (l : List Rt), (l.length : Int) ≤ most → ((m.foldl (eqStep b most) l).length : Int) ≤ most
  | [], l, h => h
  | x :: m, l, h => by
    rw [List.foldl_cons]
    refine fold_len hm m _ ?_
    unfold eqStep
    split
    · rename_i q; simp; omega
    · exact h
theorem fold_mem {b : Rt} {most : Int} : ∀ (m : List Rt) (l : List Rt) (r : Rt), r ∈ m.foldl (eqStep b most) l → r ∈ l ∨ (r ∈ m ∧ r.fst = b.fst)
  | [], l, r, h => .inl h
  | x :: m, l, r, h => by
    rw [List.foldl_cons] at h
    rcases fold_mem m _ r h with q | ⟨q1, q2⟩
    · unfold eqStep at q
      split at q
      · rename_i c
        rcases List.mem_append.mp q with q | q
        · exact .inl q
        · rw [List.mem_singleton.mp q]; exact .inr ⟨List.mem_cons_self, c.2.1⟩
      · exact .inl q
    · exact .inr ⟨List.mem_cons_of_mem _ q1, q2⟩

section
variable {prog : Program} {w : World} {mg mb : Str → Option Value}
theorem law_best_right_ok (am : Bool) (rs : List Rt) (n : Nat) (P : Int → Pr) (hz : rs.length ≤ 5) (hr : ∀ r ∈ rs, r.ok n) : FnC (TS w mg mb prog) (.ref 141) 5 [.lst (rs.map Rt.d), peersD n P, .sd (optsL am)] (.bool (bestRight am P rs)) := by
  refine @FnC.go _ _ _ _ _ _ _ _ _ _ _ _ _ _ _ _ _ (["routes", "peers", "options"]) _ _ _ rfl rfl (bind3 fun _ _ _ _ => rfl) rfl fun L g₀ U₀ U M => ?_
  refine @Ex.assignCompM _ _ _ _ _ _ _ _ _ (rs) _ _ _ _ _ _ _ _ _ _ _ (fun _ => Rt.d) (ix_map _ _) [] (fun _ r => r.cost.isSome) (fun _ => Rt.d) (fun _ d => [("route", .val d)]) (by omega) ⟨rfl, by decide, rfl, by decide, clNil, fun _ => rfl⟩ freeNil (Src.list (Ev.name rfl rfl)) (fun C i r hr => AsgL.name rfl) (fun C U' M' i r hr => ?_) (.inl rfl) rfl ?_
  · refine ⟨Tests.one (EvT.eq (EvT.cmp (da := optD r.cost) (Ev.item (Ev.name rfl rfl) Ev.int (ItemR.tup (j := 3) (by decide) rfl rfl) fun _ _ => rfl) Ev.cnone CmpR.isNotNone rfl) ?_), fun _ => Ev.name rfl rfl⟩
    cases r.cost <;> rfl
  rw [compM_filter]
  show Ex _ _ ⟨U, M, ("near", .val (.lst ((usableL rs).map Rt.d))) :: _⟩ _ _ _
  have hul : (usableL rs).length ≤ 5 := Nat.le_trans (List.length_filter_le _ _) hz
  have hur : ∀ r ∈ usableL rs, r.ok n := fun r h => hr r (List.mem_filter.mp h).1
  have huc : ∀ r ∈ usableL rs, r.cost.isSome = true := fun r h => (List.mem_filter.mp h).2
  refine @Ex.ifRet _ _ _ _ _ _ _ _ _ (decide (usableL rs = [])) _ _ (EvT.cmp (Ev.name rfl rfl) (Ev.list EvL.nil (Nat.le_of_ble_eq_true rfl)) (CmpR.eqRts (m := [])) rfl) (fun hb => ?_) fun hb => ?_
  · have he : usableL rs = [] := of_decide_eq_true hb
    refine @Ex.ret _ _ _ _ _ _ _ _ (.bool true) _ (Ev.eq (Ev.cmp (Ev.call rfl (n_best_of _) (k_best_of _) (EvL.cons (Ev.name rfl rfl) (EvL.cons (Ev.name rfl rfl) (EvL.cons (Ev.name rfl rfl) EvL.nil rfl) rfl) rfl) (best_of_ok am rs n P (by omega) hr) rfl (fun _ => rfl) rfl) Ev.cnone CmpR.isNone rfl) ?_) ?_
    · rw [bestL_none he]; rfl
    · unfold bestRight; rw [bestL_none he]
  · have he : usableL rs ≠ [] := of_decide_eq_false hb
    obtain ⟨b, hbl, hbm⟩ := bestL_ex (am := am) (P := P) he
    have hbu : b ∈ usableL rs := costRung_sub (lastL_sub hbm)
    refine @Ex.assign _ _ _ _ _ _ _ _ _ _ (tupI (lexMin (worths P (usableL rs)))) _ _ (Ev.sorted0 (tms := worths P (usableL rs)) ?_ (fun t ht => ?_) (by simpa [worths] using he) (by simpa [worths] using hul) rfl (n_sorted _) rfl (by decide) rfl (fun _ => rfl) rfl fun _ _ => rfl) (.inl rfl) rfl ?_
    · refine Ev.eq (Ev.lcM (rs := usableL rs) (fun _ => Rt.d) (ix_map _ _) [("peers", .val (peersD n P))] (fun _ _ => true) (fun _ r => tupI (worthOf P r)) (fun _ d => [("route", .val d)]) (by omega) ⟨rfl, by decide, rfl, by decide, clCons rfl clNil, fun _ => rfl⟩ (freeCons (freeVar rfl rfl rfl rfl rfl) freeNil) (Src.list (Ev.name rfl rfl)) (fun C i r hr => AsgL.name rfl) (fun C U' M' i r hrm => ⟨Tests.nil, fun _ => ?_⟩)) (by rw [compM_map]; unfold worths; rw [List.map_map]; rfl)
      have hm := List.mem_of_getElem? hrm
      exact Ev.call rfl (n_law_worth _) (k_law_worth _) (EvL.cons (Ev.name rfl rfl) (EvL.cons (Ev.name rfl rfl) EvL.nil rfl) rfl) ((law_worth_ok r n P (hur r hm) (huc r hm)).mono (Nat.le_of_ble_eq_true rfl)) rfl (fun _ => rfl) rfl
    · obtain ⟨r, _, rfl⟩ := List.mem_map.mp ht; simp [worthOf]
    refine @Ex.assign _ _ _ _ _ _ _ _ _ _ (b.d) _ _ (Ev.eq (Ev.call rfl (n_best_of _) (k_best_of _) (EvL.cons (Ev.name rfl rfl) (EvL.cons (Ev.name rfl rfl) (EvL.cons (Ev.name rfl rfl) EvL.nil rfl) rfl) rfl) (best_of_ok am rs n P (by omega) hr) rfl (fun _ => rfl) rfl) (by rw [hbl]; rfl)) (.inl rfl) rfl ?_
    refine Ex.ret (Ev.and (Ev.cmp (Ev.name rfl rfl) (Ev.name rfl rfl) (CmpR.inRt (l := usableL rs)) rfl) fun _ => Ev.boolOne (Ev.or (Ev.not (Ev.item (Ev.name rfl rfl) Ev.cstr (ItemR.sd (l := optsL am) (d := .bool am) rfl) fun _ _ => rfl)) fun _ => Ev.boolOne (Ev.cmp (Ev.call rfl (n_law_worth _) (k_law_worth _) (EvL.cons (Ev.name rfl rfl) (EvL.cons (Ev.name rfl rfl) EvL.nil rfl) rfl) ((law_worth_ok b n P (hur b hbu) (huc b hbu)).mono (Nat.le_of_ble_eq_true rfl)) rfl (fun _ => rfl) rfl) (Ev.name rfl rfl) CmpR.eqTupI rfl))) ?_
    unfold bestRight; rw [hbl]

noncomputable def rungP (x : Str × List Rt) : Str × D := (x.1, .lst (x.2.map Rt.d))
theorem law_used_right_ok (am : Bool) (rs : List Rt) (n : Nat) (P : Int → Pr) (most : Int) (hm : 1 ≤ most) (hz : rs.length ≤ 5) (hr : ∀ r ∈ rs, r.ok n) : FnC (TS w mg mb prog) (.ref 146) 6 [.lst (rs.map Rt.d), peersD n P, .sd (optsL am), .int most] (.bool (usedRight am P rs most)) := by
  refine @FnC.go _ _ _ _ _ _ _ _ _ _ _ _ _ _ _ _ _ (["routes", "peers", "options", "most"]) _ _ _ rfl rfl (bind4 fun _ _ _ _ _ => rfl) rfl fun L g₀ U₀ U M => ?_
  have hused : ∀ r ∈ equalL am P rs most, r ∈ rs := by
    intro r h
    unfold equalL at h
    cases hb : bestL am P rs with
    | none => rw [hb] at h; cases h
    | some b =>
      rw [hb] at h
      dsimp only at h
      rw [if_neg (by omega)] at h
      rcases fold_mem _ _ _ h with q | ⟨q, _⟩
      · rw [List.mem_singleton.mp q]; exact bestL_mem hb
      · exact rungOf_sub.2 r q
  have hulen : (equalL am P rs most).length ≤ 6 := by
    unfold equalL
    cases hb : bestL am P rs with
    | none => simp
    | some b =>
      dsimp only
      rw [if_neg (by omega)]
      have key : ∀ (m : List Rt) (f0 : List Rt), (m.foldl (eqStep b most) f0).length ≤ f0.length + m.length := by
        intro m
        induction m with
        | nil => intro f0; simp
        | cons x m ih =>
          intro f0
          rw [List.foldl_cons]
          refine Nat.le_trans (ih _) ?_
          have : (eqStep b most f0 x).length ≤ f0.length + 1 := by unfold eqStep; split <;> simp
          simp; omega
      refine Nat.le_trans (key _ _) ?_
      have := (rungOf_sub (am := am) (P := P) (rs := rs) (x := "cost")).1
      simp; omega
  refine Ex.unpackA (EvLM.cons (EvM.of (Ev.call rfl (n_equal_ones _) (k_equal_ones _) (EvL.cons (Ev.name rfl rfl) (EvL.cons (Ev.name rfl rfl) (EvL.cons (Ev.name rfl rfl) (EvL.cons (Ev.name rfl rfl) EvL.nil rfl) rfl) rfl) rfl) (equal_ones_ok am rs n P most (by omega) hr) rfl (fun _ => rfl) rfl)
    (EvLM.cons (EvM.of (Ev.call rfl (n_best_of _) (k_best_of _) (EvL.cons (Ev.name rfl rfl) (EvL.cons (Ev.name rfl rfl) (EvL.cons (Ev.name rfl rfl) EvL.nil rfl) rfl) rfl) ((best_of_ok am rs n P (by omega) hr).mono (Nat.le_of_ble_eq_true rfl)) rfl (fun _ => rfl) rfl) (EvLM.nil ⟨Nat.le_of_ble_eq_true rfl, _, Asg.pair (.inl rfl) (.inr ⟨rfl, rfl, rfl⟩), ?_⟩)) rfl)) rfl) rfl rfl
  refine @Ex.ifRet _ _ _ _ _ _ _ _ _ ((optRtD (bestL am P rs)).isNone) _ _ (EvT.cmp (Ev.name rfl rfl) Ev.cnone CmpR.isNone rfl) (fun hb => ?_) fun hb => ?_
  · have hn : bestL am P rs = none := by
      cases h : bestL am P rs with
      | none => rfl
      | some b => rw [h] at hb; simp [optRtD, D.isNone, Rt.d] at hb
    refine Ex.ret (Ev.cmp (Ev.name rfl rfl) (Ev.list EvL.nil (Nat.le_of_ble_eq_true rfl)) (CmpR.eqRts (m := [])) rfl) ?_
    unfold usedRight equalL; rw [hn]; rfl
  · obtain ⟨b, hbl⟩ : ∃ b, bestL am P rs = some b := by
      cases h : bestL am P rs with
      | none => rw [h] at hb; simp [optRtD, D.isNone] at hb
      | some b => exact ⟨b, rfl⟩
    have hue : usableL rs ≠ [] := fun e => by rw [bestL_none e] at hbl; cases hbl
    have hbm := bestL_mem hbl
    obtain ⟨l, hel⟩ := equalL_some hbl hm
    rw [hbl]
    refine @Ex.assign _ _ _ _ _ _ _ _ _ _ (.lst ((costRung am P (usableL rs)).map Rt.d)) _ _ (Ev.item (Ev.callT (ds := [.lst ((ladderL am P rs).map rungD)]) rfl (n_dict _) rfl (by decide) (EvL.cons (Ev.call rfl (n_ladder _) (k_ladder _) (EvL.cons (Ev.name rfl rfl) (EvL.cons (Ev.name rfl rfl) (EvL.cons (Ev.name rfl rfl) EvL.nil rfl) rfl) rfl) ((ladder_ok am rs n P (by omega) hr).mono (Nat.le_of_ble_eq_true rfl)) rfl (fun _ => rfl) rfl) EvL.nil rfl) (d := .sd ((ladderL am P rs).map rungP)) ?_ rfl (fun _ => rfl) rfl) Ev.cstr (ItemR.sd ?_) fun _ _ => rfl) (.inr ⟨rfl, rfl, rfl⟩) rfl ?_
    · have e : (ladderL am P rs).map rungD = ((ladderL am P rs).map rungP).map pairD := by rw [List.map_map]; rfl
      rw [e]
      refine FnC.dictP ?_ ?_
      · rw [List.length_map]; have := ladderL_short (am := am) (P := P) (rs := rs); omega
      · rw [List.map_map]; exact ladderL_keys
    · rw [ladderL_some hue]; rfl
    refine @Ex.assignCompM _ _ _ _ _ _ _ _ _ (equalL am P rs most) _ _ _ _ _ _ _ _ _ _ _ (fun _ => Rt.d) (ix_map _ _) [("left", .val (.lst ((costRung am P (usableL rs)).map Rt.d))), ("best", .val b.d)] (fun _ r => !decide (r ∈ costRung am P (usableL rs)) || r.fst != b.fst) (fun _ => Rt.d) (fun _ d => [("route", .val d)]) (by omega) ⟨rfl, by decide, rfl, by decide, clCons rfl (clCons rfl clNil), fun _ => rfl⟩
      (freeCons (freeVar rfl rfl rfl rfl rfl) (freeCons (freeVar rfl rfl rfl rfl rfl) freeNil)) (Src.list (Ev.name rfl rfl)) (fun C i r hr => AsgL.name rfl) (fun C U' M' i r hrm => ⟨Tests.one ?_, fun _ => Ev.name rfl rfl⟩) (.inl rfl) rfl ?_
    · refine EvT.eq (EvT.orCons (EvT.cmp (Ev.name rfl rfl) (Ev.name rfl rfl) (CmpR.notInRt (l := costRung am P (usableL rs))) rfl) fun _ => EvT.orCons (EvT.cmp (da := .int r.fst) (db := .int b.fst) ?_ ?_ CmpR.neInt rfl) fun _ => EvT.orNil) (by rw [Bool.or_false])
      · exact Ev.item (da := .tup r.nums) (Ev.item (da := segD r.nums) (Ev.item (da := r.path) (Ev.item (da := .sd r.attrs) (Ev.item (Ev.name rfl rfl) Ev.int (ItemR.tup (j := 1) (by decide) rfl rfl) fun _ _ => rfl) Ev.cstr (ItemR.sd rfl) fun _ _ => rfl) Ev.int ItemR.tup0 fun _ _ => rfl) Ev.int (ItemR.tup (j := 1) (by decide) rfl rfl) fun _ _ => rfl) Ev.int ItemR.tup0 fun _ _ => rfl
      · exact Ev.item (da := .tup b.nums) (Ev.item (da := segD b.nums) (Ev.item (da := b.path) (Ev.item (da := .sd b.attrs) (Ev.item (Ev.name rfl rfl) Ev.int (ItemR.tup (j := 1) (by decide) rfl rfl) fun _ _ => rfl) Ev.cstr (ItemR.sd rfl) fun _ _ => rfl) Ev.int ItemR.tup0 fun _ _ => rfl) Ev.int (ItemR.tup (j := 1) (by decide) rfl rfl) fun _ _ => rfl) Ev.int ItemR.tup0 fun _ _ => rfl
    rw [compM_filter]
    refine @Ex.ret _ _ _ _ _ _ _ _ (.bool (usedRight am P rs most)) _ (Ev.eq (Ev.and (a := true) (b := usedRight am P rs most) (Ev.eq (Ev.cmp (db := b.d) (Ev.item (d := b.d) (Ev.name rfl rfl) Ev.int (ItemR.lst (by decide) (by decide) ?_) fun _ _ => rfl) (Ev.name rfl rfl) CmpR.eqRt rfl) ?_) fun _ => Ev.eq (Ev.and (Ev.cmp (Ev.callB (ds := [.lst ((equalL am P rs most).map Rt.d)]) rfl (n_len _) rfl (by decide) (EvL.cons (Ev.name rfl rfl) EvL.nil rfl) (FnC.lenL (by rw [List.length_map]; omega)) rfl (fun _ => rfl) rfl) (Ev.name rfl rfl) CmpR.leInt rfl) fun _ => Ev.boolOne (Ev.cmp (Ev.name rfl rfl) (Ev.list EvL.nil (Nat.le_of_ble_eq_true rfl)) (CmpR.eqRts (l := strangeL am P rs most b) (m := [])) rfl)) ?_) ?_) rfl
    · rw [hel]; rfl
    · simp
    · rw [List.length_map]; unfold usedRight; rw [hbl]
    · simp
end
end Mine

end

section
namespace Mine
open PySem PySem.W PySem.Calls PyProof.Rows

noncomputable def absI (i : Int) : Int := if i < 0 then -i else i
noncomputable def boxD (scr : List Int) (n : Int) : D := .tup [.lst (scr.map D.int), .int n]
noncomputable def drawF (scr : List Int) (n : Nat) (many : Int) : Int := if h : n < scr.length then (absI scr[n]).fmod many else (5 * ((n : Int) + 1) + ((n : Int) + 1).fdiv 3).fmod many
theorem drawF_rng {scr : List Int} {n : Nat} {many : Int} (h : 0 < many) : 0 ≤ drawF scr n many ∧ drawF scr n many < many := by
  unfold drawF
  split
  · exact ⟨Int.fmod_nonneg_of_pos _ h, Int.fmod_lt_of_pos _ h⟩
  · exact ⟨Int.fmod_nonneg_of_pos _ h, Int.fmod_lt_of_pos _ h⟩

section
variable {prog : Program} {w : World} {mg mb : Str → Option Value}
theorem law_draw_ok (scr : List Int) (n : Nat) (many : Int) (hm : 0 < many) (hn : n ≤ 1000) (hl : scr.length ≤ 1000) : FnB1 (TS w mg mb prog) (.ref 117) 1 (boxD scr n) [.int many] (boxD scr ((n : Int) + 1)) (.int (drawF scr n many)) := by
  refine @FnB1.run _ _ _ _ _ _ _ _ _ _ _ _ _ _ _ _ _ ("box") (["many"]) _ _ _ _ _ rfl rfl (bind2 fun _ _ _ => rfl) rfl fun L g₀ U₀ U M B => ?_
  refine @Ex.setOwn _ _ _ _ _ _ _ _ ("box") _ _ _ _ _ (B) ([.lst (scr.map D.int), .int n]) (1) _ rfl (Ev.binop (Ev.itemOwn (k := 1) rfl Ev.int (by decide) (by decide) rfl rfl fun _ _ => rfl) Ev.int BinR.add) Ev.int (by decide) (by simp) (by decide) rfl rfl ?_
  show Ex _ _ ⟨U, M, ("box", .own B (.tup [.lst (scr.map D.int), .int ((n : Int) + 1)])) :: _⟩ _ _ _
  refine @Ex.ifRet _ _ _ _ _ _ _ _ _ (decide (n < scr.length)) _ _ (EvT.eq (EvT.cmp (Ev.itemOwn (k := 1) rfl Ev.int (by decide) (by decide) rfl rfl fun _ _ => rfl) (Ev.callB (ds := [.lst (scr.map D.int)]) rfl (n_len _) rfl (by decide) (EvL.cons (Ev.itemOwn (k := 0) rfl Ev.int (by decide) (by decide) rfl rfl fun _ _ => rfl) EvL.nil rfl) (FnC.lenL (by rw [List.length_map]; omega)) rfl (fun _ => rfl) rfl) CmpR.leInt rfl) ?_) (fun hb => ?_) fun hb => ?_
  · rw [List.length_map]
    simp only [decide_eq_decide]
    omega
  · have hlt : n < scr.length := of_decide_eq_true hb
    refine @Ex.ret _ _ _ _ _ _ _ _ (.int (drawF scr n many)) _ (Ev.eq (Ev.binop (Ev.callB (ds := [.int scr[n]]) rfl (n_abs _) rfl (by decide) (EvL.cons (Ev.item (Ev.itemOwn (k := 0) rfl Ev.int (by decide) (by decide) rfl rfl fun _ _ => rfl) (Ev.binop (Ev.itemOwn (k := 1) rfl Ev.int (by decide) (by decide) rfl rfl fun _ _ => rfl) Ev.int BinR.sub) (ItemR.lst ?_ ?_ ?_) fun _ _ => rfl) EvL.nil rfl) FnC.abs rfl (fun _ => rfl) rfl) (Ev.name rfl rfl) (BinR.mod (by omega))) ?_) ⟨rfl, rfl⟩
    · omega
    · omega
    · rw [show (((n : Int) + 1) - 1).toNat = n by omega]; simp [hlt]
    · unfold drawF; rw [dif_pos hlt]; rfl
  · have hlt : ¬ n < scr.length := of_decide_eq_false hb
    refine @Ex.ret _ _ _ _ _ _ _ _ (.int (drawF scr n many)) _ (Ev.eq (Ev.binop (Ev.binop (Ev.binop Ev.int (Ev.itemOwn (k := 1) rfl Ev.int (by decide) (by decide) rfl rfl fun _ _ => rfl) (BinR.mul (IntMulOk.of_left (by decide)))) (Ev.binop (Ev.itemOwn (k := 1) rfl Ev.int (by decide) (by decide) rfl rfl fun _ _ => rfl) Ev.int (BinR.fdiv (by decide) (PyProof.noPylong_of_log2 (by decide +kernel)))) BinR.add) (Ev.name rfl rfl) (BinR.mod (by omega))) ?_) ⟨rfl, rfl⟩
    unfold drawF; rw [dif_neg hlt]
end
end Mine

end

section
namespace Mine
open PySem PySem.W PySem.Calls PyProof.Rows

noncomputable def boxN (scr : List Int) (n : Nat) : D := boxD scr ((n : Nat) : Int)
noncomputable def prefI (i : Int) : Int := if i = 3 then 120 else 100
noncomputable def kindS (i : Int) : Str := if (!decide (i = 2)) = true then "ebgp" else "ibgp"
noncomputable def costO (i : Int) : Option Int := if i = 3 then none else some (if i = 1 then 8 else 5)
noncomputable def routeF (dr : Nat → Int → Int) (n : Nat) (a : Int) : Rt :=
  { at' := a, lp := prefI (dr n 4), many := (dr (n + 1) 2).toNat, fst := 201 + dr (n + 2) 2, org := dr (n + 3) 2, med := dr (n + 4) 2, cost := costO (dr (n + 6) 4) }
noncomputable def peerF (dr : Nat → Int → Int) (n : Nat) (a : Int) : Pr := { id := 30 + (3 * a + 2).fmod 5, as' := 201 + dr (n + 2) 2, addr := 50 + a, ebgp := !decide (dr (n + 5) 3 = 2) }

section
variable {S : S0}
theorem ItemR.tupIx {l : List D} {i : Int} {d : D} (h0 : 0 ≤ i) (h1 : i < l.length) (hz : l.length ≤ 1000) (hd : l[i.toNat]? = some d) : ItemR S (.tup l) (.int i) d := by
  refine ItemR.tup (j := i.toNat) ⟨by omega, by omega⟩ ?_ hd
  unfold seqIndex?
  have : ¬ i < 0 := by omega
  simp [this]; omega
theorem FnB1.mono {g : Value} {k k' : Nat} {o o' d : D} {ds : List D} (h : FnB1 S g k o ds o' d) (hk : k ≤ k') : FnB1 S g k' o ds o' d := fun A s U g₀ B vs Q E hA => h A s U g₀ B vs Q E ⟨hA.1, by have := hA.2.1; omega, by have := hA.2.2; omega⟩
end
section
variable {prog : Program} {w : World} {mg mb : Str → Option Value}
theorem law_draw_ok' (scr : List Int) (n : Nat) (many : Int) (hm : 0 < many) (hn : n ≤ 1000) (hl : scr.length ≤ 1000) : FnB1 (TS w mg mb prog) (.ref 117) 1 (boxN scr n) [.int many] (boxN scr (n + 1)) (.int (drawF scr n many)) := by
  have := law_draw_ok (prog := prog) (w := w) (mg := mg) (mb := mb) scr n many hm hn hl
  unfold boxN
  rwa [show ((n + 1 : Nat) : Int) = (n : Int) + 1 from by push_cast; rfl]
theorem draw_ev {f : Fm} {U M : List Addr} {lk : List (Str × LV)} {P : D → List (Str × LV) → Prop} {scr : List Int} {dr : Nat → Int → Int} {n : Nat} {c : Int} {B : Addr} {p p2 p3 pos : Pos} {k : Nat} (hl : lk.lookup ("box" : Str) = some (.own B (boxN scr n))) (hc : 0 < c) (hn : n ≤ 1000) (hlen : scr.length ≤ 1000) (hk1 : 1 ≤ f.k)
    (hx : f.env.kindOf "_law_draw" = some .globalImplicit) (he : starEach [.Name "box" p2, .Constant (.int c) k p3] f.env = [(false, eval (.Name "box" p2) f.env), (false, eval (.Constant (.int c) k p3) f.env)]) (he' : starEach [.Constant (.int c) k p3] f.env = [(false, eval (.Constant (.int c) k p3) f.env)])
    (hdr : ∀ n c, drawF scr n c = dr n c) (hP : 0 ≤ dr n c ∧ dr n c < c → P (.int (dr n c)) (("box", .own B (boxN scr (n + 1))) :: lk)) : EvM (TS w mg mb prog) f U M lk (.Call (.Name "_law_draw" p) [.Name "box" p2, .Constant (.int c) k p3] [] pos) P :=
  EvM.call1 hl Ev.int hx (n_law_draw _) (k_law_draw _) ((law_draw_ok' scr n c hc hn hlen).mono hk1) he he' (fun _ => by rw [he']; rfl) rfl rfl (by have q := drawF_rng (scr := scr) (n := n) hc; rw [hdr] at q ⊢; exact hP q)

theorem pref_ix {i : Int} (h : 0 ≤ i ∧ i < 4) : [D.int 100, .int 100, .int 100, .int 120][i.toNat]? = some (.int (prefI i)) := by
  have : i = 0 ∨ i = 1 ∨ i = 2 ∨ i = 3 := by omega
  rcases this with rfl | rfl | rfl | rfl <;> rfl
theorem kind_ix {i : Int} (h : 0 ≤ i ∧ i < 3) : [D.str "ebgp", .str "ebgp", .str "ibgp"][i.toNat]? = some (.str (kindS i)) := by
  have : i = 0 ∨ i = 1 ∨ i = 2 := by omega
  rcases this with rfl | rfl | rfl <;> rfl
theorem cost_ix {i : Int} (h : 0 ≤ i ∧ i < 4) : [D.int 5, .int 8, .int 5, .none][i.toNat]? = some (optD (costO i)) := by
  have : i = 0 ∨ i = 1 ∨ i = 2 ∨ i = 3 := by omega
  rcases this with rfl | rfl | rfl | rfl <;> rfl

set_option maxHeartbeats 4000000 in
theorem law_route_ok (scr : List Int) (dr : Nat → Int → Int) (hdr : ∀ n c, drawF scr n c = dr n c) (n : Nat) (a : Nat) (P : Int → Pr) (hn : n ≤ 900) (ha : a ≤ 900) (hl : scr.length ≤ 1000) :
    FnB2 (TS w mg mb prog) (.ref 124) 2 (boxN scr n) [.int a] (.idt (peersL a P)) (boxN scr (n + 7)) (.idt (peersL a P ++ [((a : Int), (peerF dr n a).d)])) (routeF dr n a).d := by
  refine @FnB2.run _ _ _ _ _ _ _ _ _ _ _ _ _ _ _ _ _ ("box") ("at") ("peers") _ _ _ _ _ _ _ rfl rfl (bind3 fun _ _ _ _ => rfl) fun L g₀ U₀ U M B C => ?_
  refine @Ex.unpackS _ _ _ _ _ _ _ _ _ _ _ _ _ _ _ (["preference", "many"]) (fun x hx => ?_) (by decide) (EvLM.cons (EvM.item (EvM.of (Ev.tuple (EvL.cons Ev.int (EvL.cons Ev.int (EvL.cons Ev.int (EvL.cons Ev.int EvL.nil rfl) rfl) rfl) rfl) (Nat.le_of_ble_eq_true rfl)) (draw_ev (n := n) rfl (by decide) (by omega) hl (Nat.le_of_ble_eq_true rfl) rfl rfl rfl hdr fun h1 => ⟨_, ItemR.tupIx h1.1 h1.2 (by decide) (pref_ix h1), ?_⟩)) fun _ _ => rfl) rfl) rfl rfl
  · simp at hx; rcases hx with rfl | rfl <;> exact .inl rfl
  refine EvLM.cons (draw_ev (n := n + 1) rfl (by decide) (by omega) hl (Nat.le_of_ble_eq_true rfl) rfl rfl rfl hdr fun h2 => EvLM.nil ⟨rfl, ?_⟩) rfl
  refine @Ex.unpackS _ _ _ _ _ _ _ _ _ _ _ _ _ _ _ (["first", "origin", "med"]) (fun x hx => ?_) (by decide) (EvLM.cons (EvM.binop (EvM.of Ev.int (draw_ev (n := n + 2) rfl (by decide) (by omega) hl (Nat.le_of_ble_eq_true rfl) rfl rfl rfl hdr fun h3 => ⟨_, BinR.add, ?_⟩))) rfl) rfl rfl
  · simp at hx; rcases hx with rfl | rfl | rfl <;> exact .inl rfl
  refine EvLM.cons (draw_ev (n := n + 3) rfl (by decide) (by omega) hl (Nat.le_of_ble_eq_true rfl) rfl rfl rfl hdr fun h4 => ?_) rfl
  refine EvLM.cons (draw_ev (n := n + 4) rfl (by decide) (by omega) hl (Nat.le_of_ble_eq_true rfl) rfl rfl rfl hdr fun h5 => EvLM.nil ⟨rfl, ?_⟩) rfl
  refine @Ex.unpackS _ _ _ _ _ _ _ _ _ _ _ _ _ _ _ (["kind", "cost"]) (fun x hx => ?_) (by decide) (EvLM.cons (EvM.item (EvM.of (Ev.tuple (EvL.cons Ev.cstr (EvL.cons Ev.cstr (EvL.cons Ev.cstr EvL.nil rfl) rfl) rfl) (Nat.le_of_ble_eq_true rfl)) (draw_ev (n := n + 5) rfl (by decide) (by omega) hl (Nat.le_of_ble_eq_true rfl) rfl rfl rfl hdr fun h6 => ⟨_, ItemR.tupIx h6.1 h6.2 (by decide) (kind_ix h6), ?_⟩)) fun _ _ => rfl) rfl) rfl rfl
  · simp at hx; rcases hx with rfl | rfl <;> exact .inl rfl
  refine EvLM.cons (EvM.item (EvM.of (Ev.tuple (EvL.cons Ev.int (EvL.cons Ev.int (EvL.cons Ev.int (EvL.cons Ev.cnone EvL.nil rfl) rfl) rfl) rfl) (Nat.le_of_ble_eq_true rfl)) (draw_ev (n := n + 6) rfl (by decide) (by omega) hl (Nat.le_of_ble_eq_true rfl) rfl rfl rfl hdr fun h7 => ⟨_, ItemR.tupIx h7.1 h7.2 (by decide) (cost_ix h7), EvLM.nil ⟨rfl, ?_⟩⟩)) fun _ _ => rfl) rfl
  refine @Ex.sub _ _ _ _ _ _ _ _ ([("peers", .own C (.idt (peersL a P))), ("at", .val (.int a)), ("first", .val (.int (201 + dr (n + 2) 2))), ("origin", .val (.int (dr (n + 3) 2))), ("med", .val (.int (dr (n + 4) 2))), ("kind", .val (.str (kindS (dr (n + 5) 3)))),
    ("cost", .val (optD (costO (dr (n + 6) 4)))), ("preference", .val (.int (prefI (dr n 4)))), ("many", .val (.int (dr (n + 1) 2))), ("box", .own B (boxN scr (n + 7)))]) 
    (Sub.cons rfl (Sub.cons rfl (Sub.cons rfl (Sub.cons rfl (Sub.cons rfl (Sub.cons rfl (Sub.cons rfl (Sub.cons rfl (Sub.cons rfl (Sub.cons rfl Sub.nil)))))))))) ?_
  have hfresh : (a : Int) ∉ (peersL a P).map (·.1) := by
    intro q
    obtain ⟨x, hx, e⟩ := List.mem_map.mp q
    obtain ⟨i, hi, rfl⟩ := List.mem_map.mp hx
    have := List.mem_range.mp hi
    simp at e; omega
  refine @Ex.setIntM _ _ _ _ _ _ _ _ ("peers") _ _ _ _ _ (C) (peersL a P) ((a : Int)) rfl rfl hfresh (by unfold peersL; rw [List.length_map, List.length_range]; omega) (EvM.dictK rfl (by simp [kesOf]) (Nat.le_of_ble_eq_true rfl) fun U' => ?_)
  refine EvPM.cons (EvM.of (d := .int (30 + (3 * (a : Int) + 2).fmod 5)) (Ev.binop Ev.int (Ev.binop (Ev.binop (Ev.binop Ev.int (Ev.name rfl rfl) (BinR.mul (IntMulOk.of_left (by decide)))) Ev.int BinR.add) Ev.int (BinR.mod (by decide))) BinR.add) (EvPM.cons (EvM.of (Ev.name rfl rfl) (EvPM.cons (EvM.of (Ev.binop Ev.int (Ev.name rfl rfl) BinR.add) (EvPM.cons (EvM.of (Ev.name rfl rfl) (EvPM.nil ⟨by show ((["id", "as", "addr", "kind"] : List Str)).Nodup; decide, rfl, Ev.name rfl rfl, ?_⟩))))))))
  have hmany : dr (n + 1) 2 = 0 ∨ dr (n + 1) 2 = 1 := by omega
  refine Ex.dictOwnK rfl (by simp [kesOf]) (Nat.le_of_ble_eq_true rfl) (.inl rfl) rfl fun U' => ?_
  refine EvPM.cons (EvM.of (Ev.name rfl rfl) (EvPM.cons (EvM.of (d := (routeF dr n a).path) (Ev.eq (Ev.tuple (EvL.cons (Ev.tuple (EvL.cons Ev.int (EvL.cons (Ev.binop (Ev.tuple (EvL.cons (Ev.name rfl rfl) EvL.nil rfl) (Nat.le_of_ble_eq_true rfl)) (Ev.binop (Ev.tuple (EvL.cons Ev.int EvL.nil rfl) (Nat.le_of_ble_eq_true rfl)) (Ev.name rfl rfl) (BinR.mulT hmany (by simp))) (BinR.addT1 (by split <;> simp) (by simp))) EvL.nil rfl) rfl) (Nat.le_of_ble_eq_true rfl)) EvL.nil rfl) (Nat.le_of_ble_eq_true rfl)) ?_) ?_)))
  · have hn : (routeF dr n a).nums = .int (201 + dr (n + 2) 2) :: List.replicate (dr (n + 1) 2).toNat (.int 300) := rfl
    unfold Rt.path segD
    rw [hn]
    rcases hmany with e | e <;> rw [e] <;> rfl
  refine EvPM.cons (EvM.of (Ev.name rfl rfl) (EvPM.cons (EvM.of (Ev.binop Ev.int (Ev.name rfl rfl) BinR.add) (EvPM.nil ⟨by show ((["origin", "as_path", "med", "next_hop"] : List Str)).Nodup; decide, fun x U' M' hx0 => ?_⟩))))
  refine @Ex.setStr _ _ _ _ _ _ _ _ ("attrs") _ _ _ _ _ _ _ _ _ rfl (Ev.name rfl rfl) Ev.cstr (by show ¬ ("local_pref" : Str) ∈ ((["origin", "as_path", "med", "next_hop"] : List Str)); decide) (Nat.le_of_ble_eq_true rfl) rfl rfl ?_
  refine @Ex.frzO _ _ _ _ _ _ _ _ ("attrs") (x) _ [("at", .val (.int a)), ("cost", .val (optD (costO (dr (n + 6) 4)))), ("box", .own B (boxN scr (n + 7))), ("peers", .own C (.idt (peersL a P ++ [((a : Int), .sd [("id", .int (30 + (3 * (a : Int) + 2).fmod 5)), ("as", .int (201 + dr (n + 2) 2)), ("addr", .int (50 + a)), ("kind", .str (kindS (dr (n + 5) 3)))])])))]
    rfl hx0 (fun l e => nomatch e) (fun e => nomatch e) (Sub.cons rfl (Sub.cons rfl (Sub.cons rfl (Sub.cons rfl Sub.nil)))) rfl fun U' M' => ?_
  refine Ex.ret (Ev.tuple (EvL.cons (Ev.tuple (EvL.cons Ev.int (EvL.cons Ev.int EvL.nil rfl) rfl) (Nat.le_of_ble_eq_true rfl)) (EvL.cons (Ev.name rfl rfl) (EvL.cons (Ev.name rfl rfl) (EvL.cons (Ev.name rfl rfl) (EvL.cons Ev.int EvL.nil rfl) rfl) rfl) rfl) rfl) (Nat.le_of_ble_eq_true rfl)) ⟨rfl, rfl, rfl⟩
end
end Mine

end

section
namespace Mine
open PySem PySem.W PySem.Calls PyProof.Rows

/-- without one -/
noncomputable def wo (o : Rt) (l : List Rt) : List Rt := l.filter fun r => r ≠ o
theorem mem_wo {o r : Rt} {l : List Rt} : r ∈ wo o l ↔ r ∈ l ∧ r ≠ o := by unfold wo; rw [List.mem_filter]; simp
theorem wo_id {o : Rt} {l : List Rt} (h : o ∉ l) : wo o l = l := by
  unfold wo
  rw [List.filter_eq_self]
  intro r hr
  simp only [decide_eq_true_eq]
  exact fun e => h (e ▸ hr)
theorem lmin_eq {w : Rt → Int} {a : List Rt} {r : Rt} (hr : r ∈ a) (h : ∀ x ∈ a, w r ≤ w x) : lmin (a.map w) = w r := by
  apply Int.le_antisymm
  · exact lmin_le' (List.mem_map_of_mem hr)
  · obtain ⟨x, hx, e⟩ := List.mem_map.mp (lmin_mem (a.map w) (by intro e; rw [List.map_eq_nil_iff] at e; rw [e] at hr; cases hr))
    rw [← e]; exact h x hx
theorem mem_keepLeast {w : Rt → Int} {a : List Rt} {r : Rt} : r ∈ keepLeast w a ↔ r ∈ a ∧ ∀ x ∈ a, w r ≤ w x := by
  unfold keepLeast
  rw [List.mem_filter]
  constructor
  · rintro ⟨h1, h2⟩
    refine ⟨h1, fun x hx => ?_⟩
    have : w r = lmin (a.map w) := by simpa using h2
    rw [this]
    exact lmin_le' (List.mem_map_of_mem hx)
  · rintro ⟨h1, h2⟩
    exact ⟨h1, by rw [lmin_eq h1 h2]; simp⟩
theorem keepLeast_wo {w : Rt → Int} {a : List Rt} {o : Rt} (h : ∃ r ∈ keepLeast w a, r ≠ o) : keepLeast w (wo o a) = wo o (keepLeast w a) := by
  obtain ⟨r, hr, hro⟩ := h
  obtain ⟨h1, h2⟩ := mem_keepLeast.mp hr
  have e1 : lmin (a.map w) = w r := lmin_eq h1 h2
  have e2 : lmin ((wo o a).map w) = w r := lmin_eq (mem_wo.mpr ⟨h1, hro⟩) fun x hx => h2 x (mem_wo.mp hx).1
  unfold keepLeast
  rw [e1, e2]
  unfold wo
  rw [List.filter_filter, List.filter_filter]
  congr 1
  funext x
  rw [Bool.and_comm]
theorem keepLeast_const {c : Int} {a : List Rt} : keepLeast (fun _ => c) a = a := by
  unfold keepLeast
  rw [List.filter_eq_self]
  intro r hr
  have := lmin_eq (w := fun _ => c) hr (fun _ _ => Int.le_refl _)
  rw [this]; simp
theorem bestMeds_true (a : List Rt) : bestMeds true a = keepLeast (·.med) a := by
  unfold bestMeds keepLeast medBest rivalsOf
  congr 1
  funext r
  simp only [if_true]
  rw [Bool.beq_eq_decide_eq, Bool.beq_eq_decide_eq] <;> simp [eq_comm]

/-- least of least of .. is the least of the lists -/
noncomputable def chain (ws : List (Rt → Int)) (u : List Rt) : List Rt := ws.foldl (fun l w => keepLeast w l) u
theorem chain_sub : ∀ {ws : List (Rt → Int)} {u : List Rt} {b : Rt}, b ∈ chain ws u → b ∈ u
  | [], _, _, h => h
  | w :: ws, u, b, h => keepLeast_sub (chain_sub (ws := ws) (u := keepLeast w u) h)
theorem chain_lex : ∀ {ws : List (Rt → Int)} {u : List Rt} {b : Rt}, b ∈ chain ws u → ∀ x ∈ u, lexLt (ws.map fun w => w x) (ws.map fun w => w b) = false
  | [], _, _, _, _, _ => rfl
  | w :: ws, u, b, h, x, hx => by
    have hb : b ∈ keepLeast w u := chain_sub (ws := ws) h
    obtain ⟨_, h2⟩ := mem_keepLeast.mp hb
    have hle := h2 x hx
    rw [List.map_cons, List.map_cons]
    unfold lexLt
    by_cases e : w x = w b
    · rw [if_pos e]
      refine chain_lex (ws := ws) (u := keepLeast w u) h x (mem_keepLeast.mpr ⟨hx, fun y hy => by rw [e]; exact h2 y hy⟩)
    · rw [if_neg e]; simp; omega
theorem lastL_chain (P : Int → Pr) (u : List Rt) : lastL true P u = chain [lpW, plW, (·.org), (·.med), outW P, costW, idOf P, addrOf P] u := by
  unfold lastL costRung
  rw [keepLeast_const, keepLeast_const, bestMeds_true]
  rfl
theorem best_right (am : Bool) (P : Int → Pr) (rs : List Rt) : bestRight am P rs = true := by
  unfold bestRight
  by_cases h : usableL rs = []
  · rw [bestL_none h]
  · obtain ⟨b, hb, hm⟩ := bestL_ex (am := am) (P := P) h
    rw [hb]
    have hbu : b ∈ usableL rs := costRung_sub (lastL_sub hm)
    simp only [Bool.and_eq_true, decide_eq_true_eq, Bool.or_eq_true, Bool.not_eq_true']
    refine ⟨hbu, ?_⟩
    cases am with
    | false => exact .inl rfl
    | true =>
      refine .inr (lexMin_uniq (List.mem_map_of_mem hbu) fun x hx => ?_).symm
      obtain ⟨r, hr, rfl⟩ := List.mem_map.mp hx
      rw [lastL_chain] at hm
      exact chain_lex hm r hr
theorem used_right (am : Bool) (P : Int → Pr) (rs : List Rt) (most : Int) (h1 : 1 ≤ most) : usedRight am P rs most = true := by
  unfold usedRight
  cases hb : bestL am P rs with
  | none => rfl
  | some b =>
    have hue : usableL rs ≠ [] := fun e => by rw [bestL_none e] at hb; cases hb
    obtain ⟨b', hb', hm⟩ := bestL_ex (am := am) (P := P) hue
    rw [hb] at hb'; cases hb'
    have he : equalL am P rs most = (costRung am P (usableL rs)).foldl (eqStep b most) [b] := by
      unfold equalL; rw [hb]; dsimp only; rw [if_neg (by omega), rungOf_cost hue]
    simp only [Bool.and_eq_true, decide_eq_true_eq]
    refine ⟨?_, ?_⟩
    · rw [he]; exact fold_len h1 _ _ (by simp; omega)
    · unfold strangeL
      rw [List.filter_eq_nil_iff, he]
      intro r hr
      rcases fold_mem _ _ _ hr with q | ⟨q1, q2⟩
      · rw [List.mem_singleton.mp q]; simp [lastL_sub hm]
      · simp [q1, q2]
end Mine

end

section
namespace Mine
open PySem PySem.W PySem.Calls PyProof.Rows

noncomputable def stepK (am : Bool) (P : Int → Pr) : Nat → List Rt → List Rt
  | 0 => keepLeast lpW
  | 1 => keepLeast (fun _ => 1)
  | 2 => keepLeast plW
  | 3 => keepLeast (·.org)
  | 4 => bestMeds am
  | 5 => keepLeast (outW P)
  | 6 => keepLeast costW
  | 7 => keepLeast (idOf P)
  | 8 => keepLeast (fun _ => 0)
  | _ => keepLeast (addrOf P)
noncomputable def stg (am : Bool) (P : Int → Pr) (u : List Rt) : Nat → List Rt
  | 0 => u
  | k + 1 => stepK am P k (stg am P u k)
noncomputable def wordsL : List Str := ["usable", "preference", "own", "path", "origin", "med", "outside", "cost", "id", "clusters", "address"]
theorem ladder_stg {am : Bool} {P : Int → Pr} {rs : List Rt} (h : usableL rs ≠ []) : ladderL am P rs = [(("usable" : Str), stg am P (usableL rs) 0), ("preference", stg am P (usableL rs) 1), ("own", stg am P (usableL rs) 2), ("path", stg am P (usableL rs) 3), ("origin", stg am P (usableL rs) 4),
    ("med", stg am P (usableL rs) 5), ("outside", stg am P (usableL rs) 6), ("cost", stg am P (usableL rs) 7), ("id", stg am P (usableL rs) 8), ("clusters", stg am P (usableL rs) 9), ("address", stg am P (usableL rs) 10)] := ladderL_some h
theorem stepK_sub {am : Bool} {P : Int → Pr} {k : Nat} {a : List Rt} {r : Rt} (h : r ∈ stepK am P k a) : r ∈ a := by
  unfold stepK at h
  split at h <;> first | exact keepLeast_sub h | exact bestMeds_sub h
theorem stepK_ne {am : Bool} {P : Int → Pr} {k : Nat} {a : List Rt} (h : a ≠ []) : stepK am P k a ≠ [] := by
  unfold stepK
  split <;> first | exact keepLeast_ne h | exact bestMeds_ne h
theorem stg_sub {am : Bool} {P : Int → Pr} {u : List Rt} {r : Rt} : ∀ {j k : Nat}, j ≤ k → r ∈ stg am P u k → r ∈ stg am P u j := by
  intro j k
  induction k with
  | zero => intro h q; obtain rfl : j = 0 := by omega
            exact q
  | succ k ih =>
    intro h q
    by_cases e : j = k + 1
    · subst e; exact q
    · exact ih (by omega) (stepK_sub q)
theorem stg_ne {am : Bool} {P : Int → Pr} {u : List Rt} (h : u ≠ []) : ∀ k, stg am P u k ≠ []
  | 0 => h
  | k + 1 => stepK_ne (stg_ne h k)
theorem medBest_iff {am : Bool} {a : List Rt} {r : Rt} (hr : r ∈ rivalsOf am a r) : medBest am a r = true ↔ ∀ x ∈ rivalsOf am a r, r.med ≤ x.med := by
  unfold medBest
  constructor
  · intro h x hx
    have : lmin ((rivalsOf am a r).map (·.med)) = r.med := by simpa using h
    rw [← this]
    exact lmin_le' (List.mem_map_of_mem (f := (·.med)) hx)
  · intro h
    rw [lmin_eq (w := (·.med)) hr h]; simp
theorem self_rival {am : Bool} {a : List Rt} {r : Rt} (h : r ∈ a) : r ∈ rivalsOf am a r := by unfold rivalsOf; split <;> simp [h]
theorem mem_rivals {a : List Rt} {r x : Rt} : x ∈ rivalsOf false a r ↔ x ∈ a ∧ x.fst = r.fst := by
  unfold rivalsOf
  rw [if_neg (by simp), List.mem_filter]
  simp
theorem mem_bestMeds {am : Bool} {a : List Rt} {r : Rt} : r ∈ bestMeds am a ↔ r ∈ a ∧ ∀ x ∈ rivalsOf am a r, r.med ≤ x.med := by
  unfold bestMeds
  rw [List.mem_filter]
  constructor
  · rintro ⟨h1, h2⟩; exact ⟨h1, (medBest_iff (self_rival h1)).mp h2⟩
  · rintro ⟨h1, h2⟩; exact ⟨h1, (medBest_iff (self_rival h1)).mpr h2⟩
theorem bestMeds_wo {a : List Rt} {o : Rt} (h : o ∉ bestMeds false a) : bestMeds false (wo o a) = wo o (bestMeds false a) := by
  unfold bestMeds wo
  rw [List.filter_filter, List.filter_filter]
  refine List.filter_congr fun r hr => ?_
  by_cases e : r = o
  · simp [e]
  · have hw : r ∈ wo o a := mem_wo.mpr ⟨hr, e⟩
    have key : medBest false (wo o a) r = medBest false a r := by
      rw [Bool.eq_iff_iff, medBest_iff (self_rival hw), medBest_iff (self_rival hr)]
      constructor
      · intro q x hx
        obtain ⟨x1, x2⟩ := mem_rivals.mp hx
        by_cases ex : x = o
        · subst ex
          -- o falls: a rival of it has less
          have hno : ¬ ∀ y ∈ rivalsOf false a x, x.med ≤ y.med := fun t => h (mem_bestMeds.mpr ⟨x1, t⟩)
          simp only [Classical.not_forall, Int.not_le] at hno
          obtain ⟨y, hy, hlt⟩ := hno
          obtain ⟨y1, y2⟩ := mem_rivals.mp hy
          have hyo : y ≠ x := fun t => by rw [t] at hlt; omega
          have := q y (mem_rivals.mpr ⟨mem_wo.mpr ⟨y1, hyo⟩, y2.trans x2⟩)
          omega
        · exact q x (mem_rivals.mpr ⟨mem_wo.mpr ⟨x1, ex⟩, x2⟩)
      · intro q x hx
        obtain ⟨x1, x2⟩ := mem_rivals.mp hx
        exact q x (mem_rivals.mpr ⟨(mem_wo.mp x1).1, x2⟩)
    show (medBest false (wo o a) r && _) = _
    rw [key, Bool.and_comm]
theorem stepK_wo {am : Bool} {P : Int → Pr} {k : Nat} {a : List Rt} {o : Rt} (h4 : k = 4 → am = true ∨ o ∉ bestMeds am a) (h : ∃ r ∈ stepK am P k a, r ≠ o) : stepK am P k (wo o a) = wo o (stepK am P k a) := by
  unfold stepK at h ⊢
  split at h <;> try exact keepLeast_wo h
  cases am with
  | true => rw [bestMeds_true] at h ⊢; rw [bestMeds_true]; exact keepLeast_wo h
  | false =>
    rcases h4 rfl with q | q
    · cases q
    · exact bestMeds_wo q
theorem stg_wo {am : Bool} {P : Int → Pr} {u : List Rt} {o : Rt} {n : Nat} (hu : u ≠ []) (hn : 4 < n → am = true ∨ o ∉ stg am P u 5) (h : ∃ k, o ∉ stg am P u k) : ∀ k, k ≤ n → stg am P (wo o u) k = wo o (stg am P u k)
  | 0, _ => rfl
  | k + 1, hk => by
    have ih := stg_wo hu hn h k (by omega)
    show stepK am P k (stg am P (wo o u) k) = _
    rw [ih]
    refine stepK_wo (fun e => ?_) ?_
    · subst e; exact hn (by omega)
    · obtain ⟨k0, h0⟩ := h
      obtain ⟨r, hr⟩ := List.exists_mem_of_ne_nil _ (stg_ne (am := am) (P := P) hu (max k0 (k + 1)))
      have h1 := stg_sub (Nat.le_max_left k0 (k + 1)) hr
      have h2 : r ∈ stg am P u (k + 1) := stg_sub (Nat.le_max_right k0 (k + 1)) hr
      exact ⟨r, h2, fun e => h0 (e ▸ h1)⟩
theorem usableL_wo {o : Rt} {l : List Rt} : usableL (wo o l) = wo o (usableL l) := by
  unfold usableL wo
  rw [List.filter_filter, List.filter_filter]
  congr 1
  funext x
  rw [Bool.and_comm]
end Mine

end

section
namespace Mine
open PySem PySem.W PySem.Calls PyProof.Rows

noncomputable def fallC (o : Rt) : Nat → List (Str × List Rt) → List Nat
  | _, [] => []
  | i, x :: l => if o ∈ x.2 then fallC o (i + 1) l else i :: fallC o (i + 1) l
theorem fallC_nil {o : Rt} : ∀ {l : List (Str × List Rt)} {i : Nat}, fallC o i l = [] → ∀ x ∈ l, o ∈ x.2
  | [], _, _, _, h => by cases h
  | y :: l, i, h, x, hx => by
    unfold fallC at h
    split at h
    · rename_i q
      rcases List.mem_cons.mp hx with rfl | hx
      · exact q
      · exact fallC_nil h x hx
    · cases h
theorem fallC_head {o : Rt} {k : Nat} {t : List Nat} : ∀ {l : List (Str × List Rt)} {i : Nat}, fallC o i l = k :: t → i ≤ k ∧ ∃ x, l[k - i]? = some x ∧ o ∉ x.2
  | [], _, h => by simp [fallC] at h
  | y :: l, i, h => by
    unfold fallC at h
    split at h
    · obtain ⟨h1, x, h2, h3⟩ := fallC_head h
      refine ⟨by omega, x, ?_, h3⟩
      rw [show k - i = (k - (i + 1)) + 1 by omega]
      exact h2
    · rename_i q
      cases h
      exact ⟨Nat.le_refl _, y, by simp, q⟩
theorem ladder_at {am : Bool} {P : Int → Pr} {rs : List Rt} (h : usableL rs ≠ []) {k : Nat} {x : Str × List Rt} (e : (ladderL am P rs)[k]? = some x) : k ≤ 10 ∧ x.2 = stg am P (usableL rs) k := by
  rw [ladder_stg h] at e
  have hk : k < 11 := by
    have := (List.getElem?_eq_some_iff.mp e).1
    simpa using this
  have : k = 0 ∨ k = 1 ∨ k = 2 ∨ k = 3 ∨ k = 4 ∨ k = 5 ∨ k = 6 ∨ k = 7 ∨ k = 8 ∨ k = 9 ∨ k = 10 := by omega
  rcases this with rfl | rfl | rfl | rfl | rfl | rfl | rfl | rfl | rfl | rfl | rfl <;> (simp at e; subst e; exact ⟨by omega, rfl⟩)
theorem best_one {am : Bool} {P : Int → Pr} {mo : List Rt} {o : Rt} (hid : ∀ r ∈ mo, idOf P r = idOf P o → r = o) (hf : fallC o 0 (ladderL am P mo) = []) : bestL am P mo = some o := by
  have hall := fallC_nil hf
  have hu : usableL mo ≠ [] := by
    intro e
    have := hall (("usable" : Str), ([] : List Rt)) (by rw [ladderL_none e]; exact List.mem_cons_self)
    cases this
  obtain ⟨b, hb, hm⟩ := bestL_ex (am := am) (P := P) hu
  have ho : o ∈ lastL am P (usableL mo) := hall (("address" : Str), lastL am P (usableL mo)) (by rw [ladderL_some hu]; simp [lastRungs, lastL])
  have hb8 : b ∈ keepLeast (idOf P) (costRung am P (usableL mo)) := keepLeast_sub (keepLeast_sub hm)
  have ho8 : o ∈ keepLeast (idOf P) (costRung am P (usableL mo)) := keepLeast_sub (keepLeast_sub ho)
  have e : idOf P b = idOf P o := by
    obtain ⟨b1, b2⟩ := mem_keepLeast.mp hb8
    obtain ⟨o1, o2⟩ := mem_keepLeast.mp ho8
    have := b2 o o1
    have := o2 b b1
    omega
  rw [hb, hid b (bestL_mem hb) e]
theorem fall_none {am : Bool} {P : Int → Pr} {mo : List Rt} {o : Rt} (hu : usableL mo = []) : fallC o 0 (ladderL am P mo) = [0] := by
  rw [ladderL_none hu]; simp [fallC]
theorem rest_ne {am : Bool} {P : Int → Pr} {mo : List Rt} {o : Rt} (hu : usableL mo ≠ []) {k : Nat} (h : o ∉ stg am P (usableL mo) k) : usableL (wo o mo) ≠ [] := by
  rw [usableL_wo]
  obtain ⟨r, hr⟩ := List.exists_mem_of_ne_nil _ (stg_ne (am := am) (P := P) hu k)
  have h2 : r ∈ stg am P (usableL mo) 0 := stg_sub (Nat.zero_le k) hr
  intro e
  have : r ∈ wo o (usableL mo) := mem_wo.mpr ⟨h2, fun q => h (q ▸ hr)⟩
  rw [e] at this; cases this
theorem without_all {am : Bool} {P : Int → Pr} {mo : List Rt} {o : Rt} (hu : usableL mo ≠ []) {k : Nat} (h : o ∉ stg am P (usableL mo) k) (h5 : am = true ∨ o ∉ stg am P (usableL mo) 5) : without (ladderL am P mo) o = ladderL am P (wo o mo) := by
  have hr := rest_ne hu h
  have key := stg_wo (n := 10) hu (fun _ => h5) ⟨k, h⟩
  rw [ladder_stg hu, ladder_stg hr, usableL_wo]
  rw [key 0 (by omega), key 1 (by omega), key 2 (by omega), key 3 (by omega), key 4 (by omega), key 5 (by omega), key 6 (by omega), key 7 (by omega), key 8 (by omega), key 9 (by omega), key 10 (by omega)]
  rfl
theorem without_none {am : Bool} {P : Int → Pr} {mo : List Rt} {o : Rt} (hu : usableL mo = []) : without (ladderL am P mo) o = ladderL am P (wo o mo) := by
  rw [ladderL_none hu, ladderL_none (by rw [usableL_wo, hu]; rfl)]; rfl
theorem without_five {am : Bool} {P : Int → Pr} {mo : List Rt} {o : Rt} (hu : usableL mo ≠ []) {k : Nat} (h : o ∉ stg am P (usableL mo) k) : without ((ladderL am P mo).take 5) o = (ladderL am P (wo o mo)).take 5 := by
  have hr := rest_ne hu h
  have key := stg_wo (n := 4) hu (fun q => by omega) ⟨k, h⟩
  rw [ladder_stg hu, ladder_stg hr, usableL_wo]
  show _ = [(("usable" : Str), stg am P (wo o (usableL mo)) 0), ("preference", stg am P (wo o (usableL mo)) 1), ("own", stg am P (wo o (usableL mo)) 2), ("path", stg am P (wo o (usableL mo)) 3), ("origin", stg am P (wo o (usableL mo)) 4)]
  rw [key 0 (by omega), key 1 (by omega), key 2 (by omega), key 3 (by omega), key 4 (by omega)]
  rfl
theorem equal_same {am : Bool} {P : Int → Pr} {mo : List Rt} {o : Rt} (hu : usableL mo ≠ []) {k : Nat} (hk : k ≤ 7) (h : o ∉ stg am P (usableL mo) k) (h5 : am = true ∨ o ∉ stg am P (usableL mo) 5) (most : Int) : equalL am P mo most = equalL am P (wo o mo) most := by
  have hr := rest_ne hu h
  have key := stg_wo (n := 10) hu (fun _ => h5) ⟨k, h⟩
  have hno : ∀ j, 7 ≤ j → o ∉ stg am P (usableL mo) j := fun j hj q => h (stg_sub (by omega) q)
  have e7 : costRung am P (usableL (wo o mo)) = costRung am P (usableL mo) := by
    have := key 7 (by omega)
    rw [wo_id (hno 7 (by omega))] at this
    rw [usableL_wo]; exact this
  have e10 : lastL am P (usableL (wo o mo)) = lastL am P (usableL mo) := by
    have := key 10 (by omega)
    rw [wo_id (hno 10 (by omega))] at this
    rw [usableL_wo]; exact this
  unfold equalL
  rw [bestL_some hu, bestL_some hr, e10, rungOf_cost hu, rungOf_cost hr, e7]
theorem equal_none {am : Bool} {P : Int → Pr} {mo : List Rt} {o : Rt} (hu : usableL mo = []) (most : Int) : equalL am P mo most = equalL am P (wo o mo) most := by
  unfold equalL
  rw [bestL_none hu, bestL_none (by rw [usableL_wo, hu]; rfl)]
/-- the last loop's test -/
theorem med_loop {P : Int → Pr} {mo : List Rt} {o r : Rt} (hu : usableL mo ≠ []) {k : Nat} (h : o ∉ stg false P (usableL mo) k) (hro : r ≠ o)
    (hne : decide (r ∈ stg false P (usableL (wo o mo)) 5) ≠ decide (r ∈ stg false P (usableL mo) 5)) : r ∉ stg false P (usableL mo) 5 ∧ r.fst = o.fst ∧ o.med < r.med := by
  have key := stg_wo (am := false) (P := P) (n := 4) hu (fun q => by omega) ⟨k, h⟩
  have h4 := key 4 (by omega)
  rw [usableL_wo] at hne
  have e5 : ∀ a, stg false P a 5 = bestMeds false (stg false P a 4) := fun _ => rfl
  rw [e5, e5, h4] at hne
  rw [e5]
  generalize stg false P (usableL mo) 4 = a at hne
  by_cases hb : r ∈ bestMeds false a
  · exfalso
    apply hne
    obtain ⟨h1, h2⟩ := mem_bestMeds.mp hb
    have : r ∈ bestMeds false (wo o a) := mem_bestMeds.mpr ⟨mem_wo.mpr ⟨h1, hro⟩, fun x hx => h2 x (by
      obtain ⟨x1, x2⟩ := mem_rivals.mp hx
      exact mem_rivals.mpr ⟨(mem_wo.mp x1).1, x2⟩)⟩
    simp [hb, this]
  · refine ⟨hb, ?_⟩
    have hw : r ∈ bestMeds false (wo o a) := by
      by_cases q : r ∈ bestMeds false (wo o a)
      · exact q
      · exact absurd (by simp [hb, q]) hne
    obtain ⟨w1, w2⟩ := mem_bestMeds.mp hw
    have ha := (mem_wo.mp w1).1
    have hno : ¬ ∀ y ∈ rivalsOf false a r, r.med ≤ y.med := fun t => hb (mem_bestMeds.mpr ⟨ha, t⟩)
    simp only [Classical.not_forall, Int.not_le] at hno
    obtain ⟨y, hy, hlt⟩ := hno
    obtain ⟨y1, y2⟩ := mem_rivals.mp hy
    by_cases hyo : y = o
    · subst hyo; exact ⟨y2.symm, hlt⟩
    · have := w2 y (mem_rivals.mpr ⟨mem_wo.mpr ⟨y1, hyo⟩, y2⟩)
      omega
end Mine

end

section
namespace Mine
open PySem PySem.W PySem.Calls PyProof.Rows

/-- list(x), x a tuple of the module's -/
theorem Ev.listGlob {S : S0} {f : Fm} {y : Dy} {x z : Str} {p q pos : Pos} {a : Addr} {o : Obj} {vs : Array Value} {n : Nat} {ds : List D} (hx : f.env.kindOf x = some .globalImplicit) (hv : nsIn S.K mainGlobals x = some none) (hb : bootBuiltins x = some (.type "list")) (hn : x ≠ "__name__")
    (hz : f.env.kindOf z = some .globalImplicit) (hvz : nsIn S.K mainGlobals z = some (some (.ref a))) (hat : S.K.lookup a = some o) (hc : o.cls = .type "tuple") (hd : o.data = .seq vs n) (hr : ∀ U h, RdA S U h vs.toList ds) (hsz : ds.length ≤ 1000)
    (he : starEach [.Name z q] f.env = (false, eval (.Name z q) f.env) :: starEach [] f.env) (hp : ∀ pos, (backTo pos (starEach [] f.env)).any (·.1) = false) (hdx : (x == ("__debug__" : Str)) = false) (hdz : (z == ("__debug__" : Str)) = false) :
    Ev S f y (.Call (.Name x p) [.Name z q] [] pos) (.lst ds) := by
  intro A s Q E hA ok hq
  refine Call_ (Name_function_global ok.kind hx (loadGlobal_builtin (env := f.env) (by rw [ok.glob]; exact ok.top.g) (mg_none_of ok.top.X ok.top.g hv) (by rw [ok.blt]; exact ok.top.b) ((ok.top.builtins x hn).trans hb) ?_) hdx)
  refine PyProof.Rows.callWith_type1 ?_ he (hp _)
  rw [he]
  show wpAny _ A (spliced ((false, eval (.Name z q) f.env) :: backTo pos (starEach [] f.env))) _ E s
  unfold spliced
  refine wpAny_bind (Name_function_global ok.kind hz (loadGlobal_global (env := f.env) (by rw [ok.glob]; exact ok.top.g) (mg_of ok.top.X ok.top.g hvz) ?_) hdz)
  simp only [Bool.false_eq_true, if_false]
  refine wpAny_bind (wpAny_pure (wpAny_bind (wpAny_holding (spliced_nil (wpAny_pure ?_)))))
  have hlen := (hr [] s.heap).length
  rw [Array.length_toList] at hlen
  refine call_list_seq a (.inr rfl) (ok.top.X _ _ hat) hc hd (fun h' c' k' e' => ?_) (by rw [sizeLine_eq]; omega)
  exact hq _ h' s.toks k' (.lst (fresh_notin ok.live) e' ⟨rfl, rfl⟩ rfl (hr _ _))
theorem CmpR.eqNats {S : S0} {l m : List Nat} : CmpR S .Eq (.lst (l.map fun i => D.int (i : Nat))) (.lst (m.map fun i => D.int (i : Nat))) (decide (l = m)) := CmpR.eqLst (lst_cmp 8 (fun i : Nat => D.int (i : Nat)) (fun a b => by rw [cmp_int]; congr 1; rw [Bool.eq_iff_iff, beq_iff_eq, decide_eq_true_eq]; exact Int.ofNat_inj) l m)
theorem CmpR.neStrs {S : S0} {l m : List Str} : CmpR S .NotEq (.lst (l.map D.str)) (.lst (m.map D.str)) (!decide (l = m)) := CmpR.neLst (lst_cmp 8 D.str (fun a b => by rw [cmp_str]; congr 1) l m)
theorem compM_fall (o : Rt) : ∀ (l : List (Str × List Rt)) (i : Nat), compM (fun _ (x : Str × List Rt) => !decide (o ∈ x.2)) (fun i _ => D.int (i : Nat)) i l = (fallC o i l).map fun i => D.int (i : Nat)
  | [], _ => rfl
  | x :: l, i => by
    have ih := compM_fall o l (i + 1)
    unfold compM fallC
    rw [ih]
    by_cases h : o ∈ x.2 <;> simp [h]
theorem ladder_words {am : Bool} {P : Int → Pr} {rs : List Rt} : (ladderL am P rs).length = 11 → (ladderL am P rs).map (·.1) = wordsL := by
  intro h
  by_cases e : usableL rs = []
  · rw [ladderL_none e] at h; simp at h
  · rw [ladder_stg e]; rfl
section
variable {prog : Program} {w : World} {mg mb : Str → Option Value}
theorem rungs_rd (U : List Addr) (h : Heap) : ∃ a o vs n, nsIn (KL w.params) mainGlobals "_law_rungs" = some (some (.ref a)) ∧ (KL w.params).lookup a = some o ∧ o.cls = .type "tuple" ∧ o.data = .seq vs n ∧ ∀ U h, RdA (TS w mg mb prog) U h vs.toList (wordsL.map D.str) := by
  refine ⟨_, _, _, _, rfl, rfl, rfl, rfl, fun U h => ?_⟩
  exact .cons (.str _ _) (.cons (.str _ _) (.cons (.str _ _) (.cons (.str _ _) (.cons (.str _ _) (.cons (.str _ _) (.cons (.str _ _) (.cons (.str _ _) (.cons (.str _ _) (.cons (.str _ _) (.cons (.str _ _) .nil))))))))))
end
end Mine

end

section
namespace Mine
open PySem PySem.W PySem.Calls PyProof.Rows

noncomputable def lawBody (p : Params) : List Stmt := match (KL p).lookup 151 with
  | some ⟨_, _, .func fd, _⟩ => (match fd.body with
    | .stmts b => b
    | _ => [])
  | _ => []
noncomputable def lawScope (p : Params) : Scope := match (KL p).lookup 151 with
  | some ⟨_, _, .func fd, _⟩ => fd.scope
  | _ => { kind := .function, names := [], isGenerator := false, isCoroutine := false }
/-- what the body and the scope are, once written out -/
theorem law_open (p : Params) {P : List Stmt → Scope → Prop} {oc : Value} {od : Option Addr} {osl : Array (Option Value)} {name q : Str} {params : Arguments} {body : List Stmt} {sc : Scope} {cl : List (Str × Addr)} {dV kV doc pm cd ct : Value} {an : Option Addr}
    (hat : (KL p).lookup 151 = some ⟨oc, od, .func (fnX name q params body sc cl dV kV doc pm an cd ct), osl⟩) (h : P body sc) : P (lawBody p) (lawScope p) := by
  unfold lawBody lawScope
  rw [hat]
  exact h

theorem FnB2.mono {S : S0} {g : Value} {k k' : Nat} {o o2 o' o2' d : D} {ds : List D} (h : FnB2 S g k o ds o2 o' o2' d) (hk : k ≤ k') : FnB2 S g k' o ds o2 o' o2' d := fun A s U g₀ B C vs Q E hA => h A s U g₀ B C vs Q E ⟨hA.1, by have := hA.2.1; omega, by have := hA.2.2; omega⟩
noncomputable def rtAt (dr : Nat → Int → Int) (j : Nat) : Rt := routeF dr (4 + 7 * j) j
noncomputable def prAt (dr : Nat → Int → Int) (a : Int) : Pr := peerF dr (4 + 7 * a.toNat) a
theorem peersL_succ (dr : Nat → Int → Int) (i : Nat) : peersL i (prAt dr) ++ [((i : Int), (peerF dr (4 + 7 * i) i).d)] = peersL (i + 1) (prAt dr) := by
  unfold peersL
  rw [List.range_succ, List.map_append]
  rfl
theorem range_get {n i r : Nat} (h : (List.range n)[i]? = some r) : r = i ∧ i < n := by
  obtain ⟨h1, h2⟩ := List.getElem?_eq_some_iff.mp h
  rw [List.length_range] at h1
  rw [List.getElem_range] at h2
  exact ⟨h2.symm, h1⟩
section
variable {prog : Program} {w : World} {mg mb : Str → Option Value}
set_option maxHeartbeats 4000000 in
theorem law_ex (scr : List Int) (h63 : scr.length ≤ 63) (cd : Value) (L fa : Addr) (g₀ : Heap) (U M : List Addr) : Ex (TS w mg mb prog) { env := envF (lawScope w.params) "law" cd L fa, g₀ := g₀, U₀ := [], k := 7 } ⟨U, M, [("script", .val (.lst (scr.map D.int)))]⟩ (lawBody w.params) (fun _ => False) (fun d _ => d = .bool true) := by
  refine law_open (P := fun b sc => Ex (TS w mg mb prog) { env := envF sc "law" cd L fa, g₀ := g₀, U₀ := [], k := 7 } ⟨U, M, [("script", .val (.lst (scr.map D.int)))]⟩ b (fun _ => False) (fun d _ => d = .bool true)) w.params rfl ?_
  have hlen : (scr.take 41).length ≤ 1000 := by rw [List.length_take]; omega
  refine @Ex.start3 _ _ _ _ _ _ _ _ ("box") ("peers") ("routes") _ _ ([.lst ((scr.take 41).map D.int), .int 0]) _ _ _ _ _ _ _ _ (EvL.cons (Ev.callT (ds := [.lst ((scr.take 41).map D.int)]) rfl (n_list _) rfl (by decide) (EvL.cons (Ev.eq (Ev.sliceTo (b := 41) (Ev.name rfl rfl) Ev.int (by rw [List.length_map]; omega) (fun _ _ => rfl) (fun _ _ => rfl)) (by rw [List.map_take])) EvL.nil rfl) (FnC.listL (by rw [List.length_map]; exact hlen)) rfl (fun _ => rfl) rfl) (EvL.cons Ev.int EvL.nil rfl) rfl) (by simp) (fun z a d => ?_) rfl rfl rfl (by decide) (by decide) (by decide) rfl rfl rfl rfl fun B C Rr U M => ?_
  · by_cases h : z = "script"
    · subst h; rw [lookup_cons_eq]; intro e; cases e
    · rw [lookup_cons_ne h]; intro e; simp at e
  generalize scr.take 41 = sc at hlen
  obtain ⟨dr, hdr⟩ : ∃ dr : Nat → Int → Int, ∀ n c, drawF sc n c = dr n c := ⟨_, fun _ _ => rfl⟩
  have hrg : ∀ n c, 0 < c → 0 ≤ dr n c ∧ dr n c < c := fun n c hc => by rw [← hdr]; exact drawF_rng hc
  refine Ex.assignM (EvM.dictK rfl (by simp [kesOf]) (Nat.le_of_ble_eq_true rfl) fun U' => EvPM.cons (EvM.cmp (draw_ev (n := 0) (scr := sc) rfl (by decide) (by omega) hlen (Nat.le_of_ble_eq_true rfl) rfl rfl rfl hdr fun _ => EvM.of Ev.int ⟨_, CmpR.eqInt, EvPM.nil ⟨by show ((["always_med"] : List Str)).Nodup; decide, ?_⟩⟩) rfl)) (.inl rfl) rfl
  refine @Ex.unpackS _ _ _ _ _ _ _ _ _ _ _ _ _ _ _ (["size", "place", "most"]) (fun x hx => ?_) (by decide) (EvLM.cons (EvM.binop (EvM.of Ev.int (draw_ev (n := 1) (scr := sc) rfl (by decide) (by omega) hlen (Nat.le_of_ble_eq_true rfl) rfl rfl rfl hdr fun h1 => ⟨_, BinR.add, ?_⟩))) rfl) rfl rfl
  · simp at hx; rcases hx with rfl | rfl | rfl <;> exact .inl rfl
  refine EvLM.cons (draw_ev (n := 2) (scr := sc) rfl (by decide) (by omega) hlen (Nat.le_of_ble_eq_true rfl) rfl rfl rfl hdr fun h2 => ?_) rfl
  refine EvLM.cons (EvM.binop (EvM.of Ev.int (draw_ev (n := 3) (scr := sc) rfl (by decide) (by omega) hlen (Nat.le_of_ble_eq_true rfl) rfl rfl rfl hdr fun h3 => ⟨_, BinR.add, EvLM.nil ⟨rfl, ?_⟩⟩))) rfl
  obtain ⟨sz, hsz⟩ : ∃ sz : Nat, 2 + dr 1 3 = (sz : Int) := ⟨(2 + dr 1 3).toNat, by have := hrg 1 3 (by decide); omega⟩
  obtain ⟨pl, hpl⟩ : ∃ pl : Nat, dr 2 5 = (pl : Int) := ⟨(dr 2 5).toNat, by have := hrg 2 5 (by decide); omega⟩
  have hszr : 2 ≤ sz ∧ sz ≤ 4 := by have := hrg 1 3 (by decide); omega
  refine @Ex.sub _ _ _ _ _ _ _ _ ([("box", .own B (boxN sc 4)), ("peers", .own C (.idt [])), ("routes", .own Rr (.lst [])), ("options", .val (.sd (optsL (dr 0 2 == 1)))), ("size", .val (.int (2 + dr 1 3))), ("place", .val (.int (dr 2 5))), ("most", .val (.int (1 + dr 3 4)))]) 
    (Sub.cons rfl (Sub.cons rfl (Sub.cons rfl (Sub.cons rfl (Sub.cons rfl (Sub.cons rfl (Sub.cons rfl Sub.nil))))))) ?_
  rw [hsz, hpl]
  refine @Ex.forM _ _ _ _ _ _ _ _ _ (List.range (sz + 1)) _ _ _ _ _ (fun _ i => .int (i : Nat)) (ix_map _ _) (fun i => [("box", .own B (boxN sc (4 + 7 * i))), ("peers", .own C (.idt (peersL i (prAt dr)))), ("routes", .own Rr (.lst ((List.range i).map fun j => (rtAt dr j).d))), ("options", .val (.sd (optsL (dr 0 2 == 1)))), ("size", .val (.int sz)), ("place", .val (.int pl)), ("most", .val (.int (1 + dr 3 4)))]) (fun _ d => [("at", .val d)])
    (Src.range (n := sz + 1) (by omega) rfl (n_range _) rfl (by decide) (Ev.eq (Ev.binop (Ev.name rfl rfl) Ev.int BinR.add) (by push_cast; rfl)) rfl rfl) (Sub.cons rfl (Sub.cons rfl (Sub.cons rfl (Sub.cons rfl (Sub.cons rfl (Sub.cons rfl (Sub.cons rfl Sub.nil))))))) (fun i r hr => Asg.name (.inl rfl)) (fun U' i r hr => ?_) (fun _ => rfl) ?_
  · obtain ⟨rfl, hi⟩ := range_get hr
    refine Ex.assignM (EvM.call2 (z := "box") (t := "peers") (by decide) rfl rfl (Ev.name rfl rfl) rfl (n_law_route _) (k_law_route _) (FnB2.mono (law_route_ok sc dr hdr (4 + 7 * r) r (prAt dr) (by omega) (by omega) hlen) (Nat.le_of_ble_eq_true rfl)) rfl rfl (fun _ => rfl) rfl rfl rfl ?_) (.inl rfl) rfl
    refine @Ex.append _ _ _ _ _ _ _ _ ("routes") _ _ (Rr) ((List.range r).map fun j => (rtAt dr j).d) _ _ _ _ rfl (Ev.name rfl rfl) (by rw [List.length_map, List.length_range]; omega) rfl rfl rfl rfl rfl rfl (Ex.post (Sub.cons ?_ (Sub.cons ?_ (Sub.cons ?_ (Sub.cons rfl (Sub.cons rfl (Sub.cons rfl (Sub.cons rfl Sub.nil))))))))
    · rfl
    · rw [← peersL_succ]; rfl
    · rw [List.range_succ, List.map_append]; rfl
  rw [List.length_range]
  have hfirst : ((List.range (sz + 1)).map fun j => (rtAt dr j).d) = (rtAt dr 0).d :: (((List.range sz).map fun j => rtAt dr (j + 1)).map Rt.d) := by
    rw [List.range_succ_eq_map, List.map_cons, List.map_map, List.map_map]
    rfl
  rw [hfirst]
  have hpne : peersL (sz + 1) (prAt dr) ≠ [] := by unfold peersL; simp
  have hrl : ((List.range sz).map fun j => rtAt dr (j + 1)).length = sz := by rw [List.length_map, List.length_range]
  have hok : ∀ j, j ≤ sz → (rtAt dr j).ok (sz + 1) := fun j hj => by
    have := hrg (4 + 7 * j + 1) 2 (by decide)
    refine ⟨?_, ?_, ?_⟩
    · show (0 : Int) ≤ (j : Int); omega
    · show (j : Int) < ((sz + 1 : Nat) : Int); omega
    · show (dr (4 + 7 * j + 1) 2).toNat ≤ 1; omega
  have hoks : ∀ r ∈ (List.range sz).map fun j => rtAt dr (j + 1), r.ok (sz + 1) := fun r hr => by
    obtain ⟨j, hj, rfl⟩ := List.mem_map.mp hr
    exact hok (j + 1) (by have := List.mem_range.mp hj; omega)
  generalize hrs : (List.range sz).map (fun j => rtAt dr (j + 1)) = rs at hrl hoks ⊢
  have ho := hok 0 (by omega)
  refine Ex.assignM (EvM.pop0 (x := "routes") (a := Rr) (ds := rs.map Rt.d) rfl (by rw [List.length_map]; omega) rfl rfl rfl rfl ?_) (.inr ⟨rfl, rfl, rfl⟩) rfl
  refine @Ex.frzO _ _ _ _ _ _ _ _ ("routes") (Rr) _ [("one", .val (rtAt dr 0).d), ("peers", .own C (.idt (peersL (sz + 1) (prAt dr)))), ("options", .val (.sd (optsL (dr 0 2 == 1)))), ("size", .val (.int sz)), ("place", .val (.int pl)), ("most", .val (.int (1 + dr 3 4)))] rfl (fun h => nomatch h) (fun l e => nomatch e) (fun e => nomatch e)
    (Sub.cons rfl (Sub.cons rfl (Sub.cons rfl (Sub.cons rfl (Sub.cons rfl (Sub.cons rfl Sub.nil)))))) rfl fun U M => ?_
  refine @Ex.frzO _ _ _ _ _ _ _ _ ("peers") (C) _ [("routes", .val (.lst (rs.map Rt.d))), ("one", .val (rtAt dr 0).d), ("options", .val (.sd (optsL (dr 0 2 == 1)))), ("size", .val (.int sz)), ("place", .val (.int pl)), ("most", .val (.int (1 + dr 3 4)))] rfl (fun h => nomatch h) (fun l e => nomatch e) (fun e => hpne (by injection e))
    (Sub.cons rfl (Sub.cons rfl (Sub.cons rfl (Sub.cons rfl (Sub.cons rfl (Sub.cons rfl Sub.nil)))))) rfl fun U M => ?_
  show Ex _ _ ⟨U, M, ("peers", .val (peersD (sz + 1) (prAt dr))) :: _⟩ _ _ _
  obtain ⟨pm, hpm, hpmz⟩ : ∃ pm : Nat, (if (sz : Int) < (pl : Int) then (sz : Int) else (pl : Int)) = (pm : Int) ∧ pm ≤ sz := by
    by_cases h : (sz : Int) < (pl : Int)
    · exact ⟨sz, by rw [if_pos h], Nat.le_refl _⟩
    · exact ⟨pl, by rw [if_neg h], by omega⟩
  refine @Ex.assign _ _ _ _ _ _ _ _ _ _ (.int pm) _ _ (Ev.eq (Ev.callB (ds := [.int pl, .int sz]) rfl (n_min _) rfl (by decide) (EvL.cons (Ev.name rfl rfl) (EvL.cons (Ev.name rfl rfl) EvL.nil rfl) rfl) FnC.min2 rfl (fun _ => rfl) rfl) (by rw [hpm])) (.inl rfl) rfl ?_
  refine @Ex.assign _ _ _ _ _ _ _ _ _ _ (.lst ((rs.take pm ++ [rtAt dr 0] ++ rs.drop pm).map Rt.d)) _ _ (Ev.eq (Ev.binop (Ev.binop (Ev.sliceTo (b := pm) (Ev.name rfl rfl) (Ev.name rfl rfl) (by rw [List.length_map]; omega) (fun _ _ => rfl) (fun _ _ => rfl)) (Ev.list (EvL.cons (Ev.name rfl rfl) EvL.nil rfl) (Nat.le_of_ble_eq_true rfl)) (BinR.addL (by simp; omega))) (Ev.sliceFrom (b := pm) (Ev.name rfl rfl) (Ev.name rfl rfl) (by rw [List.length_map]; omega) (by rw [List.length_map]; omega) (fun _ _ => rfl) (fun _ _ => rfl)) (BinR.addL (by simp; omega))) (by simp [List.map_append, List.map_take, List.map_drop])) (.inl rfl) rfl ?_
  have honr : rtAt dr 0 ∉ rs := by
    intro q
    rw [← hrs] at q
    obtain ⟨j, _, e⟩ := List.mem_map.mp q
    have := congrArg Rt.at' e
    have h' : ((j + 1 : Nat) : Int) = ((0 : Nat) : Int) := this
    omega
  have hwo : wo (rtAt dr 0) (rs.take pm ++ [rtAt dr 0] ++ rs.drop pm) = rs := by
    have e1 : wo (rtAt dr 0) (rs.take pm) = rs.take pm := wo_id fun q => honr (List.mem_of_mem_take q)
    have e2 : wo (rtAt dr 0) (rs.drop pm) = rs.drop pm := wo_id fun q => honr (List.mem_of_mem_drop q)
    have e3 : wo (rtAt dr 0) [rtAt dr 0] = [] := by simp [wo]
    unfold wo at e1 e2 e3 ⊢
    rw [List.filter_append, List.filter_append, e1, e2, e3, List.append_nil, List.take_append_drop]
  have hmol : (rs.take pm ++ [rtAt dr 0] ++ rs.drop pm).length ≤ 5 := by simp; omega
  have hmom : ∀ r ∈ rs.take pm ++ [rtAt dr 0] ++ rs.drop pm, r = rtAt dr 0 ∨ r ∈ rs := fun r hr => by
    simp only [List.mem_append, List.mem_singleton] at hr
    rcases hr with (q | q) | q
    · exact .inr (List.mem_of_mem_take q)
    · exact .inl q
    · exact .inr (List.mem_of_mem_drop q)
  generalize hmo : rs.take pm ++ [rtAt dr 0] ++ rs.drop pm = mo at hwo hmol hmom ⊢
  have hmok : ∀ r ∈ mo, r.ok (sz + 1) := fun r hr => by
    rcases hmom r hr with rfl | q
    · exact ho
    · exact hoks r q
  have hid : ∀ r ∈ mo, idOf (prAt dr) r = idOf (prAt dr) (rtAt dr 0) → r = rtAt dr 0 := fun r hr e => by
    rcases hmom r hr with q | q
    · exact q
    · exfalso
      rw [← hrs] at q
      obtain ⟨j, hj, rfl⟩ := List.mem_map.mp q
      have hj' := List.mem_range.mp hj
      have e' : (30 : Int) + (3 * ((j + 1 : Nat) : Int) + 2).fmod 5 = 30 + (3 * ((0 : Nat) : Int) + 2).fmod 5 := e
      have : j = 0 ∨ j = 1 ∨ j = 2 ∨ j = 3 := by omega
      rcases this with rfl | rfl | rfl | rfl <;> revert e' <;> decide
  have hrs5 : rs.length ≤ 4 := by omega
  generalize rtAt dr 0 = o at *
  generalize prAt dr = P at *
  generalize (dr 0 2 == 1) = am at *
  obtain ⟨most, hmost, hm1⟩ : ∃ most : Int, 1 + dr 3 4 = most ∧ 1 ≤ most := ⟨_, rfl, by omega⟩
  rw [hmost]
  refine @Ex.sub _ _ _ _ _ _ _ _ ([("more", .val (.lst (mo.map Rt.d))), ("peers", .val (peersD (sz + 1) P)), ("options", .val (.sd (optsL am))), ("most", .val (.int most)), ("routes", .val (.lst (rs.map Rt.d))), ("one", .val o.d)]) (Sub.cons rfl (Sub.cons rfl (Sub.cons rfl (Sub.cons rfl (Sub.cons rfl (Sub.cons rfl Sub.nil)))))) ?_
  refine @Ex.ifRet _ _ _ _ _ _ _ _ _ (false) _ _ (EvT.eq (EvT.orCons (EvT.not (EvT.plain (Ev.call rfl (n_law_best_right _) (k_law_best_right _) (EvL.cons (Ev.name rfl rfl) (EvL.cons (Ev.name rfl rfl) (EvL.cons (Ev.name rfl rfl) EvL.nil rfl) rfl) rfl) ((law_best_right_ok am mo (sz + 1) P hmol hmok).mono (Nat.le_of_ble_eq_true rfl)) rfl (fun _ => rfl) rfl) rfl)) fun _ => EvT.orCons (EvT.not (EvT.plain (Ev.call rfl (n_law_used_right _) (k_law_used_right _) (EvL.cons (Ev.name rfl rfl) (EvL.cons (Ev.name rfl rfl) (EvL.cons (Ev.name rfl rfl) (EvL.cons (Ev.name rfl rfl) EvL.nil rfl) rfl) rfl) rfl) ((law_used_right_ok am mo (sz + 1) P most hm1 hmol hmok).mono (Nat.le_of_ble_eq_true rfl)) rfl (fun _ => rfl) rfl) rfl)) fun _ => EvT.orNil) (by rw [best_right, used_right _ _ _ _ hm1]; rfl)) (fun h => nomatch h) fun _ => ?_
  refine @Ex.unpackS _ _ _ _ _ _ _ _ _ _ _ _ _ _ _ (["fewer", "wider"]) (fun x hx => ?_) (by decide) (EvLM.cons (EvM.of (Ev.call rfl (n_ladder _) (k_ladder _) (EvL.cons (Ev.name rfl rfl) (EvL.cons (Ev.name rfl rfl) (EvL.cons (Ev.name rfl rfl) EvL.nil rfl) rfl) rfl) ((ladder_ok am rs (sz + 1) P (by omega) hoks).mono (Nat.le_of_ble_eq_true rfl)) rfl (fun _ => rfl) rfl) (EvLM.cons (EvM.of (Ev.call rfl (n_ladder _) (k_ladder _) (EvL.cons (Ev.name rfl rfl) (EvL.cons (Ev.name rfl rfl) (EvL.cons (Ev.name rfl rfl) EvL.nil rfl) rfl) rfl) ((ladder_ok am mo (sz + 1) P (by omega) hmok).mono (Nat.le_of_ble_eq_true rfl)) rfl (fun _ => rfl) rfl) (EvLM.nil ⟨rfl, ?_⟩)) rfl)) rfl) rfl rfl
  · simp at hx; rcases hx with rfl | rfl <;> exact .inl rfl
  have hws := ladderL_short (am := am) (P := P) (rs := mo)
  have hfs := ladderL_short (am := am) (P := P) (rs := rs)
  refine @Ex.sub _ _ _ _ _ _ _ _ ([("wider", .val (.lst ((ladderL am P mo).map rungD))), ("fewer", .val (.lst ((ladderL am P rs).map rungD))), ("more", .val (.lst (mo.map Rt.d))), ("peers", .val (peersD (sz + 1) P)), ("options", .val (.sd (optsL am))), ("most", .val (.int most)), ("routes", .val (.lst (rs.map Rt.d))), ("one", .val o.d)]) (Sub.cons rfl (Sub.cons rfl (Sub.cons rfl (Sub.cons rfl (Sub.cons rfl (Sub.cons rfl (Sub.cons rfl (Sub.cons rfl Sub.nil)))))))) ?_
  refine @Ex.assignCompM _ _ _ _ _ _ _ _ _ (ladderL am P mo) _ _ _ _ _ _ _ _ _ _ _ (fun i x => .tup [.int i, rungD x]) (ix_enum _ _) [("one", .val o.d)] (fun _ x => !decide (o ∈ x.2)) (fun i _ => .int (i : Nat)) (fun i d => match d with | .tup [a, b] => [("rung", .val b), ("at", .val a)] | _ => []) (by omega) ⟨rfl, by decide, rfl, by decide, clCons rfl clNil, fun _ => rfl⟩ (freeCons (freeVar rfl rfl rfl rfl rfl) freeNil) (Src.enum rfl (n_enumerate _) rfl (by decide) (Ev.name rfl rfl) rfl rfl) (fun C i r hr => AsgL.pair rfl rfl) (fun C U' M' i x hx => ⟨Tests.one (EvT.cmp (Ev.name rfl rfl) (Ev.item (da := rungD x) (Ev.name rfl rfl) Ev.int (ItemR.tup (j := 1) (by decide) rfl rfl) fun _ _ => rfl) CmpR.notInRt rfl), fun _ => Ev.name rfl rfl⟩) (.inl rfl) rfl ?_
  rw [compM_fall]
  generalize hfall : fallC o 0 (ladderL am P mo) = fall
  refine @Ex.sub _ _ _ _ _ _ _ _ ([("fall", .val (.lst (fall.map fun i => D.int (i : Nat)))), ("wider", .val (.lst ((ladderL am P mo).map rungD))), ("fewer", .val (.lst ((ladderL am P rs).map rungD))), ("more", .val (.lst (mo.map Rt.d))), ("peers", .val (peersD (sz + 1) P)), ("options", .val (.sd (optsL am))), ("most", .val (.int most)), ("routes", .val (.lst (rs.map Rt.d))), ("one", .val o.d)]) (Sub.cons rfl (Sub.cons rfl (Sub.cons rfl (Sub.cons rfl (Sub.cons rfl (Sub.cons rfl (Sub.cons rfl (Sub.cons rfl (Sub.cons rfl Sub.nil))))))))) ?_
  obtain ⟨ra, ro, rvs, rn, hr1, hr2, hr3, hr4, hr5⟩ := rungs_rd (prog := prog) (w := w) (mg := mg) (mb := mb) [] g₀
  refine @Ex.ifRet _ _ _ _ _ _ _ _ _ (false) _ _ (EvT.eq (EvT.andCons (EvT.cmp (Ev.callB (ds := [.lst ((ladderL am P mo).map rungD)]) rfl (n_len _) rfl (by decide) (EvL.cons (Ev.name rfl rfl) EvL.nil rfl) (FnC.lenL (by rw [List.length_map]; omega)) rfl (fun _ => rfl) rfl) Ev.int CmpR.eqInt rfl) fun _ => EvT.andCons (EvT.cmp (Ev.lcM (rs := ladderL am P mo) (fun _ => rungD) (ix_map _ _) [] (fun _ _ => true) (fun _ x => D.str x.1) (fun _ d => match d with | .tup [a, b] => [("left", .val b), ("word", .val a)] | _ => []) (by omega) ⟨rfl, by decide, rfl, by decide, clNil, fun _ => rfl⟩ freeNil (Src.list (Ev.name rfl rfl)) (fun C i r hr => AsgL.pair rfl rfl) fun C U' M' i x hx => ⟨Tests.nil, fun _ => Ev.name rfl rfl⟩)
    (Ev.listGlob rfl (n_list _) rfl (by decide) rfl hr1 hr2 hr3 hr4 hr5 (by simp [wordsL]) rfl (fun _ => rfl) rfl rfl) (by rw [compM_map, show (ladderL am P mo).map (fun x => D.str x.1) = ((ladderL am P mo).map (·.1)).map D.str by rw [List.map_map]; rfl]; exact CmpR.neStrs) rfl) fun _ => EvT.andNil) ?_) (fun h => nomatch h) fun _ => ?_
  · rw [List.length_map, Bool.and_true]
    by_cases h : (ladderL am P mo).length = 11
    · rw [ladder_words h]; simp
    · have : (((ladderL am P mo).length : Int) == 11) = false := by rw [beq_eq_false_iff_ne]; omega
      rw [this]; rfl
  refine @Ex.ifRet _ _ _ _ _ _ _ _ _ (decide (fall = [])) _ _ (EvT.cmp (Ev.name rfl rfl) (Ev.list EvL.nil (Nat.le_of_ble_eq_true rfl)) (CmpR.eqNats (m := [])) rfl) (fun hb => ?_) fun hb => ?_
  · have hbest := best_one hid (hfall.trans (of_decide_eq_true hb))
    refine Ex.ret (Ev.eq (Ev.cmp (da := o.d) (Ev.eq (Ev.call rfl (n_best_of _) (k_best_of _) (EvL.cons (Ev.name rfl rfl) (EvL.cons (Ev.name rfl rfl) (EvL.cons (Ev.name rfl rfl) EvL.nil rfl) rfl) rfl) ((best_of_ok am mo (sz + 1) P (by omega) hmok).mono (Nat.le_of_ble_eq_true rfl)) rfl (fun _ => rfl) rfl) (by rw [hbest]; rfl)) (Ev.name rfl rfl) CmpR.eqRt rfl) (by simp)) rfl
  obtain ⟨k0, ft, hf⟩ : ∃ k0 ft, fall = k0 :: ft := by
    cases fall with
    | nil => simp at hb
    | cons a l => exact ⟨a, l, rfl⟩
  subst hf
  obtain ⟨_, rx, hrx, hnx⟩ := fallC_head hfall
  have hk0 : k0 < 11 := by
    have := (List.getElem?_eq_some_iff.mp hrx).1
    omega
  have hnu : usableL mo ≠ [] → o ∉ stg am P (usableL mo) k0 := fun hu => by
    have := ladder_at (k := k0) hu hrx
    rw [← this.2]; exact hnx
  have fst_ev : ∀ {f : Fm} {y : Dy} {e : Expr} {r : Rt} {k1 k2 k3 k4 k5 : Nat} {q1 q2 q3 q4 q5 p1 p2 p3 p4 p5 : Pos}, Ev (TS w mg mb prog) f y e r.d → Ev (TS w mg mb prog) f y (.Subscript (.Subscript (.Subscript (.Subscript (.Subscript e (.Constant (.int 1) k1 q1) p1) (.Constant (.str "as_path") k2 q2) p2) (.Constant (.int 0) k3 q3) p3) (.Constant (.int 1) k4 q4) p4) (.Constant (.int 0) k5 q5) p5) (.int r.fst) := fun {f y e r k1 k2 k3 k4 k5 q1 q2 q3 q4 q5 p1 p2 p3 p4 p5} h =>
    Ev.item (da := .tup r.nums) (Ev.item (da := segD r.nums) (Ev.item (da := r.path) (Ev.item (da := .sd r.attrs) (Ev.item h Ev.int (ItemR.tup (j := 1) (by decide) rfl rfl) fun _ _ => rfl) Ev.cstr (ItemR.sd rfl) fun _ _ => rfl) Ev.int ItemR.tup0 fun _ _ => rfl) Ev.int (ItemR.tup (j := 1) (by decide) rfl rfl) fun _ _ => rfl) Ev.int ItemR.tup0 fun _ _ => rfl
  refine @Ex.ifRet _ _ _ _ _ _ _ _ _ (am || decide ((k0 : Int) < 6)) _ _ (EvT.eq (EvT.orCons (EvT.plain (Ev.item (Ev.name rfl rfl) Ev.cstr (ItemR.sd (l := optsL am) (d := .bool am) rfl) fun _ _ => rfl) rfl) fun _ => EvT.orCons (EvT.cmp (da := .int (k0 : Nat)) (Ev.item (Ev.name rfl rfl) Ev.int (ItemR.lst (by decide) (by decide) rfl) fun _ _ => rfl) Ev.int CmpR.ltInt rfl) fun _ => EvT.orNil) (by rw [Bool.or_false])) (fun hc => ?_) fun hc => ?_
  · have hc' : am = true ∨ k0 < 6 := by
      rcases Bool.or_eq_true _ _ ▸ hc with q | q
      · exact .inl q
      · exact .inr (by have := of_decide_eq_true q; omega)
    have h5 : usableL mo ≠ [] → (am = true ∨ o ∉ stg am P (usableL mo) 5) := fun hu => by
      rcases hc' with q | q
      · exact .inl q
      · exact .inr fun t => hnu hu (stg_sub (by omega) t)
    have heq : without (ladderL am P mo) o = ladderL am P rs := by
      rw [← hwo]
      by_cases hu : usableL mo = []
      · exact without_none hu
      · exact without_all hu (hnu hu) (h5 hu)
    refine @Ex.ifRet _ _ _ _ _ _ _ _ _ (false) _ _ (EvT.eq (EvT.cmp (Ev.call rfl (n_law_without _) (k_law_without _) (EvL.cons (Ev.name rfl rfl) (EvL.cons (Ev.name rfl rfl) EvL.nil rfl) rfl) ((law_without_ok (ladderL am P mo) o (by omega) fun x hx => by have := (ladderL_rung hx).1; omega).mono (Nat.le_of_ble_eq_true rfl)) rfl (fun _ => rfl) rfl) (Ev.name rfl rfl) CmpR.neRungs rfl) (by rw [heq]; simp)) (fun h => nomatch h) fun _ => ?_
    refine Ex.ret (Ev.or (Ev.cmp (da := .int (k0 : Nat)) (Ev.item (Ev.name rfl rfl) Ev.int (ItemR.lst (by decide) (by decide) rfl) fun _ _ => rfl) Ev.int CmpR.gtInt rfl) fun _ => Ev.boolOne (Ev.cmp (Ev.call rfl (n_equal_ones _) (k_equal_ones _) (EvL.cons (Ev.name rfl rfl) (EvL.cons (Ev.name rfl rfl) (EvL.cons (Ev.name rfl rfl) (EvL.cons (Ev.name rfl rfl) EvL.nil rfl) rfl) rfl) rfl) ((equal_ones_ok am mo (sz + 1) P most (by omega) hmok).mono (Nat.le_of_ble_eq_true rfl)) rfl (fun _ => rfl) rfl) (Ev.call rfl (n_equal_ones _) (k_equal_ones _) (EvL.cons (Ev.name rfl rfl) (EvL.cons (Ev.name rfl rfl) (EvL.cons (Ev.name rfl rfl) (EvL.cons (Ev.name rfl rfl) EvL.nil rfl) rfl) rfl) rfl) ((equal_ones_ok am rs (sz + 1) P most (by omega) hoks).mono (Nat.le_of_ble_eq_true rfl)) rfl (fun _ => rfl) rfl) CmpR.eqRts rfl)) ?_
    congr 1
    by_cases h7 : 7 < k0
    · have : decide ((7 : Int) < ((k0 : Nat) : Int)) = true := decide_eq_true (by omega)
      rw [this]; rfl
    · have : equalL am P mo most = equalL am P rs most := by
        rw [← hwo]
        by_cases hu : usableL mo = []
        · exact equal_none hu most
        · exact equal_same hu (by omega) (hnu hu) (h5 hu) most
      rw [this]; simp
  · obtain ⟨rfl, hk6⟩ : am = false ∧ 6 ≤ k0 := by
      rw [Bool.or_eq_false_iff] at hc
      exact ⟨hc.1, by have := of_decide_eq_false hc.2; omega⟩
    have hu : usableL mo ≠ [] := fun e => by
      rw [fall_none e] at hfall
      injection hfall with q1 q2
      omega
    have hn0 := hnu hu
    have hur : usableL rs ≠ [] := hwo ▸ rest_ne hu hn0
    have h5w : (((ladderL false P mo).map rungD))[(5 : Int).toNat]? = some (rungD (("med" : Str), stg false P (usableL mo) 5)) := by rw [ladder_stg hu]; rfl
    have h5f : (((ladderL false P rs).map rungD))[(5 : Int).toNat]? = some (rungD (("med" : Str), stg false P (usableL rs) 5)) := by rw [ladder_stg hur]; rfl
    refine @Ex.ifRet _ _ _ _ _ _ _ _ _ (false) _ _ (EvT.eq (EvT.cmp (Ev.call rfl (n_law_without _) (k_law_without _) (EvL.cons (Ev.eq (Ev.sliceTo (b := 5) (Ev.name rfl rfl) Ev.int (by rw [List.length_map]; omega) (fun _ _ => rfl) (fun _ _ => rfl)) (by rw [← List.map_take])) (EvL.cons (Ev.name rfl rfl) EvL.nil rfl) rfl) ((law_without_ok ((ladderL false P mo).take 5) o (by rw [List.length_take]; omega) fun x hx => by have := (ladderL_rung (List.mem_of_mem_take hx)).1; omega).mono (Nat.le_of_ble_eq_true rfl)) rfl (fun _ => rfl) rfl) (Ev.eq (Ev.sliceTo (b := 5) (Ev.name rfl rfl) Ev.int (by rw [List.length_map]; omega) (fun _ _ => rfl) (fun _ _ => rfl)) (by rw [← List.map_take])) CmpR.neRungs rfl) (by rw [without_five hu hn0, hwo]; simp)) (fun h => nomatch h) fun _ => ?_
    refine @Ex.forM _ _ _ _ _ _ _ _ _ (rs) _ _ _ _ _ (fun _ => Rt.d) (ix_map _ _) (fun _ => [("wider", .val (.lst ((ladderL false P mo).map rungD))), ("fewer", .val (.lst ((ladderL false P rs).map rungD))), ("one", .val o.d)]) (fun _ d => [("route", .val d)]) (Src.list (Ev.name rfl rfl)) (Sub.cons rfl (Sub.cons rfl (Sub.cons rfl Sub.nil))) (fun i r hr => Asg.name (.inl rfl)) (fun U' i r hr => ?_) (fun _ => rfl) (Ex.ret Ev.cbool rfl)
    have hrm : r ∈ rs := List.mem_of_getElem? hr
    have hro : r ≠ o := fun e => honr (e ▸ hrm)
    refine Ex.last (ExS.if (EvT.cmp (Ev.cmp (Ev.name rfl rfl) (Ev.item (Ev.item (Ev.name rfl rfl) Ev.int (ItemR.lst (by decide) (by decide) h5f) fun _ _ => rfl) Ev.int (ItemR.tup (j := 1) (by decide) rfl rfl) fun _ _ => rfl) CmpR.inRt rfl) (Ev.cmp (Ev.name rfl rfl) (Ev.item (Ev.item (Ev.name rfl rfl) Ev.int (ItemR.lst (by decide) (by decide) h5w) fun _ _ => rfl) Ev.int (ItemR.tup (j := 1) (by decide) rfl rfl) fun _ _ => rfl) CmpR.inRt rfl) CmpR.neBool rfl) (fun hb => ?_) fun hb => Ex.post (Sub.cons rfl (Sub.cons rfl (Sub.cons rfl Sub.nil))))
    obtain ⟨m1, m2, m3⟩ := med_loop (P := P) (mo := mo) (o := o) (r := r) hu hn0 hro (by rw [hwo]; intro e; rw [e] at hb; simp at hb)
    refine Ex.assign (Ev.cmp (fst_ev (Ev.name rfl rfl)) (fst_ev (Ev.name rfl rfl)) CmpR.eqInt rfl) (.inl rfl) rfl ?_
    refine Ex.last (@ExS.if _ _ _ _ _ _ (false) _ _ _ (EvT.eq (EvT.orCons (EvT.cmp (Ev.name rfl rfl) (Ev.item (Ev.item (Ev.name rfl rfl) Ev.int (ItemR.lst (by decide) (by decide) h5w) fun _ _ => rfl) Ev.int (ItemR.tup (j := 1) (by decide) rfl rfl) fun _ _ => rfl) CmpR.inRt rfl) fun _ => EvT.orCons (EvT.not (EvT.plain (Ev.name rfl rfl) rfl)) fun _ => EvT.orCons (EvT.cmp (Ev.item (da := .sd r.attrs) (Ev.item (Ev.name rfl rfl) Ev.int (ItemR.tup (j := 1) (by decide) rfl rfl) fun _ _ => rfl) Ev.cstr (ItemR.sd rfl) fun _ _ => rfl) (Ev.item (da := .sd o.attrs) (Ev.item (Ev.name rfl rfl) Ev.int (ItemR.tup (j := 1) (by decide) rfl rfl) fun _ _ => rfl) Ev.cstr (ItemR.sd rfl) fun _ _ => rfl) CmpR.leInt rfl) fun _ => EvT.orNil) ?_) (fun h => nomatch h) fun _ => Ex.post (Sub.cons rfl (Sub.cons rfl (Sub.cons rfl Sub.nil))))
    have hle : ¬ r.med ≤ o.med := by omega
    simp [m1, m2, hle]
end
end Mine

end

section
namespace Mine
open PySem PySem.W PySem.Calls PyProof.Rows

theorem ints_rd {S : S0} {U : List Addr} {h : Heap} : ∀ {vs : List Value} {ns : List Int}, IntsAre vs ns → RdA S U h vs (ns.map D.int)
  | _, _, .nil => .nil
  | _, _, .cons n t r => .cons (.int n t) (ints_rd r)
theorem law_cells (p : Params) (L : Addr) : cellsFrom (L + 1) (lawScope p).names [] = [(("one" : Str), L + 1)] := law_open (P := fun _ sc => cellsFrom (L + 1) sc.names [] = [(("one" : Str), L + 1)]) p rfl rfl
theorem law_kind (p : Params) : (lawScope p).kind = .function := law_open (P := fun _ sc => sc.kind = .function) p rfl rfl
theorem law_script (p : Params) : (lawScope p).names.lookup ("script" : Str) = some NameKind.local := law_open (P := fun _ sc => sc.names.lookup ("script" : Str) = some NameKind.local) p rfl rfl
theorem law_join {prog pp : Program} {w : World} {s₁ : Shared} {mg mb m : Str → Option Value} {loose : List Str} {mean : ExcName → Option Value} {a fa : Addr} {cd : Value} {vs : List Value} {scr : List Int} {h₁ : Heap} {tk : Nat} {oc : Obj} {v0 : Option Value} {Q : Flow → Shared → Prop} {E : Value → Shared → Prop} {env' : Env}
    (KX : (KL w.params).In s₁.heap) (T : Top pp loose mean mg mb s₁.heap) (W1 : Well w.params s₁.heap (.ref a) (ofPy (PyData.list (scr.map PyData.int)))) (hL : s₁.heap.IsList a vs.toArray) (hI : IntsAre vs scr) (h63 : ¬ ((63 : Nat) : Int) < (scr.length : Int))
    (F : Fr s₁.heap s₁.heap.objs.size h₁ m) (hm : m "script" = some (.ref a)) (N : News s₁.heap s₁.heap.objs.size h₁ [(s₁.heap.objs.size + 1, oc)]) (hoc : oc.data = .cell v0) (hg : s₁.gens = #[])
    (hQ : ∀ (m : Str → Option Value) (s' : Shared), Fr s₁.heap s₁.heap.objs.size s'.heap m → s'.gens = #[] → s'.os = s₁.os → Q (.ret (.bool true)) s') :
    wpAny (model prog w) (callerA.deeper env') (execs (lawBody w.params) (envF (lawScope w.params) "law" cd s₁.heap.objs.size fa)) Q E { heap := h₁, gens := s₁.gens, drawn := s₁.drawn, toks := tk, os := s₁.os } := by
  have top : (TS w mg mb prog).Ok s₁.heap := ⟨KX, T.g, T.b, T.nolimit, T.builtins⟩
  have h63' : scr.length ≤ 63 := by omega
  obtain ⟨hcg, hcne, hc0⟩ := N _ List.mem_cons_self
  have hcell : h₁.IsCell (s₁.heap.objs.size + 1) v0 := ⟨oc, hcg, hoc⟩
  have kp : Keep s₁.heap h₁ := F.keep
  have hsl : ∃ o, h₁.get? s₁.heap.objs.size = some o := by obtain ⟨o, _, _, ho, _⟩ := F.ns; exact ⟨o, ho⟩
  have hdn : ∃ o, s₁.heap.get? a = some o ∧ o.cls = .type "list" ∧ o.dict = none ∧ ∃ n, o.data = .seq vs.toArray n := by
    obtain ⟨o, ho, hc, n, hd⟩ := hL
    refine ⟨o, ho, hc, ?_, n, hd⟩
    unfold ofPy at W1
    cases W1 with
    | list g _ => rw [ho] at g; cases g; rfl
  obtain ⟨o, ho, hc, hdn, n, hdd⟩ := hdn
  have alt : a < s₁.heap.objs.size := Heap.lt_size ho
  have hrd : Rd (TS w mg mb prog) [s₁.heap.objs.size, s₁.heap.objs.size + 1] h₁ (.ref a) (.lst (scr.map D.int)) := by
    refine .lst (fun q => ?_) (kp _ _ ho) ⟨hc, hdn⟩ hdd (by simpa using ints_rd hI)
    simp only [List.mem_cons, List.not_mem_nil, or_false] at q
    rcases q with q | q
    · exact absurd alt (by rw [q]; exact Nat.lt_irrefl _)
    · exact absurd alt (by rw [q]; exact Nat.not_lt.mpr (Nat.le_succ _))
  have ok : Ok (TS w mg mb prog) { env := envF (lawScope w.params) "law" cd s₁.heap.objs.size fa, g₀ := s₁.heap, U₀ := [], k := 7 } ⟨[s₁.heap.objs.size, s₁.heap.objs.size + 1], [s₁.heap.objs.size, s₁.heap.objs.size + 1], [("script", .val (.lst (scr.map D.int)))]⟩ h₁ := by
    have hcs : (envF (lawScope w.params) "law" cd s₁.heap.objs.size fa).cells = [(("one" : Str), s₁.heap.objs.size + 1)] := law_cells w.params s₁.heap.objs.size
    refine { top0 := top, keep := kp, live := fun b hb => ?_, mU := fun b hb => hb, mNew := fun b hb => ?_, uSub := (fun b hb => nomatch hb), kind := law_kind w.params, glob := rfl, blt := rfl, locM := List.mem_cons_self, ns := ⟨m, F.ns⟩, cells := fun z c e => ?_, cellsApart := fun z z' c e e' => ?_, vars := fun z l e => ?_, apart := fun x x' b d d' e _ => ?_ }
    · simp only [List.mem_cons, List.not_mem_nil, or_false] at hb
      rcases hb with rfl | rfl
      · exact hsl
      · exact ⟨_, hcg⟩
    · simp only [List.mem_cons, List.not_mem_nil, or_false] at hb
      rcases hb with rfl | rfl
      · exact Nat.le_refl _
      · exact Nat.le_succ _
    · rw [hcs] at e
      by_cases hz : z = "one"
      · subst hz; rw [lookup_cons_eq] at e; cases e; exact ⟨by simp, _, hcell⟩
      · rw [lookup_cons_ne hz] at e; simp at e
    · rw [hcs] at e e'
      by_cases hz : z = "one"
      · by_cases hz' : z' = "one"
        · rw [hz, hz']
        · rw [lookup_cons_ne hz'] at e'; simp at e'
      · rw [lookup_cons_ne hz] at e; simp at e
    · by_cases hz : z = "script"
      · subst hz
        rw [lookup_cons_eq] at e
        cases e
        exact ⟨.ref a, .inl ⟨law_script w.params, m, F.ns, hm⟩, hrd⟩
      · rw [lookup_cons_ne hz] at e; simp at e
    · by_cases hz : x = "script"
      · subst hz; rw [lookup_cons_eq] at e; cases e
      · rw [lookup_cons_ne hz] at e; simp at e
  refine law_ex (prog := prog) (w := w) (mg := mg) (mb := mb) scr h63' cd s₁.heap.objs.size fa s₁.heap _ _ _ { heap := h₁, gens := s₁.gens, drawn := s₁.drawn, toks := tk, os := s₁.os } Q E ⟨rfl, (by show 1 + claimMargin + 1 + 7 < recursionLimit; decide), (by show 4 + 3 + 8 * 7 + 200 < cLine; decide)⟩ ok (fun y' h' tk' n _ _ => n.elim) fun v d y' h' tk' hd' km rd okr => ?_
  subst hd'
  cases rd
  obtain ⟨m', hm'⟩ := okr.ns
  exact hQ m' _ ⟨hm', okr.keep, Nat.le_refl _⟩ hg rfl
end Mine

end

open PySem PySem.W PyProof.Rows Mine
set_option maxRecDepth 100000 in
set_option maxHeartbeats 8000000 in
theorem PySem.Challenge.cw_tg0027_01_holds : PySem.Challenge.rw_tg0027_01.Holds := by
  have hh := @Mine.hd
  rw [Mine.hook_eq] at hh
  refine hh ?_
  w_strict k_go0
  refine law_join (by assumption) (by assumption) (by assumption) (by assumption) (by assumption) (by assumption) (by assumption) rfl (by assumption) (by assumption) (by assumption) ?_
  intro m' s' F' hg' hos
  show GoodW _ _ _ _ _ (.ok (.ret (.bool _))) _
  refine goodW_bool F' hg' (raisesW_false ?_) ?_ hos
  · wrow_none_raised
  · wrow_post
