import PyProof.Rows.All
import PyProof.EqLayable
import Wide.All
import OpenK.AllK
import Wide.FinOn
import HandS.ForMost
import HandS.Exc
import KE.GoesComp
import HandS.More
import HandS.TryOnly
import HandS.ExcOwn
import HandS.WordsExc
import HandS.TupAny
import HandS.DictComp
import HandS.Zip
import HandS.WordsList
import HandS.WordsDict
import HandS.Wide
import PyProof.DictUpdate
import HandS.CallRecv
import PySem.Challenge.RW_proofhouse_k63_whole_lets_stand_for_all
set_option Elab.async false
set_option linter.all false
set_option maxRecDepth 100000
set_option maxHeartbeats 16000000
/-! The mirror: what the typer computes, over plain data. none: out of what is told (fuel, form); some none: NoFormula -/
namespace M63
open PySem
abbrev D := PyData
abbrev Kn := List (Int × D)
abbrev Sc := List (Str × D)
section
variable {κ : Type} [DecidableEq κ]
def lk (kn : List (κ × D)) (i : κ) : Option D := (kn.find? fun e => decide (e.1 = i)).map (·.2)
def pk (kn : List (κ × D)) (i : κ) (d : D) : List (κ × D) :=
  if (kn.any fun e => decide (e.1 = i)) = true then kn.map (fun e => if e.1 = i then (e.1, d) else e) else kn ++ [(i, d)]
end
def mapO {α β : Type} (f : α → Option β) : List α → Option (List β)
  | [] => some []
  | a :: r => match f a with
    | none => none
    | some b => match mapO f r with
      | none => none
      | some s => some (b :: s)
/-- of few items -/
def mapL {α β : Type} (f : α → Option β) (l : List α) : Option (List β) := if l.length ≤ 2 then mapO f l else none
/-- the depth of the helpers' calls -/
abbrev R : Nat := 100
abbrev isV (w : Str) : Bool := decide (w = "var")
def res : Nat → Kn → D → Option D
  | n + 1, kn, .tuple (.str w :: ps) =>
    if isV w then
      match ps with
      | .int i :: _ => match lk kn i with
        | some k => res n kn k
        | none => some (.tuple (.str w :: ps))
      | _ => none
    else (mapL (res n kn) ps).map fun qs => .tuple (.str w :: qs)
  | _, _, _ => none
def has : Nat → D → Int → Option Bool
  | n + 1, .tuple (.str w :: ps), j =>
    if isV w then
      match ps with
      | .int i :: _ => some (decide (i = j))
      | _ => none
    else (mapL (fun p => has n p j) ps).map fun bs => bs.any id
  | _, _, _ => none
def put : Nat → Kn → D → Option D
  | n + 1, nm, .tuple (.str w :: ps) =>
    if isV w then
      match ps with
      | .int i :: _ => some ((lk nm i).getD (.tuple (.str w :: ps)))
      | _ => none
    else (mapL (put n nm) ps).map fun qs => .tuple (.str w :: qs)
  | _, _, _ => none
def varsAll (f : D → Option (List Int)) : List D → List Int → Option (List Int)
  | [], found => some found
  | p :: r, found => match f p with
    | none => none
    | some vs => varsAll f r (found ++ vs.filter fun v => !decide (v ∈ found))
def vars : Nat → D → Option (List Int)
  | n + 1, .tuple (.str w :: ps) =>
    if isV w then
      match ps with
      | .int i :: _ => some [i]
      | _ => none
    else if ps.length ≤ 8 then (match varsAll (vars n) ps [] with
      | some r => if r.length ≤ 1000 then some r else none
      | none => none)
    else none
  | _, _ => none
def eqs (f : Kn → D → D → Option (Option Kn)) : Kn → List (D × D) → Option (Option Kn)
  | kn, [] => some (some kn)
  | kn, (p, q) :: r => match f kn p q with
    | none => none
    | some none => some none
    | some (some kn') => eqs f kn' r
def bindV (kn : Kn) (i : Int) (b : D) : Option (Option Kn) := match has R b i with
  | none => none
  | some true => some none
  | some false => some (some (pk kn i b))
def eq2 (f : Kn → D → D → Option (Option Kn)) (kn : Kn) (a b : D) : Option (Option Kn) :=
  if SeqAt.shaped a && SeqAt.shaped b then
    if PyData.eqv a b then some (some kn)
    else match a, b with
      | .tuple (.str w :: ps), .tuple (.str v :: qs) =>
        if isV w then match ps with
          | .int i :: _ => bindV kn i b
          | _ => none
        else if isV v then match qs with
          | .int j :: _ => bindV kn j a
          | _ => none
        else if w = v then (if ps.length = qs.length ∧ ps.length ≤ 2 then eqs f kn (ps.zip qs) else none) else some none
      | _, _ => none
  else none
def eq : Nat → Kn → D → D → Option (Option Kn)
  | 0, _, _, _ => none
  | n + 1, kn, a, b => match res R kn a, res R kn b with
    | some a', some b' => eq2 (eq n) kn a' b'
    | _, _ => none
abbrev kv (i : Int) : D := .tuple [.str "var", .int i]
abbrev kInt : D := .tuple [.str "Int"]
abbrev kBool : D := .tuple [.str "Bool"]
abbrev kArr (a b : D) : D := .tuple [.str "arrow", a, b]
abbrev kPair (a b : D) : D := .tuple [.str "pair", a, b]
/-- the intsOf of a list of names -/
def intsOf : List D → Option (List Int) := mapO fun d => match d with
  | .int i => some i
  | _ => none
def fresh (m : Int) : List Int → Kn → Kn
  | [], nm => nm
  | i :: r, nm => fresh (m + 1) r (pk nm i (kv m))
def scheme (ns : List Int) (k : D) : D := .tuple [.list (ns.map .int), k]
def opn (m : Int) : D → Option (D × Int)
  | .tuple [.list ns, k] => match intsOf ns with
    | none => none
    | some is => (put R (fresh m is []) k).map fun k' => (k', m + is.length)
  | _ => none
/-- the variables that the types of a scope hold -/
def taken (kn : Kn) : Sc → List Int → Option (List Int)
  | [], t => some t
  | (_, .tuple [.list ns, own]) :: r, t => match intsOf ns, res R kn own with
    | some is, some o => match vars R o with
      | some vs => taken kn r (t ++ vs.filter fun v => !decide (v ∈ is))
      | none => none
    | _, _ => none
  | _ :: _, _ => none
def cls (kn : Kn) (k : D) (sc : Sc) : Option D := match taken kn sc [], res R kn k with
  | some t, some k' => (vars R k').map fun vs => scheme (vs.filter fun v => !decide (v ∈ t)) k'
  | _, _ => none
def shape (w : Str) : Option Nat :=
  if w = "name" then some 2 else if w = "number" then some 2 else if w = "truth" then some 2 else if w = "fun" then some 3 else if w = "call" then some 3
  else if w = "let" then some 4 else if w = "if" then some 4 else if w = "pair" then some 3 else if w = "fix" then some 3 else none
abbrev Out := Option (Option (D × Kn × Int))
/-- the types of the parts -/
def infs (f : D → Kn → Int → Out) : List D → Kn → Int → Option (Option (List D × Kn × Int))
  | [], kn, m => some (some ([], kn, m))
  | p :: r, kn, m => match f p kn m with
    | none => none
    | some none => some none
    | some (some (k, kn', m')) => match infs f r kn' m' with
      | none => none
      | some none => some none
      | some (some (ks, kn2, m2)) => some (some (k :: ks, kn2, m2))
abbrev E : Nat := 12
def join (w : Str) (ks : List D) (kn : Kn) (m : Int) : Out :=
  match ks with
  | [a, b] =>
    if w = "call" then match eq E kn a (kArr b (kv m)) with
      | none => none
      | some none => some none
      | some (some kn') => some (some (kv m, kn', m + 1))
    else if w = "pair" then some (some (kPair a b, kn, m))
    else none
  | [a, b, c] =>
    if w = "if" then match eq E kn a kBool with
      | none => none
      | some none => some none
      | some (some kn1) => match eq E kn1 b c with
        | none => none
        | some none => some none
        | some (some kn2) => some (some (b, kn2, m))
    else none
  | _ => none
def inf : Nat → D → Sc → Int → Kn → Int → Out
  | n + 1, .tuple (.str w :: ps), sc, left, kn, m =>
    if left = 0 then none
    else if shape w = some (ps.length + 1) then
      if w = "name" then match ps with
        | [.str x] => match lk sc x with
          | none => none
          | some s => match opn m s with
            | none => none
            | some (k, m') => some (some (k, kn, m'))
        | _ => none
      else if w = "number" then some (some (kInt, kn, m))
      else if w = "truth" then some (some (kBool, kn, m))
      else if w = "fun" then match ps with
        | [.str x, b] => match inf n b (pk sc x (scheme [] (kv m))) (left - 1) kn (m + 1) with
          | none => none
          | some none => some none
          | some (some (k, kn', m')) => some (some (kArr (kv m) k, kn', m'))
        | _ => none
      else if w = "fix" then none
      else if w = "let" then match ps with
        | [.str x, v, b] => match inf n v sc (left - 1) kn m with
          | none => none
          | some none => some none
          | some (some (k, kn', m')) => match cls kn' k sc with
            | none => none
            | some s => inf n b (pk sc x s) (left - 1) kn' m'
        | _ => none
      else match infs (fun p kn m => inf n p sc (left - 1) kn m) ps kn m with
        | none => none
        | some none => some none
        | some (some (ks, kn', m')) => join w ks kn' m'
    else none
  | _, _, _, _, _, _ => none
def aInt2 (r : D) : D := kArr kInt (kArr kInt r)
def scope0 : Sc :=
  [("add", scheme [] (aInt2 kInt)), ("less", scheme [] (aInt2 kBool)), ("not", scheme [] (kArr kBool kBool)),
   ("fst", scheme [0, 1] (kArr (kPair (kv 0) (kv 1)) (kv 0))), ("snd", scheme [0, 1] (kArr (kPair (kv 0) (kv 1)) (kv 1)))]
/-- numbers for variables, from a number on -/
def numb (m : Int) : List Int → Kn → Kn := fresh m
def renum (k : D) : Option D := match vars R k with
  | none => none
  | some vs => put R (numb 0 vs []) k
abbrev N : Nat := 40
def prin (p : D) : Option (Option D) := match inf N p scope0 60 [] 2 with
  | none => none
  | some none => some none
  | some (some (k, kn, _)) => match res R kn k with
    | none => none
    | some r => (renum r).map some
/-! ### programs -/
abbrev pName (x : Str) : D := .tuple [.str "name", .str x]
abbrev pNum (i : Int) : D := .tuple [.str "number", .int i]
abbrev pTrue (b : Bool) : D := .tuple [.str "truth", .bool b]
abbrev pFun (x : Str) (b : D) : D := .tuple [.str "fun", .str x, b]
abbrev pCall (f a : D) : D := .tuple [.str "call", f, a]
abbrev pLet (x : Str) (v b : D) : D := .tuple [.str "let", .str x, v, b]
abbrev pIf (t y n : D) : D := .tuple [.str "if", t, y, n]
abbrev pPair (a b : D) : D := .tuple [.str "pair", a, b]
def step (h : Int) (p : D) : D :=
  if h = 0 then pCall (pFun "a" (pName "a")) p
  else if h = 1 then pCall (pCall (pFun "c" (pFun "d" (pName "d"))) (pNum 1)) p
  else if h = 2 then pCall (pName "fst") (pPair p (pTrue true))
  else if h = 3 then pCall (pName "snd") (pPair (pNum 3) p)
  else if h = 4 then pLet "q" (pNum 2) p
  else pIf (pTrue true) p (pFun "e" (pName "e"))
def wrap (p : D) (hs : List Int) : D := hs.foldl (fun p h => step h p) p
def idw : D := pFun "w" (pName "w")
def both : D := pPair (pCall (pName "h") (pNum 1)) (pCall (pName "h") (pTrue true))
end M63
/-! The plain law: what the typer says of wrapped functions -/
namespace M63
open PySem
/-! ### tables -/
section
variable {κ : Type} [DecidableEq κ]
theorem lk_nil {i : κ} : lk ([] : List (κ × D)) i = none := rfl
theorem lk_cons {e : κ × D} {r : List (κ × D)} {i : κ} : lk (e :: r) i = if e.1 = i then some e.2 else lk r i := by
  unfold lk
  rw [List.find?_cons]
  by_cases h : e.1 = i
  · simp [h]
  · simp [h]
theorem lk_snoc {r : List (κ × D)} {i j : κ} {d : D} (h : lk r i = none) : lk (r ++ [(i, d)]) j = if j = i then some d else lk r j := by
  induction r with
  | nil =>
    rw [List.nil_append, lk_cons]
    by_cases e : j = i
    · subst e; simp
    · rw [if_neg e, if_neg (fun q => e q.symm)]
  | cons a r ih =>
    rw [lk_cons] at h
    rw [List.cons_append, lk_cons, lk_cons]
    by_cases ha : a.1 = i
    · rw [if_pos ha] at h; cases h
    · rw [if_neg ha] at h
      rw [ih h]
      by_cases e : j = i
      · subst e; rw [if_neg ha]; simp
      · rw [if_neg e, if_neg e]
theorem lk_mapk {r : List (κ × D)} {i j : κ} {d : D} : lk (r.map fun e => if e.1 = i then (e.1, d) else e) j = (lk r j).map fun x => if j = i then d else x := by
  induction r with
  | nil => rfl
  | cons a r ih =>
    rw [List.map_cons, lk_cons, lk_cons, ih]
    by_cases ha : a.1 = i
    · rw [if_pos ha]
      by_cases hj : a.1 = j
      · rw [if_pos hj, if_pos hj]; simp [← hj, ha]
      · rw [if_neg hj, if_neg hj]
    · rw [if_neg ha]
      by_cases hj : a.1 = j
      · rw [if_pos hj, if_pos hj]; simp [← hj, ha]
      · rw [if_neg hj, if_neg hj]
theorem any_lk {r : List (κ × D)} {i : κ} : (r.any fun e => decide (e.1 = i)) = (lk r i).isSome := by
  induction r with
  | nil => rfl
  | cons a r ih =>
    rw [List.any_cons, lk_cons, ih]
    by_cases ha : a.1 = i
    · simp [ha]
    · simp [ha]
theorem lk_pk (r : List (κ × D)) (i j : κ) (d : D) : lk (pk r i d) j = if j = i then some d else lk r j := by
  unfold pk
  rw [any_lk]
  cases h : lk r i with
  | none => exact lk_snoc h
  | some x =>
    simp only [Option.isSome_some, if_true]
    rw [lk_mapk]
    by_cases e : j = i
    · subst e; simp [h]
    · simp [e]
theorem pk_mem {r : List (κ × D)} {i : κ} {d : D} {e : κ × D} (h : e ∈ pk r i d) : e ∈ r ∨ e = (i, d) := by
  unfold pk at h
  split at h
  · obtain ⟨a, ha, q⟩ := List.mem_map.mp h
    by_cases z : a.1 = i
    · rw [if_pos z] at q
      right; rw [← q, z]
    · rw [if_neg z] at q
      left; rw [← q]; exact ha
  · rcases List.mem_append.mp h with q | q
    · exact .inl q
    · exact .inr (List.mem_singleton.mp q)
end
/-! ### words -/
theorem v1 : isV "var" = true := by decide +kernel
theorem v2 : isV "arrow" = false := by decide +kernel
theorem v3 : isV "pair" = false := by decide +kernel
theorem v4 : isV "Int" = false := by decide +kernel
theorem v5 : isV "Bool" = false := by decide +kernel
/-! ### res -/
section
variable {n : Nat} {kn : Kn} {a b a' b' k r : D} {i : Int}
theorem res_v : res (n + 1) kn (kv i) = (match lk kn i with | some k => res n kn k | none => some (kv i)) := by
  show (if isV "var" then _ else _) = _
  rw [v1, if_pos rfl]
  all_goals rfl
theorem res_none (h : lk kn i = none) : res (n + 1) kn (kv i) = some (kv i) := by rw [res_v, h]
theorem res_some (h : lk kn i = some k) : res (n + 1) kn (kv i) = res n kn k := by rw [res_v, h]
theorem res_arr (h : res n kn a = some a') (g : res n kn b = some b') : res (n + 1) kn (kArr a b) = some (kArr a' b') := by
  show (if isV "arrow" then _ else _) = _
  rw [v2, if_neg (by decide)]
  simp [mapL, mapO, h, g]
theorem res_pair (h : res n kn a = some a') (g : res n kn b = some b') : res (n + 1) kn (kPair a b) = some (kPair a' b') := by
  show (if isV "pair" then _ else _) = _
  rw [v3, if_neg (by decide)]
  simp [mapL, mapO, h, g]
theorem res_int : res (n + 1) kn kInt = some kInt := by
  show (if isV "Int" then _ else _) = _
  rw [v4, if_neg (by decide)]
  simp [mapL, mapO]
theorem res_bool : res (n + 1) kn kBool = some kBool := by
  show (if isV "Bool" then _ else _) = _
  rw [v5, if_neg (by decide)]
  simp [mapL, mapO]
end
theorem mapO_mono {α β : Type} {f g : α → Option β} (h : ∀ a b, f a = some b → g a = some b) : ∀ {l : List α} {s : List β}, mapO f l = some s → mapO g l = some s
  | [], s, e => e
  | a :: r, s, e => by
    unfold mapO at e ⊢
    cases ha : f a with
    | none => rw [ha] at e; cases e
    | some b =>
      rw [ha] at e
      rw [h a b ha]
      cases hr : mapO f r with
      | none => rw [hr] at e; cases e
      | some t =>
        rw [hr] at e
        rw [mapO_mono h hr]
        exact e
theorem mapL_mono {α β : Type} {f g : α → Option β} (h : ∀ a b, f a = some b → g a = some b) {l : List α} {s : List β} (e : mapL f l = some s) : mapL g l = some s := by
  unfold mapL at e ⊢
  split at e
  · rw [if_pos (by assumption)]; exact mapO_mono h e
  · cases e
theorem res_succ : ∀ {n : Nat} {kn : Kn} {k r : D}, res n kn k = some r → res (n + 1) kn k = some r
  | 0, _, _, _, h => by cases h
  | n + 1, kn, .tuple (.str w :: ps), r, h => by
    unfold res at h ⊢
    cases hv : isV w with
    | true =>
      rw [hv] at h
      simp only [if_true] at h ⊢
      cases ps with
      | nil => cases h
      | cons p q =>
        cases p with
        | int i =>
          simp only at h ⊢
          cases hl : lk kn i with
          | none => rw [hl] at h; exact h
          | some k =>
            rw [hl] at h
            exact res_succ h
        | _ => cases h
    | false =>
      rw [hv] at h
      simp only [Bool.false_eq_true, if_false] at h ⊢
      cases hm : mapL (res n kn) ps with
      | none => rw [hm] at h; cases h
      | some qs =>
        rw [hm] at h
        rw [mapL_mono (fun a b => res_succ) hm]
        exact h
  | n + 1, _, .none, _, h => by cases h
  | n + 1, _, .bool _, _, h => by cases h
  | n + 1, _, .int _, _, h => by cases h
  | n + 1, _, .str _, _, h => by cases h
  | n + 1, _, .list _, _, h => by cases h
  | n + 1, _, .dict _, _, h => by cases h
  | n + 1, _, .tuple [], _, h => by cases h
  | n + 1, _, .tuple (.none :: _), _, h => by cases h
  | n + 1, _, .tuple (.bool _ :: _), _, h => by cases h
  | n + 1, _, .tuple (.int _ :: _), _, h => by cases h
  | n + 1, _, .tuple (.list _ :: _), _, h => by cases h
  | n + 1, _, .tuple (.tuple _ :: _), _, h => by cases h
  | n + 1, _, .tuple (.dict _ :: _), _, h => by cases h
theorem res_le {n m : Nat} {kn : Kn} {k r : D} (h : res n kn k = some r) (l : n ≤ m) : res m kn k = some r := by
  induction l with
  | refl => exact h
  | step _ ih => exact res_succ ih
theorem res_R {n : Nat} {kn : Kn} {k r : D} (h : res n kn k = some r) (l : n ≤ 100) : res R kn k = some r := res_le h l
/-! ### has, vars, put -/
section
variable {n : Nat} {a b : D} {i j : Int} {x y : Bool} {nm : Kn} {a' b' : D} {vs us : List Int}
theorem has_v : has (n + 1) (kv i) j = some (decide (i = j)) := by
  show (if isV "var" then _ else _) = _
  rw [v1, if_pos rfl]
theorem has_arr (h : has n a j = some x) (g : has n b j = some y) : has (n + 1) (kArr a b) j = some (x || y) := by
  show (if isV "arrow" then _ else _) = _
  rw [v2, if_neg (by decide)]
  simp [mapL, mapO, h, g]
theorem has_pair (h : has n a j = some x) (g : has n b j = some y) : has (n + 1) (kPair a b) j = some (x || y) := by
  show (if isV "pair" then _ else _) = _
  rw [v3, if_neg (by decide)]
  simp [mapL, mapO, h, g]
theorem has_int : has (n + 1) kInt j = some false := by
  show (if isV "Int" then _ else _) = _
  rw [v4, if_neg (by decide)]
  simp [mapL, mapO]
theorem has_bool : has (n + 1) kBool j = some false := by
  show (if isV "Bool" then _ else _) = _
  rw [v5, if_neg (by decide)]
  simp [mapL, mapO]
theorem put_v : put (n + 1) nm (kv i) = some ((lk nm i).getD (kv i)) := by
  show (if isV "var" then _ else _) = _
  rw [v1, if_pos rfl]
theorem put_arr (h : put n nm a = some a') (g : put n nm b = some b') : put (n + 1) nm (kArr a b) = some (kArr a' b') := by
  show (if isV "arrow" then _ else _) = _
  rw [v2, if_neg (by decide)]
  simp [mapL, mapO, h, g]
theorem put_pair (h : put n nm a = some a') (g : put n nm b = some b') : put (n + 1) nm (kPair a b) = some (kPair a' b') := by
  show (if isV "pair" then _ else _) = _
  rw [v3, if_neg (by decide)]
  simp [mapL, mapO, h, g]
theorem put_int : put (n + 1) nm kInt = some kInt := by
  show (if isV "Int" then _ else _) = _
  rw [v4, if_neg (by decide)]
  simp [mapL, mapO]
theorem put_bool : put (n + 1) nm kBool = some kBool := by
  show (if isV "Bool" then _ else _) = _
  rw [v5, if_neg (by decide)]
  simp [mapL, mapO]
theorem vars_v : vars (n + 1) (kv i) = some [i] := by
  show (if isV "var" then _ else _) = _
  rw [v1, if_pos rfl]
theorem vars_arr (h : vars n a = some vs) (g : vars n b = some us) (hl : vs.length + us.length ≤ 1000 := by simp) : vars (n + 1) (kArr a b) = some (vs ++ us.filter fun v => !decide (v ∈ vs)) := by
  show (if isV "arrow" then _ else _) = _
  rw [v2, if_neg (by decide)]
  have hl2 : (vs ++ us.filter fun v => !decide (v ∈ vs)).length ≤ 1000 := by
    have := List.length_filter_le (fun v => !decide (v ∈ vs)) us
    rw [List.length_append]
    omega
  have e : varsAll (vars n) [a, b] [] = some (vs ++ us.filter fun v => !decide (v ∈ vs)) := by simp [varsAll, h, g]
  rw [if_pos (by simp), e]
  exact if_pos hl2
theorem vars_pair (h : vars n a = some vs) (g : vars n b = some us) (hl : vs.length + us.length ≤ 1000 := by simp) : vars (n + 1) (kPair a b) = some (vs ++ us.filter fun v => !decide (v ∈ vs)) := by
  show (if isV "pair" then _ else _) = _
  rw [v3, if_neg (by decide)]
  have hl2 : (vs ++ us.filter fun v => !decide (v ∈ vs)).length ≤ 1000 := by
    have := List.length_filter_le (fun v => !decide (v ∈ vs)) us
    rw [List.length_append]
    omega
  have e : varsAll (vars n) [a, b] [] = some (vs ++ us.filter fun v => !decide (v ∈ vs)) := by simp [varsAll, h, g]
  rw [if_pos (by simp), e]
  exact if_pos hl2
theorem vars_int : vars (n + 1) kInt = some [] := by
  show (if isV "Int" then _ else _) = _
  rw [v4, if_neg (by decide)]
  simp [varsAll]
theorem vars_bool : vars (n + 1) kBool = some [] := by
  show (if isV "Bool" then _ else _) = _
  rw [v5, if_neg (by decide)]
  simp [varsAll]
end
/-! ### eqv -/
section
variable {a b c d : D} {i j : Int}
theorem ev_vv : PyData.eqv (kv i) (kv j) = decide (i = j) := by
  simp [PyData.eqv, PyData.eqvAll]
  by_cases h : i = j <;> simp [h]
theorem ev_va {w : Str} {r : List D} (h : isV w = false) : PyData.eqv (kv i) (.tuple (.str w :: r)) = false := by
  have h' : ("var" : Str) ≠ w := fun e => by rw [← e, v1] at h; cases h
  simp [PyData.eqv, PyData.eqvAll, h']
theorem ev_av {w : Str} {r : List D} (h : isV w = false) : PyData.eqv (.tuple (.str w :: r)) (kv i) = false := by
  have h' : ¬ w = ("var" : Str) := fun e => by rw [e, v1] at h; cases h
  simp [PyData.eqv, PyData.eqvAll, h']
theorem ev_aa : PyData.eqv (kArr a b) (kArr c d) = (PyData.eqv a c && PyData.eqv b d) := by
  simp [PyData.eqv, PyData.eqvAll]
theorem ev_pp : PyData.eqv (kPair a b) (kPair c d) = (PyData.eqv a c && PyData.eqv b d) := by
  simp [PyData.eqv, PyData.eqvAll]
theorem ev_ii : PyData.eqv kInt kInt = true := by decide +kernel
theorem ev_bb : PyData.eqv kBool kBool = true := by decide +kernel
theorem ev_ib : PyData.eqv kInt kBool = false := by decide +kernel
theorem ev_ap : PyData.eqv (kArr a b) (kPair c d) = false := by
  have h : ¬ ("arrow" : Str) = "pair" := by decide +kernel
  simp [PyData.eqv, PyData.eqvAll, h]
end
/-! ### forms that may be compared -/
theorem ok1 : PyData.strOk "var" = true := by decide +kernel
theorem ok2 : PyData.strOk "arrow" = true := by decide +kernel
theorem ok3 : PyData.strOk "pair" = true := by decide +kernel
theorem ok4 : PyData.strOk "Int" = true := by decide +kernel
theorem ok5 : PyData.strOk "Bool" = true := by decide +kernel
def Sd (n : Nat) (d : D) : Prop := d.canLay0 = true ∧ d.depth ≤ n
theorem Sd.ok {n : Nat} {d : D} (h : Sd n d) (l : n ≤ 64) : SeqAt.shaped d = true := by
  unfold SeqAt.shaped
  rw [h.1, decide_eq_true (Nat.le_trans h.2 l)]
  rfl
section
variable {n : Nat} {a b : D} {i : Int}
theorem sd_v : Sd (n + 1) (kv i) := by
  constructor
  · simp [PyData.canLay0, PyData.canLayAll0, ok1]
  · simp [PyData.depth, PyData.depthAll]
theorem sd_int : Sd (n + 1) kInt := by
  constructor
  · simp [PyData.canLay0, PyData.canLayAll0, ok4]
  · simp [PyData.depth, PyData.depthAll]
theorem sd_bool : Sd (n + 1) kBool := by
  constructor
  · simp [PyData.canLay0, PyData.canLayAll0, ok5]
  · simp [PyData.depth, PyData.depthAll]
theorem sd_arr (ha : Sd n a) (hb : Sd n b) : Sd (n + 1) (kArr a b) := by
  obtain ⟨h1, h2⟩ := ha
  obtain ⟨h3, h4⟩ := hb
  constructor
  · simp [PyData.canLay0, PyData.canLayAll0, ok2, h1, h3]
  · simp only [PyData.depth, PyData.depthAll]; omega
theorem sd_pair (ha : Sd n a) (hb : Sd n b) : Sd (n + 1) (kPair a b) := by
  obtain ⟨h1, h2⟩ := ha
  obtain ⟨h3, h4⟩ := hb
  constructor
  · simp [PyData.canLay0, PyData.canLayAll0, ok3, h1, h3]
  · simp only [PyData.depth, PyData.depthAll]; omega
end
theorem shv {i : Int} : SeqAt.shaped (kv i) = true := (sd_v (n := 0)).ok (by decide)
theorem shi : SeqAt.shaped kInt = true := (sd_int (n := 0)).ok (by decide)
theorem shb : SeqAt.shaped kBool = true := (sd_bool (n := 0)).ok (by decide)
/-! ### eq -/
section
variable {n : Nat} {kn kn1 kn2 : Kn} {a b a' b' c d : D} {i j : Int}
theorem eq_same (ha : res R kn a = some a') (hb : res R kn b = some b') (s1 : SeqAt.shaped a' = true) (s2 : SeqAt.shaped b' = true) (h : PyData.eqv a' b' = true) : eq (n + 1) kn a b = some (some kn) := by
  unfold eq
  rw [ha, hb]
  show eq2 _ _ _ _ = _
  unfold eq2
  rw [s1, s2, h]
  rfl
theorem eq_left (ha : res R kn a = some (kv i)) (hb : res R kn b = some b') (s2 : SeqAt.shaped b' = true) (h : PyData.eqv (kv i) b' = false) (hw : ∃ w r, b' = .tuple (.str w :: r)) (hn : has R b' i = some false) : eq (n + 1) kn a b = some (some (pk kn i b')) := by
  obtain ⟨w, r, rfl⟩ := hw
  unfold eq
  rw [ha, hb]
  show eq2 _ _ _ _ = _
  unfold eq2
  rw [shv (i := i), s2, h]
  simp only [Bool.and_self, if_true, Bool.false_eq_true, if_false]
  rw [v1]
  simp only [if_true, bindV]
  rw [hn]
theorem eq_right {w : Str} {r : List D} (hv : isV w = false) (ha : res R kn a = some (.tuple (.str w :: r))) (hb : res R kn b = some (kv j)) (s1 : SeqAt.shaped (.tuple (.str w :: r)) = true) (hn : has R (.tuple (.str w :: r)) j = some false) : eq (n + 1) kn a b = some (some (pk kn j (.tuple (.str w :: r)))) := by
  unfold eq
  rw [ha, hb]
  show eq2 _ _ _ _ = _
  unfold eq2
  rw [shv (i := j), s1, ev_av hv]
  simp only [Bool.and_self, if_true, Bool.false_eq_true, if_false]
  rw [hv, v1]
  simp only [if_true, Bool.false_eq_true, if_false, bindV]
  rw [hn]
theorem eq_arr {f g A B A' B' : D} (ha : res R kn f = some (kArr A B)) (hb : res R kn g = some (kArr A' B')) (s1 : SeqAt.shaped (kArr A B) = true) (s2 : SeqAt.shaped (kArr A' B') = true) (h : PyData.eqv (kArr A B) (kArr A' B') = false)
    (e1 : eq n kn A A' = some (some kn1)) (e2 : eq n kn1 B B' = some (some kn2)) : eq (n + 1) kn f g = some (some kn2) := by
  unfold eq
  rw [ha, hb]
  show eq2 _ _ _ _ = _
  unfold eq2
  rw [s1, s2, h]
  simp only [Bool.and_self, if_true, Bool.false_eq_true, if_false]
  rw [v2]
  simp [eqs, e1, e2]
theorem eq_arr_bad {f g A B A' B' : D} (ha : res R kn f = some (kArr A B)) (hb : res R kn g = some (kArr A' B')) (s1 : SeqAt.shaped (kArr A B) = true) (s2 : SeqAt.shaped (kArr A' B') = true) (h : PyData.eqv (kArr A B) (kArr A' B') = false)
    (e1 : eq n kn A A' = some none) : eq (n + 1) kn f g = some none := by
  unfold eq
  rw [ha, hb]
  show eq2 _ _ _ _ = _
  unfold eq2
  rw [s1, s2, h]
  simp only [Bool.and_self, if_true, Bool.false_eq_true, if_false]
  rw [v2]
  simp [eqs, e1]
theorem eq_pair {f g A B A' B' : D} (ha : res R kn f = some (kPair A B)) (hb : res R kn g = some (kPair A' B')) (s1 : SeqAt.shaped (kPair A B) = true) (s2 : SeqAt.shaped (kPair A' B') = true) (h : PyData.eqv (kPair A B) (kPair A' B') = false)
    (e1 : eq n kn A A' = some (some kn1)) (e2 : eq n kn1 B B' = some (some kn2)) : eq (n + 1) kn f g = some (some kn2) := by
  unfold eq
  rw [ha, hb]
  show eq2 _ _ _ _ = _
  unfold eq2
  rw [s1, s2, h]
  simp only [Bool.and_self, if_true, Bool.false_eq_true, if_false]
  rw [v3]
  simp [eqs, e1, e2]
theorem eq_clash {f g : D} (ha : res R kn f = some kInt) (hb : res R kn g = some kBool) : eq (n + 1) kn f g = some none := by
  unfold eq
  rw [ha, hb]
  show eq2 _ _ _ _ = _
  unfold eq2
  rw [shi, shb, ev_ib]
  simp only [Bool.and_self, if_true, Bool.false_eq_true, if_false]
  rw [v4, v5]
  have h : ¬ ("Int" : Str) = "Bool" := by decide +kernel
  simp [h]
end
/-! ### inf -/
theorem sh1 : shape "name" = some 2 := by decide +kernel
theorem sh2 : shape "number" = some 2 := by decide +kernel
theorem sh3 : shape "truth" = some 2 := by decide +kernel
theorem sh4 : shape "fun" = some 3 := by decide +kernel
theorem sh5 : shape "call" = some 3 := by decide +kernel
theorem sh6 : shape "let" = some 4 := by decide +kernel
theorem sh7 : shape "if" = some 4 := by decide +kernel
theorem sh8 : shape "pair" = some 3 := by decide +kernel
section
variable {n : Nat} {sc : Sc} {left : Int} {kn kn1 kn2 kn3 kn4 : Kn} {m m1 m2 m3 : Int} {a b c k1 k2 k3 s : D} {x : Str} {i : Int} {t : Bool}
theorem inf_name (hl : left ≠ 0) (h : lk sc x = some s) (ho : opn m s = some (k1, m1)) : inf (n + 1) (pName x) sc left kn m = some (some (k1, kn, m1)) := by
  unfold inf
  rw [if_neg hl, if_pos (by exact sh1)]
  simp [h, ho]
theorem inf_num (hl : left ≠ 0) : inf (n + 1) (pNum i) sc left kn m = some (some (kInt, kn, m)) := by
  unfold inf
  rw [if_neg hl, if_pos (by exact sh2), if_neg (by decide +kernel), if_pos rfl]
theorem inf_truth (hl : left ≠ 0) : inf (n + 1) (pTrue t) sc left kn m = some (some (kBool, kn, m)) := by
  unfold inf
  rw [if_neg hl, if_pos (by exact sh3), if_neg (by decide +kernel), if_neg (by decide +kernel), if_pos rfl]
theorem inf_fun (hl : left ≠ 0) (h : inf n b (pk sc x (scheme [] (kv m))) (left - 1) kn (m + 1) = some (some (k1, kn1, m1))) : inf (n + 1) (pFun x b) sc left kn m = some (some (kArr (kv m) k1, kn1, m1)) := by
  unfold inf
  rw [if_neg hl, if_pos (by exact sh4), if_neg (by decide +kernel), if_neg (by decide +kernel), if_neg (by decide +kernel), if_pos rfl]
  simp [h]
theorem inf_fun_bad (hl : left ≠ 0) (h : inf n b (pk sc x (scheme [] (kv m))) (left - 1) kn (m + 1) = some none) : inf (n + 1) (pFun x b) sc left kn m = some none := by
  unfold inf
  rw [if_neg hl, if_pos (by exact sh4), if_neg (by decide +kernel), if_neg (by decide +kernel), if_neg (by decide +kernel), if_pos rfl]
  simp [h]
theorem inf_let (hl : left ≠ 0) (h : inf n a sc (left - 1) kn m = some (some (k1, kn1, m1))) (hc : cls kn1 k1 sc = some s) : inf (n + 1) (pLet x a b) sc left kn m = inf n b (pk sc x s) (left - 1) kn1 m1 := by
  generalize hr : inf n b (pk sc x s) (left - 1) kn1 m1 = r
  unfold inf
  rw [if_neg hl, if_pos (by exact sh6), if_neg (by decide +kernel), if_neg (by decide +kernel), if_neg (by decide +kernel), if_neg (by decide +kernel), if_neg (by decide +kernel), if_pos rfl]
  simp [h, hc, hr]
theorem inf_call (hl : left ≠ 0) (h1 : inf n a sc (left - 1) kn m = some (some (k1, kn1, m1))) (h2 : inf n b sc (left - 1) kn1 m1 = some (some (k2, kn2, m2))) (he : eq E kn2 k1 (kArr k2 (kv m2)) = some (some kn3)) :
    inf (n + 1) (pCall a b) sc left kn m = some (some (kv m2, kn3, m2 + 1)) := by
  unfold inf
  rw [if_neg hl, if_pos (by exact sh5), if_neg (by decide +kernel), if_neg (by decide +kernel), if_neg (by decide +kernel), if_neg (by decide +kernel), if_neg (by decide +kernel), if_neg (by decide +kernel)]
  simp [infs, h1, h2, join, he]
theorem inf_call_bad (hl : left ≠ 0) (h1 : inf n a sc (left - 1) kn m = some (some (k1, kn1, m1))) (h2 : inf n b sc (left - 1) kn1 m1 = some (some (k2, kn2, m2))) (he : eq E kn2 k1 (kArr k2 (kv m2)) = some none) :
    inf (n + 1) (pCall a b) sc left kn m = some none := by
  unfold inf
  rw [if_neg hl, if_pos (by exact sh5), if_neg (by decide +kernel), if_neg (by decide +kernel), if_neg (by decide +kernel), if_neg (by decide +kernel), if_neg (by decide +kernel), if_neg (by decide +kernel)]
  simp [infs, h1, h2, join, he]
theorem inf_call_bad1 (hl : left ≠ 0) (h1 : inf n a sc (left - 1) kn m = some none) : inf (n + 1) (pCall a b) sc left kn m = some none := by
  unfold inf
  rw [if_neg hl, if_pos (by exact sh5), if_neg (by decide +kernel), if_neg (by decide +kernel), if_neg (by decide +kernel), if_neg (by decide +kernel), if_neg (by decide +kernel), if_neg (by decide +kernel)]
  simp [infs, h1]
theorem inf_pair (hl : left ≠ 0) (h1 : inf n a sc (left - 1) kn m = some (some (k1, kn1, m1))) (h2 : inf n b sc (left - 1) kn1 m1 = some (some (k2, kn2, m2))) : inf (n + 1) (pPair a b) sc left kn m = some (some (kPair k1 k2, kn2, m2)) := by
  unfold inf
  have z : ¬ ("pair" : Str) = "call" := by decide +kernel
  rw [if_neg hl, if_pos (by exact sh8), if_neg (by decide +kernel), if_neg (by decide +kernel), if_neg (by decide +kernel), if_neg (by decide +kernel), if_neg (by decide +kernel), if_neg (by decide +kernel)]
  simp [infs, h1, h2, join, z]
theorem inf_pair_bad (hl : left ≠ 0) (h1 : inf n a sc (left - 1) kn m = some (some (k1, kn1, m1))) (h2 : inf n b sc (left - 1) kn1 m1 = some none) : inf (n + 1) (pPair a b) sc left kn m = some none := by
  unfold inf
  rw [if_neg hl, if_pos (by exact sh8), if_neg (by decide +kernel), if_neg (by decide +kernel), if_neg (by decide +kernel), if_neg (by decide +kernel), if_neg (by decide +kernel), if_neg (by decide +kernel)]
  simp [infs, h1, h2]
theorem inf_if (hl : left ≠ 0) (h1 : inf n a sc (left - 1) kn m = some (some (k1, kn1, m1))) (h2 : inf n b sc (left - 1) kn1 m1 = some (some (k2, kn2, m2))) (h3 : inf n c sc (left - 1) kn2 m2 = some (some (k3, kn3, m3)))
    (e1 : eq E kn3 k1 kBool = some (some kn3)) (e2 : eq E kn3 k2 k3 = some (some kn4)) : inf (n + 1) (pIf a b c) sc left kn m = some (some (k2, kn4, m3)) := by
  unfold inf
  rw [if_neg hl, if_pos (by exact sh7), if_neg (by decide +kernel), if_neg (by decide +kernel), if_neg (by decide +kernel), if_neg (by decide +kernel), if_neg (by decide +kernel), if_neg (by decide +kernel)]
  simp [infs, h1, h2, h3, join, e1, e2]
end
/-! ### binding a variable to a variable -/
theorem mapO_two {f g h : D → Option D} (k : ∀ a b c, f a = some b → g b = some c → h a = some c) : ∀ {l s u : List D}, mapO f l = some s → mapO g s = some u → mapO h l = some u
  | [], s, u, e1, e2 => by
    cases e1
    exact e2
  | a :: r, s, u, e1, e2 => by
    unfold mapO at e1
    cases ha : f a with
    | none => rw [ha] at e1; cases e1
    | some b =>
      rw [ha] at e1
      cases hr : mapO f r with
      | none => rw [hr] at e1; cases e1
      | some s' =>
        rw [hr] at e1
        cases e1
        unfold mapO at e2
        cases hb : g b with
        | none => rw [hb] at e2; cases e2
        | some c =>
          rw [hb] at e2
          cases hs : mapO g s' with
          | none => rw [hs] at e2; cases e2
          | some u' =>
            rw [hs] at e2
            cases e2
            unfold mapO
            rw [k a b c ha hb, mapO_two k hr hs]
theorem mapO_len {f : D → Option D} : ∀ {l s : List D}, mapO f l = some s → s.length = l.length
  | [], s, e => by cases e; rfl
  | a :: r, s, e => by
    unfold mapO at e
    cases ha : f a with
    | none => rw [ha] at e; cases e
    | some b =>
      rw [ha] at e
      cases hr : mapO f r with
      | none => rw [hr] at e; cases e
      | some t =>
        rw [hr] at e
        cases e
        exact congrArg (· + 1) (mapO_len hr)
theorem mapL_two {f g h : D → Option D} (k : ∀ a b c, f a = some b → g b = some c → h a = some c) {l s u : List D} (e1 : mapL f l = some s) (e2 : mapL g s = some u) : mapL h l = some u := by
  unfold mapL at e1 e2 ⊢
  split at e1
  · split at e2
    · rw [if_pos (by assumption)]; exact mapO_two k e1 e2
    · cases e2
  · cases e1
theorem res_bind {kn : Kn} {w e : Int} (h1 : lk kn w = none) (h2 : lk kn e = none) (hne : e ≠ w) : ∀ {n N : Nat} {k r r' : D}, res n kn k = some r → put N [(w, kv e)] r = some r' → res (n + 1) (pk kn w (kv e)) k = some r'
  | 0, _, _, _, _, h, _ => by cases h
  | n + 1, N, .tuple (.str x :: ps), r, r', h, hp => by
    unfold res at h
    cases hv : isV x with
    | true =>
      have ex : x = "var" := of_decide_eq_true hv
      subst ex
      rw [hv] at h
      simp only [if_true] at h
      cases ps with
      | nil => cases h
      | cons p q =>
        cases p with
        | int i =>
          simp only at h
          cases hl : lk kn i with
          | none =>
            rw [hl] at h
            cases h
            cases N with
            | zero => cases hp
            | succ N =>
              unfold put at hp
              rw [hv] at hp
              simp only [if_true] at hp
              unfold res
              rw [hv]
              simp only [if_true]
              rw [lk_pk]
              by_cases hi : i = w
              · subst hi
                rw [if_pos rfl]
                rw [lk_cons, if_pos rfl] at hp
                simp only [Option.getD_some] at hp
                cases hp
                exact res_none (by rw [lk_pk, if_neg hne]; exact h2)
              · rw [if_neg hi, hl]
                rw [lk_cons, if_neg (fun q => hi q.symm), lk_nil] at hp
                exact hp
          | some k =>
            rw [hl] at h
            have z := res_bind h1 h2 hne h hp
            unfold res
            rw [hv]
            simp only [if_true]
            have hi : ¬ i = w := fun q => by rw [q, h1] at hl; cases hl
            rw [lk_pk, if_neg hi, hl]
            exact z
        | _ => cases h
    | false =>
      rw [hv] at h
      simp only [Bool.false_eq_true, if_false] at h
      cases hm : mapL (res n kn) ps with
      | none => rw [hm] at h; cases h
      | some qs =>
        rw [hm] at h
        cases h
        cases N with
        | zero => cases hp
        | succ N =>
          unfold put at hp
          rw [hv] at hp
          simp only [Bool.false_eq_true, if_false] at hp
          cases hq : mapL (put N [(w, kv e)]) qs with
          | none => rw [hq] at hp; cases hp
          | some us =>
            rw [hq] at hp
            cases hp
            unfold res
            rw [hv]
            simp only [Bool.false_eq_true, if_false]
            rw [mapL_two (fun a b c ha hb => res_bind h1 h2 hne ha hb) hm hq]
            rfl
  | n + 1, _, .none, _, _, h, _ => by cases h
  | n + 1, _, .bool _, _, _, h, _ => by cases h
  | n + 1, _, .int _, _, _, h, _ => by cases h
  | n + 1, _, .str _, _, _, h, _ => by cases h
  | n + 1, _, .list _, _, _, h, _ => by cases h
  | n + 1, _, .dict _, _, _, h, _ => by cases h
  | n + 1, _, .tuple [], _, _, h, _ => by cases h
  | n + 1, _, .tuple (.none :: _), _, _, h, _ => by cases h
  | n + 1, _, .tuple (.bool _ :: _), _, _, h, _ => by cases h
  | n + 1, _, .tuple (.int _ :: _), _, _, h, _ => by cases h
  | n + 1, _, .tuple (.list _ :: _), _, _, h, _ => by cases h
  | n + 1, _, .tuple (.tuple _ :: _), _, _, h, _ => by cases h
  | n + 1, _, .tuple (.dict _ :: _), _, _, h, _ => by cases h
/-! ### scopes -/
theorem intsOf_map : ∀ ns : List Int, intsOf (ns.map .int) = some ns
  | [] => rfl
  | i :: r => by
    show mapO _ _ = _
    rw [List.map_cons]
    unfold mapO
    have h := intsOf_map r
    unfold intsOf at h
    rw [h]
def Ag (m : Int) (kn kn' : Kn) : Prop := ∀ i, i < m → lk kn' i = lk kn i
def Fr (m : Int) (kn : Kn) : Prop := ∀ i, m ≤ i → lk kn i = none
theorem Ag.refl {m : Int} {kn : Kn} : Ag m kn kn := fun _ _ => rfl
theorem Ag.trans {m : Int} {a b c : Kn} (x : Ag m a b) (y : Ag m b c) : Ag m a c := fun i h => (y i h).trans (x i h)
theorem Ag.le {m m' : Int} {a b : Kn} (x : Ag m' a b) (h : m ≤ m') : Ag m a b := fun i hi => x i (by omega)
theorem Ag.pk {m : Int} {a : Kn} {i : Int} {d : D} (h : m ≤ i) : Ag m a (M63.pk a i d) := fun j hj => by rw [lk_pk, if_neg (by omega)]
theorem Fr.pk {m : Int} {a : Kn} {i : Int} {d : D} (x : Fr m a) (h : i < m) : Fr m (M63.pk a i d) := fun j hj => by rw [lk_pk, if_neg (by omega)]; exact x j hj
theorem Fr.le {m m' : Int} {a : Kn} (x : Fr m a) (h : m ≤ m') : Fr m' a := fun i hi => x i (by omega)
def Ent (kn : Kn) (s : D) : Prop := ∃ ns own r vs, s = scheme ns own ∧ res R kn own = some r ∧ vars R r = some vs
def ScOk (m : Int) (kn : Kn) (sc : Sc) : Prop := ∀ kn', Ag m kn kn' → ∀ e ∈ sc, Ent kn' e.2
theorem ScOk.le {m m' : Int} {kn kn' : Kn} {sc : Sc} (h : ScOk m kn sc) (a : Ag m kn kn') (l : m ≤ m') : ScOk m' kn' sc := fun k2 a2 => h k2 (a.trans (a2.le l))
theorem ScOk.add {m : Int} {kn : Kn} {sc : Sc} {x : Str} {s : D} (h : ScOk m kn sc) (hs : ∀ kn', Ag m kn kn' → Ent kn' s) : ScOk m kn (M63.pk sc x s) := fun k2 a2 e he => by
  rcases pk_mem he with q | q
  · exact h k2 a2 e q
  · rw [q]; exact hs k2 a2
theorem taken_some {kn : Kn} : ∀ {sc : Sc} {t : List Int}, (∀ e ∈ sc, Ent kn e.2) → ∃ t', taken kn sc t = some t'
  | [], t, _ => ⟨t, rfl⟩
  | (x, s) :: r, t, h => by
    obtain ⟨ns, own, o, vs, e, h1, h2⟩ := h (x, s) List.mem_cons_self
    have e : s = scheme ns own := e
    subst e
    obtain ⟨t', h'⟩ := taken_some (t := t ++ vs.filter fun v => !decide (v ∈ ns)) fun e he => h e (List.mem_cons_of_mem _ he)
    refine ⟨t', ?_⟩
    show (match intsOf (ns.map .int), res R kn own with
      | some is, some o => match vars R o with
        | some vs => taken kn r (t ++ vs.filter fun v => !decide (v ∈ is))
        | none => none
      | _, _ => none) = _
    rw [intsOf_map, h1]
    simp only [h2]
    exact h'
def fstS : D := scheme [0, 1] (kArr (kPair (kv 0) (kv 1)) (kv 0))
def sndS : D := scheme [0, 1] (kArr (kPair (kv 0) (kv 1)) (kv 1))
structure Bs (sc : Sc) : Prop where
  f : lk sc "fst" = some fstS
  s : lk sc "snd" = some sndS
theorem Bs.pk {sc : Sc} {x : Str} {d : D} (b : Bs sc) (h1 : ¬ ("fst" : Str) = x) (h2 : ¬ ("snd" : Str) = x) : Bs (M63.pk sc x d) :=
  ⟨by rw [lk_pk, if_neg h1]; exact b.f, by rw [lk_pk, if_neg h2]; exact b.s⟩
theorem opn_mono {m i : Int} : opn m (scheme [] (kv i)) = some (kv i, m) := by
  show (match intsOf (([] : List Int).map .int) with
    | none => none
    | some is => (put R (fresh m is []) (kv i)).map fun k' => (k', m + is.length)) = _
  rw [intsOf_map]
  show (put (99 + 1) [] (kv i)).map _ = _
  rw [put_v, lk_nil]
  simp
theorem opn_two {m : Int} {s t u : D} (hp : put R (pk (pk [] 0 (kv m)) 1 (kv (m + 1))) s = some u) : opn m (scheme [0, 1] s) = some (u, m + 2) := by
  show (match intsOf (([0, 1] : List Int).map .int) with
    | none => none
    | some is => (put R (fresh m is []) s).map fun k' => (k', m + is.length)) = _
  rw [intsOf_map]
  show (put R (pk (pk [] 0 (kv m)) 1 (kv (m + 1))) s).map _ = _
  rw [hp]
  rfl
theorem opn_fst {m : Int} : opn m fstS = some (kArr (kPair (kv m) (kv (m + 1))) (kv m), m + 2) := by
  refine opn_two (t := kv m) (put_arr (put_pair ?_ ?_) ?_)
  · rw [put_v, lk_pk, if_neg (by decide), lk_pk, if_pos rfl]; rfl
  · rw [put_v, lk_pk, if_pos rfl]; rfl
  · rw [put_v, lk_pk, if_neg (by decide), lk_pk, if_pos rfl]; rfl
theorem opn_snd {m : Int} : opn m sndS = some (kArr (kPair (kv m) (kv (m + 1))) (kv (m + 1)), m + 2) := by
  refine opn_two (t := kv m) (put_arr (put_pair ?_ ?_) ?_)
  · rw [put_v, lk_pk, if_neg (by decide), lk_pk, if_pos rfl]; rfl
  · rw [put_v, lk_pk, if_pos rfl]; rfl
  · rw [put_v, lk_pk, if_pos rfl]; rfl
/-! ### wrapped functions -/
def wrapR : List Int → D
  | [] => idw
  | h :: r => step h (wrapR r)
structure Rz (m : Int) (kn : Kn) (B : Nat) (k : D) (kn' : Kn) (m' w : Int) : Prop where
  le : m ≤ w
  lt : w < m'
  ag : Ag m kn kn'
  fr : Fr m' kn'
  un : lk kn' w = none
  rs : res B kn' k = some (kArr (kv w) (kv w))
section
variable {kn : Kn} {w i j : Int}
theorem raa (h : lk kn w = none) : res R kn (kArr (kv w) (kv w)) = some (kArr (kv w) (kv w)) := res_arr (n := 99) (res_none h) (res_none h)
theorem rv (h : lk kn w = none) : res R kn (kv w) = some (kv w) := res_none (n := 99) h
theorem rva (h : lk kn i = some (kArr (kv w) (kv w))) (h2 : lk kn w = none) : res R kn (kv i) = some (kArr (kv w) (kv w)) :=
  (res_some (n := 99) h).trans (res_arr (n := 98) (res_none h2) (res_none h2))
theorem saa : SeqAt.shaped (kArr (kv w) (kv w)) = true := (sd_arr (n := 1) sd_v sd_v).ok (by decide)
theorem haa (h : w ≠ j) : has R (kArr (kv w) (kv w)) j = some false := by
  rw [has_arr (n := 99) (has_v (n := 98)) (has_v (n := 98)), decide_eq_false h]; rfl
theorem waa : ∃ (x : Str) (r : List D), kArr (kv w) (kv w) = .tuple (.str x :: r) := ⟨_, _, rfl⟩
/-- y := w -> w -/
theorem eq_y {n : Nat} {y : Int} (hy : lk kn y = none) (hw : lk kn w = none) (h : w ≠ y) : eq (n + 1) kn (kv y) (kArr (kv w) (kv w)) = some (some (pk kn y (kArr (kv w) (kv w)))) :=
  eq_left (rv hy) (raa hw) saa (ev_va v2) waa (haa h)
/-- what is w -> w goes to u -/
theorem eq_u {n : Nat} {y u : Int} (hy : lk kn y = some (kArr (kv w) (kv w))) (hw : lk kn w = none) (hu : lk kn u = none) (h : w ≠ u) : eq (n + 1) kn (kv y) (kv u) = some (some (pk kn u (kArr (kv w) (kv w)))) :=
  eq_right v2 (rva hy hw) (rv hu) saa (haa h)
end
/-- a call of what takes y to y, of a function from w to w -/
theorem eq_id {n : Nat} {kn : Kn} {f k : D} {y w u : Int} (hf : res R kn f = some (kArr (kv y) (kv y))) (hk : res 99 kn k = some (kArr (kv w) (kv w))) (hy : lk kn y = none) (hw : lk kn w = none) (hu : lk kn u = none)
    (n1 : w ≠ y) (n2 : u ≠ y) (n3 : w ≠ u) : eq (n + 2) kn f (kArr k (kv u)) = some (some (pk (pk kn y (kArr (kv w) (kv w))) u (kArr (kv w) (kv w)))) := by
  refine eq_arr (n := n + 1) hf (res_arr (n := 99) hk (res_none hu)) saa ((sd_arr (n := 2) (sd_arr sd_v sd_v) sd_v).ok (by decide)) (by rw [ev_aa, ev_va v2]; rfl) (eq_y hy hw n1) (eq_u ?_ ?_ ?_ n3)
  · rw [lk_pk, if_pos rfl]
  · rw [lk_pk, if_neg n1]; exact hw
  · rw [lk_pk, if_neg n2]; exact hu
/-- fun x (name x) -/
theorem inf_idf {n : Nat} {x : Str} {sc : Sc} {left : Int} {kn : Kn} {m : Int} (h1 : left ≠ 0) (h2 : left - 1 ≠ 0) : inf (n + 2) (pFun x (pName x)) sc left kn m = some (some (kArr (kv m) (kv m), kn, m + 1)) :=
  inf_fun h1 (inf_name h2 (by rw [lk_pk, if_pos rfl]) opn_mono)
theorem wrap_inf : ∀ (hs : List Int) {sc : Sc} {n : Nat} {left : Int} {kn : Kn} {m : Int}, hs.length ≤ 50 → Bs sc → ScOk m kn sc → Fr m kn → 2 * hs.length + 3 ≤ n → (2 * hs.length + 3 : Int) ≤ left →
    ∃ k kn' m' w, inf n (wrapR hs) sc left kn m = some (some (k, kn', m')) ∧ Rz m kn (hs.length + 4) k kn' m' w
  | [], sc, n, left, kn, m, _, _, _, hf, hn, hl => by
    obtain ⟨n, rfl⟩ : ∃ q, n = q + 2 := ⟨n - 2, by simp at hn; omega⟩
    simp only [List.length_nil] at hl
    refine ⟨_, _, _, m, inf_idf (by omega) (by omega), Int.le_refl _, by omega, Ag.refl, hf.le (by omega), hf m (Int.le_refl _), ?_⟩
    exact res_arr (n := 3) (res_none (hf m (Int.le_refl _))) (res_none (hf m (Int.le_refl _)))
  | h :: r, sc, n, left, kn, m, h50, hb, hsc, hf, hn, hl => by
    rw [List.length_cons] at h50 hn hl
    obtain ⟨n, rfl⟩ : ∃ q, n = q + 2 := ⟨n - 2, by omega⟩
    have l0 : left ≠ 0 := by omega
    have l1 : left - 1 ≠ 0 := by omega
    have l2 : left - 1 - 1 ≠ 0 := by omega
    have l3 : left - 1 - 1 - 1 ≠ 0 := by omega
    have ih := fun {sc n left kn m} => wrap_inf r (sc := sc) (n := n) (left := left) (kn := kn) (m := m) (by omega)
    show ∃ k kn' m' w, inf (n + 2) (step h (wrapR r)) sc left kn m = some (some (k, kn', m')) ∧ Rz m kn (r.length + 1 + 4) k kn' m' w
    unfold step
    by_cases c0 : h = 0
    · rw [if_pos c0]
      obtain ⟨k, kn2, m2, w, e, z⟩ := ih (sc := sc) (n := n + 1) (left := left - 1) (kn := kn) (m := m + 1) hb (hsc.le Ag.refl (by omega)) (hf.le (by omega)) (by omega) (by omega)
      have zl := z.le
      have zt := z.lt
      have um : lk kn2 m = none := (z.ag m (by omega)).trans (hf m (Int.le_refl _))
      have uu : lk kn2 m2 = none := z.fr m2 (Int.le_refl _)
      obtain ⟨n0, rfl⟩ : ∃ q, n = q + 1 := ⟨n - 1, by omega⟩
      refine ⟨_, _, _, w, inf_call l0 (inf_idf l1 l2) e (eq_id (n := 10) (raa um) (res_le z.rs (by omega)) um z.un uu (by omega) (by omega) (by omega)), ?_⟩
      refine ⟨by omega, by omega, (z.ag.le (by omega)).trans ((Ag.pk (by omega)).trans (Ag.pk (by omega))), (Fr.pk (Fr.pk (z.fr.le (by omega)) (by omega)) (by omega)), ?_, ?_⟩
      · rw [lk_pk, if_neg (by omega), lk_pk, if_neg (by omega)]; exact z.un
      · refine res_le (n := 4) ((res_some (n := 3) (k := kArr (kv w) (kv w)) (by rw [lk_pk, if_pos rfl])).trans (res_arr (n := 2) (res_none ?_) (res_none ?_))) (by omega)
        all_goals rw [lk_pk, if_neg (by omega), lk_pk, if_neg (by omega)]; exact z.un
    rw [if_neg c0]
    by_cases c1 : h = 1
    · rw [if_pos c1]
      -- the function that takes one and gives the function that returns what it takes
      have fm : ∀ i, m ≤ i → lk kn i = none := hf
      have e1 : inf (n + 1) (pCall (pFun "c" (pFun "d" (pName "d"))) (pNum 1)) sc (left - 1) kn m = some (some (kv (m + 2), pk (pk kn m kInt) (m + 2) (kArr (kv (m + 1)) (kv (m + 1))), m + 3)) := by
        obtain ⟨n0, rfl⟩ : ∃ q, n = q + 3 := ⟨n - 3, by omega⟩
        have f1 : inf (n0 + 3) (pFun "c" (pFun "d" (pName "d"))) sc (left - 1 - 1) kn m = some (some (kArr (kv m) (kArr (kv (m + 1)) (kv (m + 1))), kn, m + 1 + 1)) := inf_fun l2 (inf_idf l3 (by omega))
        have q : eq E kn (kArr (kv m) (kArr (kv (m + 1)) (kv (m + 1)))) (kArr kInt (kv (m + 1 + 1))) = some (some (pk (pk kn m kInt) (m + 1 + 1) (kArr (kv (m + 1)) (kv (m + 1))))) := by
          refine eq_arr (n := 11) (res_arr (n := 99) (res_none (fm m (by omega))) (res_arr (n := 98) (res_none (fm _ (by omega))) (res_none (fm _ (by omega))))) (res_arr (n := 99) res_int (res_none (fm _ (by omega)))) ((sd_arr (n := 2) sd_v (sd_arr sd_v sd_v)).ok (by decide)) ((sd_arr (n := 1) sd_int sd_v).ok (by decide)) (by rw [ev_aa, ev_va v4]; rfl)
            (eq_left (rv (fm m (by omega))) (res_int (n := 99)) shi (ev_va v4) ⟨_, _, rfl⟩ (has_int (n := 99))) (eq_right v2 (raa ?_) (rv ?_) saa (haa (by omega)))
          · rw [lk_pk, if_neg (by omega)]; exact fm _ (by omega)
          · rw [lk_pk, if_neg (by omega)]; exact fm _ (by omega)
        have z := inf_call (n := n0 + 3) l1 f1 (inf_num (i := 1) l2) q
        have a1 : m + 1 + 1 = m + 2 := by omega
        have a2 : m + 2 + 1 = m + 3 := by omega
        rw [a1, a2] at z
        exact z
      have a2 : Ag m kn (pk (pk kn m kInt) (m + 2) (kArr (kv (m + 1)) (kv (m + 1)))) := (Ag.pk (by omega)).trans (Ag.pk (by omega))
      have f2 : Fr (m + 3) (pk (pk kn m kInt) (m + 2) (kArr (kv (m + 1)) (kv (m + 1)))) := Fr.pk (Fr.pk (hf.le (by omega)) (by omega)) (by omega)
      obtain ⟨k, kn2, m2, w, e, z⟩ := ih (sc := sc) (n := n + 1) (left := left - 1) (kn := pk (pk kn m kInt) (m + 2) (kArr (kv (m + 1)) (kv (m + 1)))) (m := m + 3) hb (hsc.le a2 (by omega)) f2 (by omega) (by omega)
      have zl := z.le
      have zt := z.lt
      have uz : lk kn2 (m + 2) = some (kArr (kv (m + 1)) (kv (m + 1))) := (z.ag _ (by omega)).trans (by rw [lk_pk, if_pos rfl])
      have uy : lk kn2 (m + 1) = none := (z.ag _ (by omega)).trans (by rw [lk_pk, if_neg (by omega), lk_pk, if_neg (by omega)]; exact hf _ (by omega))
      have uu : lk kn2 m2 = none := z.fr m2 (Int.le_refl _)
      refine ⟨_, _, _, w, inf_call l0 e1 e (eq_id (n := 10) (rva uz uy) (res_le z.rs (by omega)) uy z.un uu (by omega) (by omega) (by omega)), ?_⟩
      refine ⟨by omega, by omega, a2.trans ((z.ag.le (by omega)).trans ((Ag.pk (by omega)).trans (Ag.pk (by omega)))), (Fr.pk (Fr.pk (z.fr.le (by omega)) (by omega)) (by omega)), ?_, ?_⟩
      · rw [lk_pk, if_neg (by omega), lk_pk, if_neg (by omega)]; exact z.un
      · refine res_le (n := 4) ((res_some (n := 3) (k := kArr (kv w) (kv w)) (by rw [lk_pk, if_pos rfl])).trans (res_arr (n := 2) (res_none ?_) (res_none ?_))) (by omega)
        all_goals rw [lk_pk, if_neg (by omega), lk_pk, if_neg (by omega)]; exact z.un
    rw [if_neg c1]
    by_cases c2 : h = 2
    · rw [if_pos c2]
      obtain ⟨k, kn2, m2, w, e, z⟩ := ih (sc := sc) (n := n) (left := left - 1 - 1) (kn := kn) (m := m + 2) hb (hsc.le Ag.refl (by omega)) (hf.le (by omega)) (by omega) (by omega)
      have zl := z.le
      have zt := z.lt
      have us : lk kn2 m = none := (z.ag m (by omega)).trans (hf m (Int.le_refl _))
      have ut : lk kn2 (m + 1) = none := (z.ag _ (by omega)).trans (hf _ (by omega))
      have uu : lk kn2 m2 = none := z.fr m2 (Int.le_refl _)
      obtain ⟨n0, rfl⟩ : ∃ q, n = q + 1 := ⟨n - 1, by omega⟩
      refine ⟨_, _, _, w, inf_call l0 (inf_name l1 hb.f opn_fst) (inf_pair l1 e (inf_truth l2)) (kn3 := pk (pk (pk kn2 m (kArr (kv w) (kv w))) (m + 1) kBool) m2 (kArr (kv w) (kv w))) ?_, ?_⟩
      · refine eq_arr (n := 11) (res_arr (n := 99) (res_pair (n := 98) (res_none us) (res_none ut)) (res_none us)) (res_arr (n := 99) (res_pair (n := 98) (res_le (m := 98) z.rs (by omega)) res_bool) (res_none uu)) ((sd_arr (n := 2) (sd_pair sd_v sd_v) sd_v).ok (by decide)) ((sd_arr (n := 3) (sd_pair (sd_arr sd_v sd_v) sd_bool) sd_v).ok (by decide)) (by rw [ev_aa, ev_pp, ev_va v2]; rfl)
          (eq_pair (n := 10) (res_pair (n := 99) (res_none us) (res_none ut)) (res_pair (n := 99) (res_arr (n := 98) (res_none z.un) (res_none z.un)) res_bool) ((sd_pair (n := 1) sd_v sd_v).ok (by decide)) ((sd_pair (n := 2) (sd_arr sd_v sd_v) sd_bool).ok (by decide)) (by rw [ev_pp, ev_va v2]; rfl)
            (eq_y us z.un (by omega)) (eq_left (rv ?_) (res_bool (n := 99)) shb (ev_va v5) ⟨_, _, rfl⟩ (has_bool (n := 99)))) (eq_u ?_ ?_ ?_ (by omega))
        · rw [lk_pk, if_neg (by omega)]; exact ut
        · rw [lk_pk, if_neg (by omega), lk_pk, if_pos rfl]
        · rw [lk_pk, if_neg (by omega), lk_pk, if_neg (by omega)]; exact z.un
        · rw [lk_pk, if_neg (by omega), lk_pk, if_neg (by omega)]; exact uu
      · refine ⟨by omega, by omega, (z.ag.le (by omega)).trans ((Ag.pk (by omega)).trans ((Ag.pk (by omega)).trans (Ag.pk (by omega)))), (Fr.pk (Fr.pk (Fr.pk (z.fr.le (by omega)) (by omega)) (by omega)) (by omega)), ?_, ?_⟩
        · rw [lk_pk, if_neg (by omega), lk_pk, if_neg (by omega), lk_pk, if_neg (by omega)]; exact z.un
        · refine res_le (n := 4) ((res_some (n := 3) (k := kArr (kv w) (kv w)) (by rw [lk_pk, if_pos rfl])).trans (res_arr (n := 2) (res_none ?_) (res_none ?_))) (by omega)
          all_goals rw [lk_pk, if_neg (by omega), lk_pk, if_neg (by omega), lk_pk, if_neg (by omega)]; exact z.un
    rw [if_neg c2]
    by_cases c3 : h = 3
    · rw [if_pos c3]
      obtain ⟨k, kn2, m2, w, e, z⟩ := ih (sc := sc) (n := n) (left := left - 1 - 1) (kn := kn) (m := m + 2) hb (hsc.le Ag.refl (by omega)) (hf.le (by omega)) (by omega) (by omega)
      have zl := z.le
      have zt := z.lt
      have us : lk kn2 m = none := (z.ag m (by omega)).trans (hf m (Int.le_refl _))
      have ut : lk kn2 (m + 1) = none := (z.ag _ (by omega)).trans (hf _ (by omega))
      have uu : lk kn2 m2 = none := z.fr m2 (Int.le_refl _)
      obtain ⟨n0, rfl⟩ : ∃ q, n = q + 1 := ⟨n - 1, by omega⟩
      refine ⟨_, _, _, w, inf_call l0 (inf_name l1 hb.s opn_snd) (inf_pair l1 (inf_num l2) e) (kn3 := pk (pk (pk kn2 m kInt) (m + 1) (kArr (kv w) (kv w))) m2 (kArr (kv w) (kv w))) ?_, ?_⟩
      · refine eq_arr (n := 11) (res_arr (n := 99) (res_pair (n := 98) (res_none us) (res_none ut)) (res_none ut)) (res_arr (n := 99) (res_pair (n := 98) res_int (res_le (m := 98) z.rs (by omega))) (res_none uu)) ((sd_arr (n := 2) (sd_pair sd_v sd_v) sd_v).ok (by decide)) ((sd_arr (n := 3) (sd_pair sd_int (sd_arr sd_v sd_v)) sd_v).ok (by decide)) (by rw [ev_aa, ev_pp, ev_va v4]; rfl)
          (eq_pair (n := 10) (res_pair (n := 99) (res_none us) (res_none ut)) (res_pair (n := 99) res_int (res_arr (n := 98) (res_none z.un) (res_none z.un))) ((sd_pair (n := 1) sd_v sd_v).ok (by decide)) ((sd_pair (n := 2) sd_int (sd_arr sd_v sd_v)).ok (by decide)) (by rw [ev_pp, ev_va v4]; rfl)
            (eq_left (rv us) (res_int (n := 99)) shi (ev_va v4) ⟨_, _, rfl⟩ (has_int (n := 99))) (eq_y ?_ ?_ (by omega))) (eq_u ?_ ?_ ?_ (by omega))
        · rw [lk_pk, if_neg (by omega)]; exact ut
        · rw [lk_pk, if_neg (by omega)]; exact z.un
        · rw [lk_pk, if_pos rfl]
        · rw [lk_pk, if_neg (by omega), lk_pk, if_neg (by omega)]; exact z.un
        · rw [lk_pk, if_neg (by omega), lk_pk, if_neg (by omega)]; exact uu
      · refine ⟨by omega, by omega, (z.ag.le (by omega)).trans ((Ag.pk (by omega)).trans ((Ag.pk (by omega)).trans (Ag.pk (by omega)))), (Fr.pk (Fr.pk (Fr.pk (z.fr.le (by omega)) (by omega)) (by omega)) (by omega)), ?_, ?_⟩
        · rw [lk_pk, if_neg (by omega), lk_pk, if_neg (by omega), lk_pk, if_neg (by omega)]; exact z.un
        · refine res_le (n := 4) ((res_some (n := 3) (k := kArr (kv w) (kv w)) (by rw [lk_pk, if_pos rfl])).trans (res_arr (n := 2) (res_none ?_) (res_none ?_))) (by omega)
          all_goals rw [lk_pk, if_neg (by omega), lk_pk, if_neg (by omega), lk_pk, if_neg (by omega)]; exact z.un
    rw [if_neg c3]
    by_cases c4 : h = 4
    · rw [if_pos c4]
      obtain ⟨t, ht⟩ := taken_some (t := []) (hsc kn Ag.refl)
      have hc : cls kn kInt sc = some (scheme [] kInt) := by
        unfold cls
        rw [ht, res_int (n := 99)]
        show (vars (99 + 1) kInt).map _ = _
        rw [vars_int]
        rfl
      have q := inf_let (n := n + 1) (sc := sc) (left := left) (kn := kn) (m := m) (x := "q") (a := pNum 2) (b := wrapR r) l0 (inf_num l1) hc
      have ent : ∀ kn', Ag m kn kn' → Ent kn' (scheme [] kInt) := fun kn' _ => ⟨[], kInt, kInt, [], rfl, res_int (n := 99), vars_int (n := 99)⟩
      obtain ⟨k, kn2, m2, w, e, z⟩ := ih (sc := pk sc "q" (scheme [] kInt)) (n := n + 1) (left := left - 1) (kn := kn) (m := m) (hb.pk (by decide +kernel) (by decide +kernel)) (hsc.add ent) hf (by omega) (by omega)
      exact ⟨k, kn2, m2, w, q.trans e, z.le, z.lt, z.ag, z.fr, z.un, res_le z.rs (by omega)⟩
    rw [if_neg c4]
    obtain ⟨k, kn2, m2, w, e, z⟩ := ih (sc := sc) (n := n + 1) (left := left - 1) (kn := kn) (m := m) hb hsc hf (by omega) (by omega)
    have zl := z.le
    have zt := z.lt
    have ue : lk kn2 m2 = none := z.fr m2 (Int.le_refl _)
    have rk : res R kn2 k = some (kArr (kv w) (kv w)) := res_R z.rs (by omega)
    obtain ⟨n0, rfl⟩ : ∃ q, n = q + 1 := ⟨n - 1, by omega⟩
    refine ⟨k, pk kn2 w (kv m2), m2 + 1, m2, inf_if l0 (inf_truth l1) e (inf_idf l1 l2) (eq_same (res_bool (n := 99)) (res_bool (n := 99)) shb shb ev_bb) ?_, ?_⟩
    · refine eq_arr (n := 11) (kn1 := pk kn2 w (kv m2)) rk (raa ue) saa saa (by rw [ev_aa, ev_vv, decide_eq_false (by omega)]; rfl) (eq_left (rv z.un) (rv ue) shv (by rw [ev_vv, decide_eq_false (by omega)]) ⟨_, _, rfl⟩ (by rw [has_v (n := 99), decide_eq_false (by omega)])) (eq_same (a' := kv m2) ?_ (rv ?_) shv shv (by rw [ev_vv]; simp))
      · refine (res_some (n := 99) (k := kv m2) (by rw [lk_pk, if_pos rfl])).trans (res_none (n := 98) ?_)
        rw [lk_pk, if_neg (by omega)]; exact ue
      · rw [lk_pk, if_neg (by omega)]; exact ue
    · refine ⟨by omega, by omega, z.ag.trans (Ag.pk (by omega)), Fr.pk (z.fr.le (by omega)) (by omega), ?_, ?_⟩
      · rw [lk_pk, if_neg (by omega)]; exact ue
      · refine res_le (res_bind z.un ue (by omega) z.rs (N := 3) (r' := kArr (kv m2) (kv m2)) ?_) (by omega)
        have pv : put (1 + 1) [(w, kv m2)] (kv w) = some (kv m2) := by
          rw [put_v, lk_cons, if_pos rfl]; rfl
        exact put_arr pv pv
end M63
namespace M63
open PySem
/-! ### the scope of the built-in names -/
theorem bs0 : Bs scope0 := by
  constructor
  · unfold scope0
    rw [lk_cons, if_neg (by decide +kernel), lk_cons, if_neg (by decide +kernel), lk_cons, if_neg (by decide +kernel), lk_cons, if_pos rfl]
    rfl
  · unfold scope0
    rw [lk_cons, if_neg (by decide +kernel), lk_cons, if_neg (by decide +kernel), lk_cons, if_neg (by decide +kernel), lk_cons, if_neg (by decide +kernel), lk_cons, if_pos rfl]
    rfl
theorem taken_one {kn : Kn} {x : Str} {ns vs : List Int} {own o : D} {r : Sc} {t : List Int} (h : res R kn own = some o) (hv : vars R o = some vs) : taken kn ((x, scheme ns own) :: r) t = taken kn r (t ++ vs.filter fun v => !decide (v ∈ ns)) := by
  show (match intsOf (ns.map .int), res R kn own with
    | some is, some o => match vars R o with
      | some vs => taken kn r (t ++ vs.filter fun v => !decide (v ∈ is))
      | none => none
    | _, _ => none) = _
  rw [intsOf_map, h]
  simp only [hv]
theorem taken_app {kn : Kn} : ∀ {a b : Sc} {t u : List Int}, taken kn a t = some u → taken kn (a ++ b) t = taken kn b u
  | [], b, t, u, h => by cases h; rfl
  | (x, .tuple [.list ns, own]) :: r, b, t, u, h => by
    unfold taken at h
    rw [List.cons_append]
    show (match intsOf ns, res R kn own with
      | some is, some o => match vars R o with
        | some vs => taken kn (r ++ b) (t ++ vs.filter fun v => !decide (v ∈ is))
        | none => none
      | _, _ => none) = _
    cases h1 : intsOf ns with
    | none => rw [h1] at h; cases h
    | some is =>
      rw [h1] at h
      cases h2 : res R kn own with
      | none => rw [h2] at h; cases h
      | some o =>
        rw [h2] at h
        simp only at h ⊢
        cases h3 : vars R o with
        | none => rw [h3] at h; cases h
        | some vs =>
          rw [h3] at h
          exact taken_app h
  | (x, .none) :: r, b, t, u, h => by cases h
  | (x, .bool _) :: r, b, t, u, h => by cases h
  | (x, .int _) :: r, b, t, u, h => by cases h
  | (x, .str _) :: r, b, t, u, h => by cases h
  | (x, .list _) :: r, b, t, u, h => by cases h
  | (x, .dict _) :: r, b, t, u, h => by cases h
  | (x, .tuple []) :: r, b, t, u, h => by cases h
  | (x, .tuple (.none :: _)) :: r, b, t, u, h => by cases h
  | (x, .tuple (.bool _ :: _)) :: r, b, t, u, h => by cases h
  | (x, .tuple (.int _ :: _)) :: r, b, t, u, h => by cases h
  | (x, .tuple (.str _ :: _)) :: r, b, t, u, h => by cases h
  | (x, .tuple (.tuple _ :: _)) :: r, b, t, u, h => by cases h
  | (x, .tuple (.dict _ :: _)) :: r, b, t, u, h => by cases h
  | (x, .tuple [.list _]) :: r, b, t, u, h => by cases h
  | (x, .tuple (.list _ :: _ :: _ :: _)) :: r, b, t, u, h => by cases h
section
variable {kn : Kn}
theorem r0a {x : D} (h : res 98 kn x = some x) : res R kn (aInt2 x) = some (aInt2 x) := res_arr (n := 99) res_int (res_arr (n := 98) res_int h)
theorem r0n : res R kn (kArr kBool kBool) = some (kArr kBool kBool) := res_arr (n := 99) res_bool res_bool
theorem r0f (h0 : lk kn 0 = none) (h1 : lk kn 1 = none) : res R kn (kArr (kPair (kv 0) (kv 1)) (kv 0)) = some (kArr (kPair (kv 0) (kv 1)) (kv 0)) := res_arr (n := 99) (res_pair (n := 98) (res_none h0) (res_none h1)) (res_none h0)
theorem r0s (h0 : lk kn 0 = none) (h1 : lk kn 1 = none) : res R kn (kArr (kPair (kv 0) (kv 1)) (kv 1)) = some (kArr (kPair (kv 0) (kv 1)) (kv 1)) := res_arr (n := 99) (res_pair (n := 98) (res_none h0) (res_none h1)) (res_none h1)
theorem w0i : vars R (aInt2 kInt) = some [] := vars_arr (n := 99) vars_int (vars_arr (n := 98) vars_int vars_int)
theorem w0b : vars R (aInt2 kBool) = some [] := vars_arr (n := 99) vars_int (vars_arr (n := 98) vars_int vars_bool)
theorem w0n : vars R (kArr kBool kBool) = some [] := vars_arr (n := 99) vars_bool vars_bool
theorem w0f : vars R (kArr (kPair (kv 0) (kv 1)) (kv 0)) = some [0, 1] := vars_arr (n := 99) (vars_pair (n := 98) vars_v vars_v) vars_v
theorem w0s : vars R (kArr (kPair (kv 0) (kv 1)) (kv 1)) = some [0, 1] := vars_arr (n := 99) (vars_pair (n := 98) vars_v vars_v) vars_v
theorem taken0 (h0 : lk kn 0 = none) (h1 : lk kn 1 = none) : taken kn scope0 [] = some [] := by
  unfold scope0
  rw [taken_one (r0a (res_int (n := 97))) w0i, taken_one (r0a (res_bool (n := 97))) w0b, taken_one r0n w0n, taken_one (r0f h0 h1) w0f, taken_one (r0s h0 h1) w0s]
  rfl
end
theorem sc0 : ScOk 2 [] scope0 := fun kn' a e he => by
  have h0 : lk kn' 0 = none := a 0 (by decide)
  have h1 : lk kn' 1 = none := a 1 (by decide)
  unfold scope0 at he
  simp only [List.mem_cons, List.not_mem_nil, or_false] at he
  rcases he with rfl | rfl | rfl | rfl | rfl
  · exact ⟨_, _, _, _, rfl, r0a (res_int (n := 97)), w0i⟩
  · exact ⟨_, _, _, _, rfl, r0a (res_bool (n := 97)), w0b⟩
  · exact ⟨_, _, _, _, rfl, r0n, w0n⟩
  · exact ⟨_, _, _, _, rfl, r0f h0 h1, w0f⟩
  · exact ⟨_, _, _, _, rfl, r0s h0 h1, w0s⟩
theorem fr0 : Fr 2 [] := fun _ _ => rfl
theorem pk_new {x : Str} {s : D} (h : lk scope0 x = none) : pk scope0 x s = scope0 ++ [(x, s)] := by
  unfold pk
  rw [any_lk, h]
  rfl
theorem no_g : lk scope0 "g" = none := by
  unfold scope0
  rw [lk_cons, if_neg (by decide +kernel), lk_cons, if_neg (by decide +kernel), lk_cons, if_neg (by decide +kernel), lk_cons, if_neg (by decide +kernel), lk_cons, if_neg (by decide +kernel)]
  rfl
theorem no_x : lk scope0 "x" = none := by
  unfold scope0
  rw [lk_cons, if_neg (by decide +kernel), lk_cons, if_neg (by decide +kernel), lk_cons, if_neg (by decide +kernel), lk_cons, if_neg (by decide +kernel), lk_cons, if_neg (by decide +kernel)]
  rfl
/-! ### generalizing -/
theorem vaa {w : Int} : vars R (kArr (kv w) (kv w)) = some [w] := by
  rw [vars_arr (n := 99) vars_v vars_v]; simp
theorem cls_of {kn : Kn} {k k' : D} {sc : Sc} {t vs us : List Int} (ht : taken kn sc [] = some t) (hk : res R kn k = some k') (hv : vars R k' = some vs) (hf : (vs.filter fun v => !decide (v ∈ t)) = us) : cls kn k sc = some (scheme us k') := by
  unfold cls
  rw [ht, hk]
  simp only [hv, Option.map_some, hf]
theorem opn_one {m w : Int} {s u : D} (hp : put R (pk [] w (kv m)) s = some u) : opn m (scheme [w] s) = some (u, m + 1) := by
  show (match intsOf (([w] : List Int).map .int) with
    | none => none
    | some is => (put R (fresh m is []) s).map fun k' => (k', m + is.length)) = _
  rw [intsOf_map]
  show (put R (pk [] w (kv m)) s).map _ = _
  rw [hp]
  rfl
theorem put_here {n : Nat} {w : Int} {d : D} : put (n + 1) (pk [] w d) (kv w) = some d := by
  rw [put_v, lk_pk, if_pos rfl]; rfl
theorem put_there {n : Nat} {w i : Int} {d : D} (h : i ≠ w) : put (n + 1) (pk [] w d) (kv i) = some (kv i) := by
  rw [put_v, lk_pk, if_neg h]; rfl
theorem opn_aa {m w : Int} : opn m (scheme [w] (kArr (kv w) (kv w))) = some (kArr (kv m) (kv m), m + 1) := opn_one (put_arr (n := 99) put_here put_here)
/-! ### what a name that stands for all types is worth -/
/-- one call: f of a type, T the argument's -/
theorem call_one {n : Nat} {sc : Sc} {left : Int} {kn : Kn} {m w : Int} {h : Str} {a T : D} (hh : lk sc h = some (scheme [w] (kArr (kv w) (kv w)))) (hf : Fr m kn) (l0 : left ≠ 0) (l1 : left - 1 ≠ 0)
    (ha : inf (n + 1) a sc (left - 1) kn (m + 1) = some (some (T, kn, m + 1))) (hT : T = kInt ∨ T = kBool) :
    inf (n + 2) (pCall (pName h) a) sc left kn m = some (some (kv (m + 1), pk (pk kn m T) (m + 1) T, m + 2)) := by
  have f0 := hf m (Int.le_refl _)
  have f1 := hf (m + 1) (by omega)
  have l : lk (pk kn m T) (m + 1) = none := by rw [lk_pk, if_neg (by omega)]; exact f1
  have e := inf_call (n := n + 1) (m1 := m + 1) (m2 := m + 1) (kn3 := pk (pk kn m T) (m + 1) T) l0 (inf_name l1 hh opn_aa) ha (by
    rcases hT with rfl | rfl
    · exact eq_arr (n := 11) (raa f0) (res_arr (n := 99) res_int (res_none f1)) saa ((sd_arr (n := 1) sd_int sd_v).ok (by decide)) (by rw [ev_aa, ev_va v4]; rfl)
        (eq_left (rv f0) (res_int (n := 99)) shi (ev_va v4) ⟨_, _, rfl⟩ (has_int (n := 99))) (eq_right v4 ((res_some (n := 99) (k := kInt) (by rw [lk_pk, if_pos rfl])).trans (res_int (n := 98))) (rv l) shi (has_int (n := 99)))
    · exact eq_arr (n := 11) (raa f0) (res_arr (n := 99) res_bool (res_none f1)) saa ((sd_arr (n := 1) sd_bool sd_v).ok (by decide)) (by rw [ev_aa, ev_va v5]; rfl)
        (eq_left (rv f0) (res_bool (n := 99)) shb (ev_va v5) ⟨_, _, rfl⟩ (has_bool (n := 99))) (eq_right v5 ((res_some (n := 99) (k := kBool) (by rw [lk_pk, if_pos rfl])).trans (res_bool (n := 98))) (rv l) shb (has_bool (n := 99))))
  have z : m + 1 + 1 = m + 2 := by omega
  rw [z] at e
  exact e
theorem both_ok {n : Nat} {sc : Sc} {left : Int} {kn : Kn} {m w : Int} (hh : lk sc "h" = some (scheme [w] (kArr (kv w) (kv w)))) (hf : Fr m kn) (hl : 5 ≤ left) :
    ∃ kn', inf (n + 3) both sc left kn m = some (some (kPair (kv (m + 1)) (kv (m + 3)), kn', m + 4)) ∧ res R kn' (kPair (kv (m + 1)) (kv (m + 3))) = some (kPair kInt kBool) := by
  have e1 := call_one (n := n) (left := left - 1) (h := "h") (a := pNum 1) hh hf (by omega) (by omega) (inf_num (by omega)) (.inl rfl)
  have f2 : Fr (m + 2) (pk (pk kn m kInt) (m + 1) kInt) := Fr.pk (Fr.pk (hf.le (by omega)) (by omega)) (by omega)
  have e2 := call_one (n := n) (left := left - 1) (h := "h") (a := pTrue true) hh f2 (by omega) (by omega) (inf_truth (by omega)) (.inr rfl)
  have z1 : m + 2 + 1 = m + 3 := by omega
  have z2 : m + 2 + 2 = m + 4 := by omega
  rw [z1, z2] at e2
  refine ⟨_, inf_pair (n := n + 2) (by omega) e1 e2, res_pair (n := 99) ?_ ?_⟩
  · refine (res_some (n := 98) (k := kInt) ?_).trans (res_int (n := 97))
    rw [lk_pk, if_neg (by omega), lk_pk, if_neg (by omega), lk_pk, if_pos rfl]
  · refine (res_some (n := 98) (k := kBool) ?_).trans (res_bool (n := 97))
    rw [lk_pk, if_pos rfl]
theorem both_bad {n : Nat} {sc : Sc} {left : Int} {kn : Kn} {m x : Int} (hh : lk sc "h" = some (scheme [] (kv x))) (hx : x < m) (hn : lk kn x = none) (hf : Fr m kn) (hl : 5 ≤ left) : inf (n + 3) both sc left kn m = some none := by
  have f0 := hf m (Int.le_refl _)
  have f1 := hf (m + 1) (by omega)
  have e1 : inf (n + 2) (pCall (pName "h") (pNum 1)) sc (left - 1) kn m = some (some (kv m, pk kn x (kArr kInt (kv m)), m + 1)) := inf_call (n := n + 1) (by omega) (inf_name (by omega) hh opn_mono) (inf_num (by omega))
    (eq_left (n := 11) (rv hn) (res_arr (n := 99) res_int (res_none f0)) ((sd_arr (n := 1) sd_int sd_v).ok (by decide)) (ev_va v2) ⟨_, _, rfl⟩ (by rw [has_arr (n := 99) (has_int (n := 98)) (has_v (n := 98)), decide_eq_false (by omega)]; rfl))
  have l0 : lk (pk kn x (kArr kInt (kv m))) m = none := by rw [lk_pk, if_neg (by omega)]; exact f0
  have l1 : lk (pk kn x (kArr kInt (kv m))) (m + 1) = none := by rw [lk_pk, if_neg (by omega)]; exact f1
  have e2 : inf (n + 2) (pCall (pName "h") (pTrue true)) sc (left - 1) (pk kn x (kArr kInt (kv m))) (m + 1) = some none := inf_call_bad (n := n + 1) (by omega) (inf_name (by omega) hh opn_mono) (inf_truth (by omega))
    (eq_arr_bad (n := 11) (A := kInt) (B := kv m) ((res_some (n := 99) (k := kArr kInt (kv m)) (by rw [lk_pk, if_pos rfl])).trans (res_arr (n := 98) res_int (res_none l0))) (res_arr (n := 99) res_bool (res_none l1)) ((sd_arr (n := 1) sd_int sd_v).ok (by decide)) ((sd_arr (n := 1) sd_bool sd_v).ok (by decide)) (by rw [ev_aa, ev_ib]; rfl)
      (eq_clash (n := 10) (res_int (n := 99)) (res_bool (n := 99))))
  exact inf_pair_bad (n := n + 2) (by omega) e1 e2
theorem renum_pair : renum (kPair kInt kBool) = some (kPair kInt kBool) := by
  unfold renum
  rw [vars_pair (n := 99) vars_int vars_bool]
  exact put_pair (n := 99) put_int put_bool
theorem prin_of {p k r s : D} {kn : Kn} {m : Int} (h : inf N p scope0 60 [] 2 = some (some (k, kn, m))) (hr : res R kn k = some r) (hs : renum r = some s) : prin p = some (some s) := by
  unfold prin
  rw [h]
  simp only [hr, hs, Option.map_some]
theorem prin_bad {p : D} (h : inf N p scope0 60 [] 2 = some none) : prin p = some none := by
  unfold prin
  rw [h]
section
variable {hs ms : List Int} (h5 : hs.length ≤ 5) (h3 : ms.length ≤ 3)
include h5
theorem own_0 : ∃ k kn m w, inf 39 (wrapR hs) scope0 59 [] 2 = some (some (k, kn, m)) ∧ Rz 2 [] 9 k kn m w := by
  obtain ⟨k, kn, m, w, e, z⟩ := wrap_inf hs (n := 39) (left := 59) (by omega) bs0 sc0 fr0 (by omega) (by omega)
  exact ⟨k, kn, m, w, e, z.le, z.lt, z.ag, z.fr, z.un, res_le z.rs (by omega)⟩
theorem law2 : prin (wrapR hs) = some (some (kArr (kv 0) (kv 0))) := by
  obtain ⟨k, kn, m, w, e, z⟩ := wrap_inf hs (n := 40) (left := 60) (by omega) bs0 sc0 fr0 (by omega) (by omega)
  refine prin_of e (res_R z.rs (by omega)) ?_
  unfold renum
  rw [vaa]
  exact put_arr (n := 99) put_here put_here
theorem law1 : prin (pLet "h" (wrapR hs) both) = some (some (kPair kInt kBool)) := by
  obtain ⟨k, kn, m, w, e, z⟩ := own_0 h5
  have h0 : lk kn 0 = none := z.ag 0 (by decide)
  have h1 : lk kn 1 = none := z.ag 1 (by decide)
  have c : cls kn k scope0 = some (scheme [w] (kArr (kv w) (kv w))) := cls_of (taken0 h0 h1) (res_R z.rs (by omega)) vaa (by simp)
  obtain ⟨kn', e2, r2⟩ := both_ok (n := 36) (sc := pk scope0 "h" (scheme [w] (kArr (kv w) (kv w)))) (left := 59) (by rw [lk_pk, if_pos rfl]) z.fr (by omega)
  exact prin_of ((inf_let (n := 39) (left := 60) (by decide) e c).trans e2) r2 renum_pair
include h3 in
theorem law3 : prin (pLet "g" (wrapR ms) (pLet "h" (pCall (pName "g") (wrapR hs)) both)) = some (some (kPair kInt kBool)) := by
  obtain ⟨k, kn, m, w, e, z⟩ := wrap_inf ms (n := 39) (left := 59) (by omega) bs0 sc0 fr0 (by omega) (by omega)
  have zl := z.le
  have zt := z.lt
  have c : cls kn k scope0 = some (scheme [w] (kArr (kv w) (kv w))) := cls_of (taken0 (z.ag 0 (by decide)) (z.ag 1 (by decide))) (res_R z.rs (by omega)) vaa (by simp)
  have s1 : ScOk (m + 1) kn (pk scope0 "g" (scheme [w] (kArr (kv w) (kv w)))) := ScOk.add (sc0.le z.ag (by omega)) fun kn' a => ⟨_, _, _, _, rfl, raa ((a w (by omega)).trans z.un), vaa⟩
  obtain ⟨k2, kn2, m2, w2, e2, z2⟩ := wrap_inf hs (n := 37) (left := 57) (by omega) (bs0.pk (x := "g") (by decide +kernel) (by decide +kernel)) s1 (z.fr.le (by omega)) (by omega) (by omega)
  have zl2 := z2.le
  have zt2 := z2.lt
  have lg : lk (pk scope0 "g" (scheme [w] (kArr (kv w) (kv w)))) "g" = some (scheme [w] (kArr (kv w) (kv w))) := by rw [lk_pk, if_pos rfl]
  have uy : lk kn2 m = none := (z2.ag m (by omega)).trans (z.fr m (Int.le_refl _))
  have uu : lk kn2 m2 = none := z2.fr m2 (Int.le_refl _)
  have q := inf_call (n := 37) (left := 58) (by decide) (inf_name (n := 36) (left := 57) (by decide) lg (opn_aa (m := m))) e2 (eq_id (n := 10) (raa uy) (res_le z2.rs (by omega)) uy z2.un uu (by omega) (by omega) (by omega))
  generalize hk3 : pk (pk kn2 m (kArr (kv w2) (kv w2))) m2 (kArr (kv w2) (kv w2)) = kn3 at q
  have l3 : ∀ i, i ≠ m → i ≠ m2 → lk kn3 i = lk kn2 i := fun i h1 h2 => by rw [← hk3, lk_pk, if_neg h2, lk_pk, if_neg h1]
  have a0 : ∀ i, i < 2 → lk kn3 i = none := fun i hi => (l3 i (by omega) (by omega)).trans ((z2.ag i (by omega)).trans (z.ag i hi))
  have u2 : lk kn3 w2 = none := (l3 w2 (by omega) (by omega)).trans z2.un
  have u1 : lk kn3 w = none := (l3 w (by omega) (by omega)).trans ((z2.ag w (by omega)).trans z.un)
  have t : taken kn3 (pk scope0 "g" (scheme [w] (kArr (kv w) (kv w)))) [] = some [] := by
    rw [pk_new no_g, taken_app (taken0 (a0 0 (by decide)) (a0 1 (by decide))), taken_one (raa u1) vaa]
    simp [taken]
  have c2 : cls kn3 (kv m2) (pk scope0 "g" (scheme [w] (kArr (kv w) (kv w)))) = some (scheme [w2] (kArr (kv w2) (kv w2))) := cls_of t (rva (by rw [← hk3, lk_pk, if_pos rfl]) u2) vaa (by simp)
  have f3 : Fr (m2 + 1) kn3 := by
    rw [← hk3]
    exact Fr.pk (Fr.pk (z2.fr.le (by omega)) (by omega)) (by omega)
  obtain ⟨kn', e3, r3⟩ := both_ok (n := 35) (sc := pk (pk scope0 "g" (scheme [w] (kArr (kv w) (kv w)))) "h" (scheme [w2] (kArr (kv w2) (kv w2)))) (left := 58) (by rw [lk_pk, if_pos rfl]) f3 (by omega)
  exact prin_of ((inf_let (n := 39) (left := 60) (by decide) e c).trans ((inf_let (n := 38) (left := 59) (by decide) q c2).trans e3)) r3 renum_pair
omit h5 in
theorem law4 : prin (pCall (pFun "h" both) (wrapR hs)) = some none :=
  prin_bad (inf_call_bad1 (n := 39) (left := 60) (by decide) (inf_fun_bad (n := 38) (left := 59) (by decide) (both_bad (n := 35) (left := 58) (by rw [lk_pk, if_pos rfl]) (by omega) rfl (fr0.le (by omega)) (by omega))))
/-- the wrapped function behind an x -/
theorem own_x : ∃ k kn m w, inf 37 (wrapR hs) (pk scope0 "x" (scheme [] (kv 2))) 57 [] 3 = some (some (k, kn, m)) ∧ Rz 3 [] 9 k kn m w := by
  have s1 : ScOk 3 [] (pk scope0 "x" (scheme [] (kv 2))) := ScOk.add (sc0.le Ag.refl (by omega)) fun kn' a => ⟨_, _, _, _, rfl, rv (a 2 (by omega)), vars_v (n := 99)⟩
  obtain ⟨k, kn, m, w, e, z⟩ := wrap_inf hs (n := 37) (left := 57) (by omega) (bs0.pk (x := "x") (by decide +kernel) (by decide +kernel)) s1 (fr0.le (by omega)) (by omega) (by omega)
  exact ⟨k, kn, m, w, e, z.le, z.lt, z.ag, z.fr, z.un, res_le z.rs (by omega)⟩
theorem law5 : prin (pFun "x" (pLet "h" (pCall (wrapR hs) (pName "x")) both)) = some none := by
  obtain ⟨k, kn, m, w, e, z⟩ := own_x h5
  have zl := z.le
  have zt := z.lt
  have lx : lk (pk scope0 "x" (scheme [] (kv 2))) "x" = some (scheme [] (kv 2)) := by rw [lk_pk, if_pos rfl]
  have u2 : lk kn 2 = none := z.ag 2 (by omega)
  have um : lk kn m = none := z.fr m (Int.le_refl _)
  have q := inf_call (n := 37) (left := 58) (kn3 := pk (pk kn w (kv 2)) 2 (kv m)) (by decide) e (inf_name (n := 36) (left := 57) (by decide) lx opn_mono) (by
    refine eq_arr (n := 11) (kn1 := pk kn w (kv 2)) (res_R z.rs (by omega)) (res_arr (n := 99) (res_none u2) (res_none um)) saa ((sd_arr (n := 1) sd_v sd_v).ok (by decide)) (by rw [ev_aa, ev_vv, decide_eq_false (by omega)]; rfl)
      (eq_left (rv z.un) (rv u2) shv (by rw [ev_vv, decide_eq_false (by omega)]) ⟨_, _, rfl⟩ (by rw [has_v (n := 99), decide_eq_false (by omega)]))
      (eq_left (i := 2) ((res_some (n := 99) (k := kv 2) (by rw [lk_pk, if_pos rfl])).trans (res_none (n := 98) ?_)) (rv ?_) shv (by rw [ev_vv, decide_eq_false (by omega)]) ⟨_, _, rfl⟩ (by rw [has_v (n := 99), decide_eq_false (by omega)]))
    · rw [lk_pk, if_neg (by omega)]; exact u2
    · rw [lk_pk, if_neg (by omega)]; exact um)
  generalize hk3 : pk (pk kn w (kv 2)) 2 (kv m) = kn3 at q
  have l2 : lk kn3 2 = some (kv m) := by rw [← hk3, lk_pk, if_pos rfl]
  have lm : lk kn3 m = none := by rw [← hk3, lk_pk, if_neg (by omega), lk_pk, if_neg (by omega)]; exact um
  have a0 : ∀ i, i < 2 → lk kn3 i = none := fun i hi => by rw [← hk3, lk_pk, if_neg (by omega), lk_pk, if_neg (by omega)]; exact z.ag i (by omega)
  have t : taken kn3 (pk scope0 "x" (scheme [] (kv 2))) [] = some [m] := by
    rw [pk_new no_x, taken_app (taken0 (a0 0 (by decide)) (a0 1 (by decide))), taken_one ((res_some (n := 99) l2).trans (res_none (n := 98) lm)) (vars_v (n := 99))]
    simp [taken]
  have c : cls kn3 (kv m) (pk scope0 "x" (scheme [] (kv 2))) = some (scheme [] (kv m)) := cls_of t (rv lm) (vars_v (n := 99)) (by simp)
  have f3 : Fr (m + 1) kn3 := by
    rw [← hk3]
    exact Fr.pk (Fr.pk (z.fr.le (by omega)) (by omega)) (by omega)
  have b := both_bad (n := 35) (sc := pk (pk scope0 "x" (scheme [] (kv 2))) "h" (scheme [] (kv m))) (left := 58) (kn := kn3) (m := m + 1) (x := m) (by rw [lk_pk, if_pos rfl]) (by omega) lm f3 (by omega)
  exact prin_bad (inf_fun_bad (n := 39) (left := 60) (by decide) ((inf_let (n := 38) (left := 59) (by decide) q c).trans b))
theorem law6 : prin (pFun "x" (pLet "h" (pCall (wrapR hs) (pFun "b" (pName "x"))) both)) = some (some (kArr (kv 0) (kPair (kv 0) (kv 0)))) := by
  obtain ⟨k, kn, b, w, e, z⟩ := own_x h5
  have zl := z.le
  have zt := z.lt
  have lx : lk (pk (pk scope0 "x" (scheme [] (kv 2))) "b" (scheme [] (kv b))) "x" = some (scheme [] (kv 2)) := by rw [lk_pk, if_neg (by decide +kernel), lk_pk, if_pos rfl]
  have u2 : lk kn 2 = none := z.ag 2 (by omega)
  have ub : lk kn b = none := z.fr b (Int.le_refl _)
  have uf : lk kn (b + 1) = none := z.fr _ (by omega)
  have q := inf_call (n := 37) (left := 58) (kn3 := pk (pk kn w (kArr (kv b) (kv 2))) (b + 1) (kArr (kv b) (kv 2))) (by decide) e (inf_fun (n := 36) (left := 57) (by decide) (inf_name (n := 35) (left := 56) (by decide) lx opn_mono)) (by
    refine eq_arr (n := 11) (kn1 := pk kn w (kArr (kv b) (kv 2))) (res_R z.rs (by omega)) (res_arr (n := 99) (res_arr (n := 98) (res_none ub) (res_none u2)) (res_none uf)) saa ((sd_arr (n := 2) (sd_arr sd_v sd_v) sd_v).ok (by decide)) (by rw [ev_aa, ev_va v2]; rfl)
      (eq_left (rv z.un) (res_arr (n := 99) (res_none ub) (res_none u2)) ((sd_arr (n := 1) sd_v sd_v).ok (by decide)) (ev_va v2) ⟨_, _, rfl⟩ (by rw [has_arr (n := 99) (has_v (n := 98)) (has_v (n := 98)), decide_eq_false (by omega), decide_eq_false (by omega)]; rfl))
      (eq_right v2 ((res_some (n := 99) (k := kArr (kv b) (kv 2)) (by rw [lk_pk, if_pos rfl])).trans (res_arr (n := 98) (res_none ?_) (res_none ?_))) (rv ?_) ((sd_arr (n := 1) sd_v sd_v).ok (by decide)) (by rw [has_arr (n := 99) (has_v (n := 98)) (has_v (n := 98)), decide_eq_false (by omega), decide_eq_false (by omega)]; rfl))
    · rw [lk_pk, if_neg (by omega)]; exact ub
    · rw [lk_pk, if_neg (by omega)]; exact u2
    · rw [lk_pk, if_neg (by omega)]; exact uf)
  generalize hk3 : pk (pk kn w (kArr (kv b) (kv 2))) (b + 1) (kArr (kv b) (kv 2)) = kn3 at q
  have l3 : ∀ i, i ≠ w → i ≠ b + 1 → lk kn3 i = lk kn i := fun i h1 h2 => by rw [← hk3, lk_pk, if_neg h2, lk_pk, if_neg h1]
  have v2' : lk kn3 2 = none := (l3 2 (by omega) (by omega)).trans u2
  have vb : lk kn3 b = none := (l3 b (by omega) (by omega)).trans ub
  have f3 : Fr (b + 2) kn3 := by
    rw [← hk3]
    exact Fr.pk (Fr.pk (z.fr.le (by omega)) (by omega)) (by omega)
  have t : taken kn3 (pk scope0 "x" (scheme [] (kv 2))) [] = some [2] := by
    rw [pk_new no_x, taken_app (taken0 ((l3 0 (by omega) (by omega)).trans (z.ag 0 (by omega))) ((l3 1 (by omega) (by omega)).trans (z.ag 1 (by omega)))), taken_one (rv v2') (vars_v (n := 99))]
    simp [taken]
  have c : cls kn3 (kv (b + 1)) (pk scope0 "x" (scheme [] (kv 2))) = some (scheme [b] (kArr (kv b) (kv 2))) := by
    refine cls_of (vs := [b, 2]) t ((res_some (n := 99) (k := kArr (kv b) (kv 2)) (by rw [← hk3, lk_pk, if_pos rfl])).trans (res_arr (n := 98) (res_none vb) (res_none v2'))) ?_ ?_
    · rw [vars_arr (n := 99) vars_v vars_v]
      simp [show ¬ (2 : Int) = b by omega]
    · simp [show ¬ b = 2 by omega]
  generalize hm : b + 2 = m at f3
  have zb : b + 1 + 1 = m := by omega
  rw [zb] at q
  have hh : lk (pk (pk scope0 "x" (scheme [] (kv 2))) "h" (scheme [b] (kArr (kv b) (kv 2)))) "h" = some (scheme [b] (kArr (kv b) (kv 2))) := by rw [lk_pk, if_pos rfl]
  have op : ∀ i, opn i (scheme [b] (kArr (kv b) (kv 2))) = some (kArr (kv i) (kv 2), i + 1) := fun i => opn_one (put_arr (n := 99) put_here (put_there (by omega)))
  have g0 := f3 m (Int.le_refl _)
  have g1 := f3 (m + 1) (by omega)
  have g2 := f3 (m + 2) (by omega)
  have g3 := f3 (m + 3) (by omega)
  -- h 1
  have q1 := inf_call (n := 36) (left := 57) (sc := pk (pk scope0 "x" (scheme [] (kv 2))) "h" (scheme [b] (kArr (kv b) (kv 2)))) (a := pName "h") (b := pNum 1) (kn3 := pk (pk kn3 m kInt) 2 (kv (m + 1))) (by decide) (inf_name (n := 35) (left := 56) (by decide) hh (op m)) (inf_num (by decide)) (by
    refine eq_arr (n := 11) (kn1 := pk kn3 m kInt) (res_arr (n := 99) (res_none g0) (res_none v2')) (res_arr (n := 99) res_int (res_none g1)) ((sd_arr (n := 1) sd_v sd_v).ok (by decide)) ((sd_arr (n := 1) sd_int sd_v).ok (by decide)) (by rw [ev_aa, ev_va v4]; rfl)
      (eq_left (rv g0) (res_int (n := 99)) shi (ev_va v4) ⟨_, _, rfl⟩ (has_int (n := 99)))
      (eq_left (rv ?_) (rv ?_) shv (by rw [ev_vv, decide_eq_false (by omega)]) ⟨_, _, rfl⟩ (by rw [has_v (n := 99), decide_eq_false (by omega)]))
    · rw [lk_pk, if_neg (by omega)]; exact v2'
    · rw [lk_pk, if_neg (by omega)]; exact g1)
  generalize hk5 : pk (pk kn3 m kInt) 2 (kv (m + 1)) = kn5 at q1
  have l5 : ∀ i, i ≠ m → i ≠ 2 → lk kn5 i = lk kn3 i := fun i h1 h2 => by rw [← hk5, lk_pk, if_neg h2, lk_pk, if_neg h1]
  have x2 : lk kn5 2 = some (kv (m + 1)) := by rw [← hk5, lk_pk, if_pos rfl]
  have x3 : lk kn5 (m + 1) = none := (l5 _ (by omega) (by omega)).trans g1
  have x4 : lk kn5 (m + 2) = none := (l5 _ (by omega) (by omega)).trans g2
  have x5 : lk kn5 (m + 3) = none := (l5 _ (by omega) (by omega)).trans g3
  have z2 : m + 1 + 1 = m + 2 := by omega
  rw [z2] at q1
  have z3 : m + 2 + 1 = m + 3 := by omega
  -- h True
  have op2 := op (m + 2)
  rw [z3] at op2
  have q2 := inf_call (n := 36) (left := 57) (sc := pk (pk scope0 "x" (scheme [] (kv 2))) "h" (scheme [b] (kArr (kv b) (kv 2)))) (a := pName "h") (b := pTrue true) (kn3 := pk (pk kn5 (m + 2) kBool) (m + 1) (kv (m + 3))) (by decide) (inf_name (n := 35) (left := 56) (by decide) hh op2) (inf_truth (by decide)) (by
    refine eq_arr (n := 11) (kn1 := pk kn5 (m + 2) kBool) (B := kv (m + 1)) (res_arr (n := 99) (res_none x4) ((res_some (n := 98) x2).trans (res_none (n := 97) x3))) (res_arr (n := 99) res_bool (res_none x5)) ((sd_arr (n := 1) sd_v sd_v).ok (by decide)) ((sd_arr (n := 1) sd_bool sd_v).ok (by decide)) (by rw [ev_aa, ev_va v5]; rfl)
      (eq_left (rv x4) (res_bool (n := 99)) shb (ev_va v5) ⟨_, _, rfl⟩ (has_bool (n := 99)))
      (eq_left (rv ?_) (rv ?_) shv (by rw [ev_vv, decide_eq_false (by omega)]) ⟨_, _, rfl⟩ (by rw [has_v (n := 99), decide_eq_false (by omega)]))
    · rw [lk_pk, if_neg (by omega)]; exact x3
    · rw [lk_pk, if_neg (by omega)]; exact x5)
  generalize hk7 : pk (pk kn5 (m + 2) kBool) (m + 1) (kv (m + 3)) = kn7 at q2
  have y3 : lk kn7 (m + 3) = none := by rw [← hk7, lk_pk, if_neg (by omega), lk_pk, if_neg (by omega)]; exact x5
  have y1 : lk kn7 (m + 1) = some (kv (m + 3)) := by rw [← hk7, lk_pk, if_pos rfl]
  have y2 : lk kn7 2 = some (kv (m + 1)) := by rw [← hk7, lk_pk, if_neg (by omega), lk_pk, if_neg (by omega)]; exact x2
  have fin := inf_fun (n := 39) (left := 60) (x := "x") (kn := []) (m := 2) (sc := scope0) (by decide) ((inf_let (n := 38) (left := 59) (by decide) q c).trans (inf_pair (n := 37) (left := 58) (by decide) q1 q2))
  refine prin_of fin (res_arr (n := 99) ((res_some (n := 98) y2).trans ((res_some (n := 97) y1).trans (res_none (n := 96) y3))) (res_pair (n := 98) ((res_some (n := 97) y1).trans (res_none (n := 96) y3)) (res_none y3))) ?_
  unfold renum
  rw [vars_arr (n := 99) (vars_v (n := 98)) (vars_pair (n := 98) vars_v vars_v)]
  simp only [List.mem_singleton, decide_true, Bool.not_true, List.filter_cons, Bool.false_eq_true, if_false, List.filter_nil, List.append_nil]
  exact put_arr (n := 99) put_here (put_pair (n := 98) put_here put_here)
omit h5 in
/-- a call of fst's own kind at a pair of two plain types -/
theorem call_fst {n : Nat} {sc : Sc} {left : Int} {kn : Kn} {m s t : Int} {a T U : D} (hh : lk sc "f" = some (scheme [s, t] (kArr (kPair (kv s) (kv t)) (kv s)))) (hst : s ≠ t) (hf : Fr m kn) (l0 : left ≠ 0) (l1 : left - 1 ≠ 0)
    (ha : inf (n + 2) a sc (left - 1) kn (m + 2) = some (some (kPair T U, kn, m + 2))) (hT : T = kInt ∧ U = kBool ∨ T = kBool ∧ U = kInt) :
    inf (n + 3) (pCall (pName "f") a) sc left kn m = some (some (kv (m + 2), pk (pk (pk kn m T) (m + 1) U) (m + 2) T, m + 3)) := by
  have f0 := hf m (Int.le_refl _)
  have f1 := hf (m + 1) (by omega)
  have f2 := hf (m + 2) (by omega)
  have op : opn m (scheme [s, t] (kArr (kPair (kv s) (kv t)) (kv s))) = some (kArr (kPair (kv m) (kv (m + 1))) (kv m), m + 2) := by
    show (match intsOf (([s, t] : List Int).map .int) with
      | none => none
      | some is => (put R (fresh m is []) (kArr (kPair (kv s) (kv t)) (kv s))).map fun k' => (k', m + is.length)) = _
    rw [intsOf_map]
    show (put R (pk (pk [] s (kv m)) t (kv (m + 1))) (kArr (kPair (kv s) (kv t)) (kv s))).map _ = _
    have p1 : ∀ {n}, put (n + 1) (pk (pk [] s (kv m)) t (kv (m + 1))) (kv s) = some (kv m) := by
      intro n
      rw [put_v, lk_pk, if_neg hst, lk_pk, if_pos rfl]; rfl
    have p2 : ∀ {n}, put (n + 1) (pk (pk [] s (kv m)) t (kv (m + 1))) (kv t) = some (kv (m + 1)) := by
      intro n
      rw [put_v, lk_pk, if_pos rfl]; rfl
    rw [put_arr (n := 99) (put_pair (n := 98) p1 p2) p1]
    rfl
  have l1' : lk (pk kn m T) (m + 1) = none := by rw [lk_pk, if_neg (by omega)]; exact f1
  have l2' : lk (pk (pk kn m T) (m + 1) U) (m + 2) = none := by rw [lk_pk, if_neg (by omega), lk_pk, if_neg (by omega)]; exact f2
  have l3' : lk (pk (pk kn m T) (m + 1) U) m = some T := by rw [lk_pk, if_neg (by omega), lk_pk, if_pos rfl]
  have e := inf_call (n := n + 2) (m1 := m + 2) (m2 := m + 2) (kn3 := pk (pk (pk kn m T) (m + 1) U) (m + 2) T) l0 (inf_name l1 hh op) ha (by
    rcases hT with ⟨rfl, rfl⟩ | ⟨rfl, rfl⟩
    · exact eq_arr (n := 11) (res_arr (n := 99) (res_pair (n := 98) (res_none f0) (res_none f1)) (res_none f0)) (res_arr (n := 99) (res_pair (n := 98) res_int res_bool) (res_none f2)) ((sd_arr (n := 2) (sd_pair sd_v sd_v) sd_v).ok (by decide)) ((sd_arr (n := 2) (sd_pair sd_int sd_bool) sd_v).ok (by decide)) (by rw [ev_aa, ev_pp, ev_va v4]; rfl)
        (eq_pair (n := 10) (res_pair (n := 99) (res_none f0) (res_none f1)) (res_pair (n := 99) res_int res_bool) ((sd_pair (n := 1) sd_v sd_v).ok (by decide)) ((sd_pair (n := 1) sd_int sd_bool).ok (by decide)) (by rw [ev_pp, ev_va v4]; rfl)
          (eq_left (rv f0) (res_int (n := 99)) shi (ev_va v4) ⟨_, _, rfl⟩ (has_int (n := 99))) (eq_left (rv l1') (res_bool (n := 99)) shb (ev_va v5) ⟨_, _, rfl⟩ (has_bool (n := 99))))
        (eq_right v4 ((res_some (n := 99) l3').trans (res_int (n := 98))) (rv l2') shi (has_int (n := 99)))
    · exact eq_arr (n := 11) (res_arr (n := 99) (res_pair (n := 98) (res_none f0) (res_none f1)) (res_none f0)) (res_arr (n := 99) (res_pair (n := 98) res_bool res_int) (res_none f2)) ((sd_arr (n := 2) (sd_pair sd_v sd_v) sd_v).ok (by decide)) ((sd_arr (n := 2) (sd_pair sd_bool sd_int) sd_v).ok (by decide)) (by rw [ev_aa, ev_pp, ev_va v5]; rfl)
        (eq_pair (n := 10) (res_pair (n := 99) (res_none f0) (res_none f1)) (res_pair (n := 99) res_bool res_int) ((sd_pair (n := 1) sd_v sd_v).ok (by decide)) ((sd_pair (n := 1) sd_bool sd_int).ok (by decide)) (by rw [ev_pp, ev_va v5]; rfl)
          (eq_left (rv f0) (res_bool (n := 99)) shb (ev_va v5) ⟨_, _, rfl⟩ (has_bool (n := 99))) (eq_left (rv l1') (res_int (n := 99)) shi (ev_va v4) ⟨_, _, rfl⟩ (has_int (n := 99))))
        (eq_right v5 ((res_some (n := 99) l3').trans (res_bool (n := 98))) (rv l2') shb (has_bool (n := 99))))
  have z : m + 2 + 1 = m + 3 := by omega
  rw [z] at e
  exact e
def first : D := pCall (pName "f") (pPair (pNum 1) (pTrue true))
def second : D := pCall (pName "f") (pPair (pTrue false) (pNum 2))
theorem law7 : prin (pLet "f" (pCall (wrapR hs) (pName "fst")) (pPair first second)) = some (some (kPair kInt kBool)) := by
  obtain ⟨k, kn, s, w, e, z⟩ := wrap_inf hs (n := 38) (left := 58) (by omega) bs0 sc0 fr0 (by omega) (by omega)
  have zl := z.le
  have zt := z.lt
  have us : lk kn s = none := z.fr s (Int.le_refl _)
  have ut : lk kn (s + 1) = none := z.fr _ (by omega)
  have uc : lk kn (s + 2) = none := z.fr _ (by omega)
  have q := inf_call (n := 38) (left := 59) (kn3 := pk (pk kn w (kArr (kPair (kv s) (kv (s + 1))) (kv s))) (s + 2) (kArr (kPair (kv s) (kv (s + 1))) (kv s))) (by decide) e (inf_name (n := 37) (left := 58) (by decide) bs0.f opn_fst) (by
    refine eq_arr (n := 11) (kn1 := pk kn w (kArr (kPair (kv s) (kv (s + 1))) (kv s))) (res_R z.rs (by omega)) (res_arr (n := 99) (res_arr (n := 98) (res_pair (n := 97) (res_none us) (res_none ut)) (res_none us)) (res_none uc)) saa ((sd_arr (n := 3) (sd_arr (sd_pair sd_v sd_v) sd_v) sd_v).ok (by decide)) (by rw [ev_aa, ev_va v2]; rfl)
      (eq_left (rv z.un) (res_arr (n := 99) (res_pair (n := 98) (res_none us) (res_none ut)) (res_none us)) ((sd_arr (n := 2) (sd_pair sd_v sd_v) sd_v).ok (by decide)) (ev_va v2) ⟨_, _, rfl⟩ (by rw [has_arr (n := 99) (has_pair (n := 98) (has_v (n := 97)) (has_v (n := 97))) (has_v (n := 98)), decide_eq_false (by omega), decide_eq_false (by omega)]; rfl))
      (eq_right v2 ((res_some (n := 99) (k := kArr (kPair (kv s) (kv (s + 1))) (kv s)) (by rw [lk_pk, if_pos rfl])).trans (res_arr (n := 98) (res_pair (n := 97) (res_none ?_) (res_none ?_)) (res_none ?_))) (rv ?_) ((sd_arr (n := 2) (sd_pair sd_v sd_v) sd_v).ok (by decide)) (by rw [has_arr (n := 99) (has_pair (n := 98) (has_v (n := 97)) (has_v (n := 97))) (has_v (n := 98)), decide_eq_false (by omega), decide_eq_false (by omega)]; rfl))
    · rw [lk_pk, if_neg (by omega)]; exact us
    · rw [lk_pk, if_neg (by omega)]; exact ut
    · rw [lk_pk, if_neg (by omega)]; exact us
    · rw [lk_pk, if_neg (by omega)]; exact uc)
  generalize hk3 : pk (pk kn w (kArr (kPair (kv s) (kv (s + 1))) (kv s))) (s + 2) (kArr (kPair (kv s) (kv (s + 1))) (kv s)) = kn3 at q
  have l3 : ∀ i, i ≠ w → i ≠ s + 2 → lk kn3 i = lk kn i := fun i h1 h2 => by rw [← hk3, lk_pk, if_neg h2, lk_pk, if_neg h1]
  have vs' : lk kn3 s = none := (l3 s (by omega) (by omega)).trans us
  have vt : lk kn3 (s + 1) = none := (l3 _ (by omega) (by omega)).trans ut
  have c : cls kn3 (kv (s + 2)) scope0 = some (scheme [s, s + 1] (kArr (kPair (kv s) (kv (s + 1))) (kv s))) := by
    refine cls_of (vs := [s, s + 1]) (taken0 ((l3 0 (by omega) (by omega)).trans (z.ag 0 (by omega))) ((l3 1 (by omega) (by omega)).trans (z.ag 1 (by omega)))) ((res_some (n := 99) (k := kArr (kPair (kv s) (kv (s + 1))) (kv s)) (by rw [← hk3, lk_pk, if_pos rfl])).trans (res_arr (n := 98) (res_pair (n := 97) (res_none vs') (res_none vt)) (res_none vs'))) ?_ (by simp)
    rw [vars_arr (n := 99) (vars_pair (n := 98) vars_v vars_v) vars_v (by have := List.length_filter_le (fun v => !decide (v ∈ [s])) [s + 1]; simp only [List.length_append, List.length_cons, List.length_nil] at *; omega)]
    simp [show ¬ s + 1 = s by omega]
  generalize hm : s + 2 + 1 = m at q
  have f3 : Fr m kn3 := by
    rw [← hk3]
    exact Fr.pk (Fr.pk (z.fr.le (by omega)) (by omega)) (by omega)
  have hh : lk (pk scope0 "f" (scheme [s, s + 1] (kArr (kPair (kv s) (kv (s + 1))) (kv s)))) "f" = some (scheme [s, s + 1] (kArr (kPair (kv s) (kv (s + 1))) (kv s))) := by rw [lk_pk, if_pos rfl]
  have q1 := call_fst (n := 35) (left := 58) (kn := kn3) (m := m) (a := pPair (pNum 1) (pTrue true)) hh (by omega) f3 (by decide) (by decide) (inf_pair (by decide) (inf_num (by decide)) (inf_truth (by decide))) (.inl ⟨rfl, rfl⟩)
  have f4 : Fr (m + 3) (pk (pk (pk kn3 m kInt) (m + 1) kBool) (m + 2) kInt) := Fr.pk (Fr.pk (Fr.pk (f3.le (by omega)) (by omega)) (by omega)) (by omega)
  have q2 := call_fst (n := 35) (left := 58) (m := m + 3) (a := pPair (pTrue false) (pNum 2)) hh (by omega) f4 (by decide) (by decide) (inf_pair (by decide) (inf_truth (by decide)) (inf_num (by decide))) (.inr ⟨rfl, rfl⟩)
  refine prin_of ((inf_let (n := 39) (left := 60) (by decide) q c).trans (inf_pair (n := 38) (left := 59) (by decide) q1 q2)) (res_pair (n := 99) ((res_some (n := 98) (k := kInt) ?_).trans (res_int (n := 97))) ((res_some (n := 98) (k := kBool) ?_).trans (res_bool (n := 97)))) renum_pair
  · rw [lk_pk, if_neg (by omega), lk_pk, if_neg (by omega), lk_pk, if_neg (by omega), lk_pk, if_pos rfl]
  · rw [lk_pk, if_pos rfl]
end
end M63
/-! a list comprehension whose element may let an exception out of a call -/
namespace LX
open PySem PySem.Spec PyProof.Rows L2
/-- an exception that a call in a block has let out -/
def Air (Y : Cx) (E : XK) (u : Value) (s' : Shared) : Prop :=
  XE Y (fun c d _ G => E c d G) u s' ∧ ∃ B l a Z, u = Value.ref a ∧ HandSPX.FlyingZ B l a Z s'.heap
abbrev Blk (X : Cx) (s : Shared) (H : Hp) (sc : Scope) (ce : Env) (fp : List Addr) (E : XK) : Cx :=
  (X.blk s H sc ce fp).tr [] (Air (X.blk s H sc ce fp) E)
theorem blk_ok {X : Cx} {s : Shared} {H : Hp} {sc : Scope} {ce : Env} {fp : List Addr} {E : XK} (k : (Blk X s H sc ce fp E).Ok) : (X.blk s H sc ce fp).Ok := Cx.Ok.ofTry k
theorem blk_to {X : Cx} {s s' : Shared} {H H' : Hp} {sc : Scope} {ce : Env} {fp : List Addr} {E : XK} {σ : L2.St} (I : Inv (X.blk s H sc ce fp) [] σ H' s') : Inv (Blk X s H sc ce fp E) [] σ H' s' :=
  I.toTry (Air (X.blk s H sc ce fp) E)
theorem blk_of {X : Cx} {s s' : Shared} {H H' : Hp} {sc : Scope} {ce : Env} {fp : List Addr} {E : XK} {σ : L2.St} {pins : List (Addr × Obj)} (I : Inv (Blk X s H sc ce fp E) pins σ H' s') : Inv (X.blk s H sc ce fp) pins σ H' s' :=
  ⟨blk_ok I.ok, I.os, I.bare, I.base, I.loc, I.cell, I.free, I.freeC, I.pin, I.hok, I.len⟩
theorem blk_up {X : Cx} {s s' : Shared} {H H' : Hp} {sc : Scope} {ce : Env} {fp : List Addr} {E : XK} {σ : L2.St} {pins : List (Addr × Obj)} (I : Inv (X.blk s H sc ce fp) pins σ H' s') : Inv (Blk X s H sc ce fp E) pins σ H' s' :=
  ⟨(blk_to (E := E) (I.pins_of (pins' := []) fun p hp => (nomatch hp))).ok, I.os, I.bare, I.base, I.loc, I.cell, I.free, I.freeC, I.pin, I.hok, I.len⟩
/-- a call in the block may let out what E takes -/
theorem blk_pass {X : Cx} {s : Shared} {H : Hp} {sc : Scope} {ce : Env} {fp : List Addr} {E E' : XK} (h : ∀ c d G, E' c d G → E c d G) : Passes (L2.CX X.prog X.w) (Blk X s H sc ce fp E) E' := by
  intro pins σ G s1 u s2 I c
  refine ⟨XE.of_call (W := fun c d _ G => E c d G) (blk_of I) (fun c d G q => h c d G q) c, ?_⟩
  obtain ⟨a, B, G', cls, d, e, fl, _⟩ := c
  exact ⟨B, _, a, _, e, fl⟩
/-- without one of its objects -/
theorem hide_one {h : Heap} {C : Addr} : ∃ g : Heap, (∀ b, b ≠ C → g.get? b = h.get? b) ∧ g.get? C = none := by
  obtain ⟨g, g1, g2⟩ := restrict h fun b => decide (b ≠ C)
  exact ⟨g, fun b hb => g1 b (decide_eq_true hb), g2 C (by simp)⟩
theorem ff_but {base h h' : Heap} {C : Addr} (k : ∀ b, b ≠ C → h'.get? b = h.get? b) : ∀ {l : List Env}, C ∉ frs l → h.FunFrames base l → h'.FunFrames base l
  | [], _, _ => trivial
  | e :: r, hc, x => by
    obtain ⟨a, ⟨L, o, f, n, g, d⟩, y⟩ := x
    have z : L ∈ frs (e :: r) := List.mem_filterMap.mpr ⟨e, List.mem_cons_self, f⟩
    have zr : C ∉ frs r := fun q => hc (by
      obtain ⟨e1, m1, f1⟩ := List.mem_filterMap.mp q
      exact List.mem_filterMap.mpr ⟨e1, List.mem_cons_of_mem _ m1, f1⟩)
    exact ⟨a, ⟨L, o, f, n, (k L fun q => hc (q ▸ z)).trans g, d⟩, ff_but k zr y⟩
/-- the exception is noted in the def's frame, the block's names are let go, it goes on in the def -/
theorem air_out {X : Cx} {pins : List (Addr × Obj)} {σ : L2.St} {H3 : Hp} {s3 : Shared} {W : WX} {scope : Scope} {cl : List (Str × Addr)} {fp : List Addr} {C D : Addr} {use : Option (Value → Sem Unit)} {Qf : Value → Shared → Prop} {u : Value} {s' : Shared}
    (hs : X.stack = X.env :: X.outer) (hf : X.env.frame = some X.env.locals) (tk : Takes X W) (I3 : Inv X pins σ H3 s3) (hfp : ∀ b ∈ fp, FpOk X pins H3 b) (hC : s3.heap.objs.size ≤ C)
    (x : Air (X.blk s3 H3 scope (compEnvC scope cl C X.env) fp) (fun c d G => W c d σ G) u s') :
    notedBy (model X.prog X.w) X.A (compEnvC scope cl C X.env) (fun e s2 => compEnds (model X.prog X.w) X.A X.xe use Qf (.ref D) (compEnvC scope cl C X.env) (.error e) s2) u s' := by
  obtain ⟨⟨a, B, sI, p1, σ1, G, cls, d, rfl, I, nb, up, sky, na, os, ag, w⟩, B0, l0, a0, Z0, ea, fl0⟩ := x
  cases ea
  have hfr : X.A.frames = some (X.env :: X.outer) := by
    have z := I3.ok.frames
    rw [hs] at z
    exact z
  have stk : (X.blk s3 H3 scope (compEnvC scope cl C X.env) fp).stack = X.env :: X.outer := hs
  rw [stk] at sky
  have fl : HandSPX.FlyingZ B (X.env :: X.outer) a (Zc cls d) s'.heap := by
    obtain ⟨_, _, _, oe, vs, T, oT, ts, he, _, hd, h1, _, _, hT, hdT, h3⟩ := fl0
    rcases sky with ⟨_, _, _, oe', vs', he', _, hd', h1'⟩ | q | ⟨_, _, _, oe', vs', T', oT', ts', he', _, hd', h1', _, _, hT', hdT', h3'⟩
    · rw [he] at he'; cases he'; rw [hd] at hd'; cases hd'; rw [h1] at h1'; cases h1'
    · exact q
    · rw [he] at he'; cases he'; rw [hd] at hd'; cases hd'; rw [h1] at h1'; cases h1'
      rw [hT] at hT'; cases hT'; rw [hdT] at hdT'; cases hdT'; rw [h3] at h3'; cases h3'
  -- back in the def: the state without the block's names
  have IX : Inv X pins σ G sI := I3.call' (ch := fp) I.os I.base I.hok I.bare fun b hb => ⟨(hfp b hb).2.2.2.1, (hfp b hb).2.1, (hfp b hb).2.2.2.2.1, (hfp b hb).2.2.2.2.2⟩
  have nC : G C = none := I.free
  obtain ⟨f0, f1, f2, f3, f4, f5⟩ := I3.fpOk (H' := G) hC nC
  obtain ⟨m, hm, _⟩ := I.loc
  have hm : sI.heap.Ns C m := hm
  have Cst : C ∉ frs X.stack := fun z => by
    rcases List.mem_cons.mp (I3.stkSub C z) with q | q
    · exact f1 q
    · exact f2 q
  show wpAny _ _ (noteFrame (.ref a) X.env) _ _ _
  refine HandSPX.looks_onZ Zc.steady hfr hf fl fun h1 held up1 => ?_
  have nsC : ∃ m, h1.Ns C m := by
    obtain ⟨o, es, ep, ho, hd, hk, hn⟩ := hm
    have nfd : ∀ vs, o.data ≠ .fields vs := fun vs z => by rw [hd] at z; cases z
    obtain ⟨sl, e1⟩ := up C o ho nfd
    obtain ⟨sl2, e2⟩ := up1 C _ e1 nfd
    exact ⟨m, _, es, ep, e2, hd, hk, hn⟩
  obtain ⟨mc, hmc⟩ := nsC
  have fin : CompFails (model X.prog X.w) X.A X.xe (compEnvC scope cl C X.env) (.ref a) { s' with heap := h1 } := by
    refine ⟨mc, hmc, fun h2 m2 n2 sb => ?_⟩
    obtain ⟨B2, b1, b2⟩ := hide_one (h := B) (C := C)
    obtain ⟨g, g1, g2⟩ := hide_one (h := sI.heap) (C := C)
    have aC : a ≠ C := fun z => by
      obtain ⟨_, _, _, oe, vs, _, _, _, he, _, hd, _⟩ := held
      obtain ⟨o, es, ep, ho, hd2, _⟩ := hmc
      rw [z, ho] at he
      cases he
      rw [hd2] at hd
      cases hd
    have same : ∀ b, b ≠ C → h2.get? b = h1.get? b := fun b hb => sb.2 b hb
    have bs : ∀ b o, B2.get? b = some o → b ≠ C ∧ B.get? b = some o := fun b o e => by
      by_cases hb : b = C
      · rw [hb, b2] at e; cases e
      · exact ⟨hb, by rw [← b1 b hb]; exact e⟩
    have held2 : HandSPX.HeldZ B2 (X.env :: X.outer) a (Zc cls d) X.env.locals h2 := by
      obtain ⟨k1, k2, k3, oe, vs, T, oT, ts, he, hz, hd, e1, nT, hTe, hT, hdT, e3⟩ := held
      have TC : T ≠ C := fun z => by
        obtain ⟨o, es, ep, ho, hd2, _⟩ := hmc
        rw [z, ho] at hT
        cases hT
        rw [hd2] at hdT
        cases hdT
      refine ⟨fun b o e => ?_, by rw [b1 a aC]; exact k2, ?_, oe, vs, T, oT, ts, by rw [same a aC]; exact he, hz, hd, e1, by rw [b1 T TC]; exact nT, hTe, by rw [same T TC]; exact hT, hdT, e3⟩
      · obtain ⟨hb, e'⟩ := bs b o e
        rw [same b hb]
        exact k1 b o e'
      · have q1 : h1.FunFrames B2 (X.env :: X.outer) := funFrames_none k3 fun L hL => by
          cases e : B2.get? L with
          | none => rfl
          | some o =>
            obtain ⟨_, e'⟩ := bs L o e
            obtain ⟨z, _⟩ := k3.mem hL
            rw [z] at e'
            cases e'
        exact ff_but same (hs ▸ Cst) q1
    have ne1 : ∃ oe vs T, h2.get? a = some oe ∧ oe.data = .fields vs ∧ vs[1]? = some (Value.ref T) := by
      obtain ⟨_, _, _, oe, vs, T, _, _, he, _, hd, e1, _⟩ := held2
      exact ⟨oe, vs, T, he, hd, e1⟩
    obtain ⟨oe, vs, T, he2, hd2, e12⟩ := ne1
    unfold PySem.passOn
    refine wpAny_bind (wpAny_field he2 hd2 e12 ?_)
    rw [if_neg (by simp)]
    refine wpAny_bind ?_
    show wpAny _ _ (setFlight (.ref a) X.env.frame) _ _ _
    rw [hf]
    refine HandSPX.setFlight_onZ held2 fun h3 held3 up3 => wpAny_throw (tk _ _ ?_)
    have J : Inv X pins σ G { sI with heap := g } := IX.turned (t' := sI.toks) (it := C) (fun b o hb e => by rw [g1 b hb]; exact e) f0 f1 f3 f4 f5
    refine ⟨a, B2, { sI with heap := g }, pins, σ, G, cls, d, rfl, J, fun b o e hb => ?_, fun b o e nf => ?_, .inr (.inr ?_), na, os, ag, w⟩
    · have hbC : b ≠ C := fun z => by
        have e' : g.get? b = some o := e
        rw [z, g2] at e'
        cases e'
      rw [b1 b hbC]
      refine nb b o ?_ hb
      rw [← g1 b hbC]
      exact e
    · have e' : g.get? b = some o := e
      have hbC : b ≠ C := fun z => by
        rw [z, g2] at e'
        cases e'
      obtain ⟨s5, e5⟩ := up b o (by rw [← g1 b hbC]; exact e') nf
      obtain ⟨s6, e6⟩ := up1 b _ e5 nf
      have e7 : h2.get? b = some { o with slots := s6 } := (same b hbC).trans e6
      obtain ⟨s8, e8⟩ := up3 b _ e7 nf
      exact ⟨s8, e8⟩
    · rw [hs]
      exact held3
  cases use with
  | none => exact fin
  | some _ => exact fin
section
variable {X : Cx}
/-- the reading: what is raised in a turn is wished with the def's own slots -/
def tLcX (W : WX) (wi : TI) (g : TG) (tt : TT) (te : XK → TE) (vs : List Nat) : TE := fun σ H Q => tLc wi g tt (te fun c d G => W c d σ G) vs σ H Q
theorem lcX_core {W : WX} {pins : List (Addr × Obj)} {s : Shared} {σ : L2.St} {H : Hp} {Q : VK} {elt tg iter : Expr} {ifs : List Expr} {scope : Scope} {own : List (Str × Nat)} {pos pos2 : Pos} {wi : TI} {g : TG} {tt : TT} {te : XK → TE} {use : Option (Value → Sem Unit)} {Qf : Value → Shared → Prop}
    (hs : X.stack = X.env :: X.outer) (hf : X.env.frame = some X.env.locals) (tk : Takes X W) (hc : X.calm = true) (hN : X.N.Nodup) (I : Inv X pins σ H s) (hi : PI X tg iter wi) (ok : BlkOk X.N X.env.scope scope own)
    (hg : ∀ s H C cl fp E, PG (Blk X s H scope (compEnvC scope cl C X.env) fp E) tg g) (ht : ∀ s H C cl fp E, PTs (Blk X s H scope (compEnvC scope cl C X.env) fp E) ifs tt)
    (he : ∀ s H C cl fp E, PE (Blk X s H scope (compEnvC scope cl C X.env) fp E) elt (te E)) (hit : ∀ x, foldedSetIterable iter X.env x = pure x)
    (h : tLcX W wi g tt te (own.map (·.2)) σ H Q)
    (hRR : ∀ D s' m H' cl C, Inv X pins σ H' s' → Q (.ref D) H' → s'.heap.Ns C m → FpOk X pins H' C → compEnds (model X.prog X.w) X.A X.xe use Qf (.ref D) (compEnvC scope cl C X.env) (.ok .next) s') :
    wpAny (model X.prog X.w) X.A (comprehension (.ListComp elt [⟨tg, iter, ifs, 0⟩] scope pos) scope X.env pos2 (newList []) false (eval iter X.env) use) Qf X.xe s := by
  have hfree : ∀ y ∈ scope.names, y.2 = .free → ∃ c, X.env.cells.lookup y.1 = some c := fun y hy e => (ok.free y hy e).elim (fun k => I.ok.has _ (.inl k)) fun k => I.ok.has _ (.inr k)
  refine comprehension_at (use := use) rfl hit (closure_ok hfree) ok.kind (fun y hy e => by rw [ok.uniq y hy, e])
    (thn (hi.run pins s σ H _ I h) fun xv s1 hx => thn hx fun itv s2 h2 => ?_)
  obtain ⟨it, fp, tn, J, H2, e, I2, T, st2, f2, q⟩ := h2
  subst e
  refine wpAny_newObj_type (newEnv_comp ?_) (by show 0 ≤ sizeLine; decide)
  generalize hD : s2.heap.objs.size = D
  obtain ⟨Wt, ⟨m0, w0⟩, turn⟩ := q D (I2.hok.fresh (Nat.le_of_eq hD))
  -- the list stands at D
  generalize es3 : ({ s2 with heap := s2.heap.push { cls := .type "list", data := .seq ([] : List Value).toArray } } : Shared) = s3
  have p3 : s3.heap = s2.heap.push { cls := .type "list", data := .seq ([] : List Value).toArray } := by rw [← es3]
  have I3 : Inv X pins σ (upd H2 D (.lst [])) s3 := by
    rw [← es3]
    refine I2.laid (t' := s2.toks) (fun b o z => Heap.get?_push_of_some _ z) (Nat.le_of_eq hD) ⟨Nat.zero_le _, [], 0, .nil, ?_⟩
    rw [← hD]
    exact Heap.get?_push_size _ rfl
  have lt3 : ∀ b ∈ fp, b < D := fun b hb => by
    obtain ⟨o, z, _⟩ := T.obj _ _ st2 b hb
    rw [← hD]
    exact Heap.lt_size z
  have f3 : ∀ b ∈ fp, FpOk X pins (upd H2 D (.lst [])) b ∧ b < s3.heap.objs.size := fun b hb => by
    refine ⟨⟨?_, (f2 b hb).2⟩, ?_⟩
    · rw [upd_ne (Nat.ne_of_lt (lt3 b hb))]
      exact (f2 b hb).1
    · rw [p3, Heap.size_push, hD]
      exact Nat.lt_succ_of_lt (lt3 b hb)
  have st3 : tn 0 s3.heap := T.keep _ _ _ st2 fun b _ o z => by
    rw [p3]
    exact Heap.get?_push_of_some _ z
  generalize ecl : cellsFrom (s3.heap.objs.size + 1) scope.names (cloFrom X.env.cells scope.names []) = cl
  have I4 := block_start I3 ok hN f3
  rw [ecl] at I4
  have ends : ∀ u s', Air (X.blk s3 (upd H2 D (.lst [])) scope (compEnvC scope cl s3.heap.objs.size X.env) fp) (fun c d G => W c d σ G) u s' →
      notedBy (model X.prog X.w) X.A (compEnvC scope cl s3.heap.objs.size X.env) (fun e s2 => compEnds (model X.prog X.w) X.A X.xe use Qf (.ref D) (compEnvC scope cl s3.heap.objs.size X.env) (.error e) s2) u s' :=
    fun u s' x => air_out hs hf tk I3 (fun b hb => (f3 b hb).1) (Nat.le_refl _) x
  have pg := hg s3 (upd H2 D (.lst [])) s3.heap.objs.size cl fp fun c d G => W c d σ G
  have pt := ht s3 (upd H2 D (.lst [])) s3.heap.objs.size cl fp fun c d G => W c d σ G
  have pe := he s3 (upd H2 D (.lst [])) s3.heap.objs.size cl fp fun c d G => W c d σ G
  show codeAny _ _ (.compStart (.ListComp elt [⟨tg, iter, ifs, 0⟩] scope pos) 0 (.ref it) (.ref D) (compEnvC scope cl s3.heap.objs.size X.env)) (compEnds (model X.prog X.w) X.A X.xe use Qf (.ref D) (compEnvC scope cl s3.heap.objs.size X.env)) { s3 with heap := pushCells (s3.heap.push { cls := .type "dict", data := .dict #[] }) scope.names }
  have nfp : ∀ b ∈ fp, (upd H2 D (.lst [])) b = none := fun b hb => (f3 b hb).1.1
  generalize eC : s3.heap.objs.size = C at I4 pg pt pe ends f3 ⊢
  generalize eH3 : upd H2 D (.lst []) = H3 at I3 I4 pg pt pe w0 nfp f3 ends
  generalize es4 : ({ s3 with heap := pushCells (s3.heap.push { cls := .type "dict", data := .dict #[] }) scope.names } : Shared) = s4 at I4 ⊢
  have st4 : tn 0 s4.heap := T.keep _ _ _ st3 fun b _ o z => by
    rw [← es4]
    exact pushCells_keeps _ _ _ _ (Heap.get?_push_of_some _ z)
  generalize eY : Blk X s3 H3 scope (compEnvC scope cl C X.env) fp (fun c d G => W c d σ G) = Y at pg pt pe
  have yx : Y.xe = Air (X.blk s3 H3 scope (compEnvC scope cl C X.env) fp) (fun c d G => W c d σ G) := by rw [← eY]
  have yof : ∀ {p σ' H' s'}, Inv Y p σ' H' s' → Inv (X.blk s3 H3 scope (compEnvC scope cl C X.env) fp) p σ' H' s' := fun I' => by
    rw [← eY] at I'
    exact blk_of I'
  have yto : ∀ {p σ' H' s'}, Inv (X.blk s3 H3 scope (compEnvC scope cl C X.env) fp) p σ' H' s' → Inv Y p σ' H' s' := fun I' => by
    rw [← eY]
    exact blk_up I'
  have stat : ∀ {σ' : L2.St} {H' : Hp} {s' : Shared}, Inv (X.blk s3 H3 scope (compEnvC scope cl C X.env) fp) [] σ' H' s' → (∀ b ∈ fp, H' b = none) → ∀ b ∈ fp, FpOk (X.blk s3 H3 scope (compEnvC scope cl C X.env) fp) [] H' b := fun {σ' H' s'} I' hn b hb =>
    ⟨hn b hb, (I'.ok.exf b hb).1, I'.ok.exfs b hb, .inl hb, fun x c z => (I'.ok.exf b hb).2 x c z, fun p hp => absurd (show p ∈ ([] : List (Addr × Obj)) ++ [] from hp) (by simp)⟩
  have cL : (compEnvC scope cl C X.env).locals = C := rfl
  have loop : codeAny (model X.prog X.w) X.A (.compLoop (.ListComp elt [⟨tg, iter, ifs, 0⟩] scope pos) 0 (.ref it) (.ref D) (compEnvC scope cl C X.env)) (compEnds (model X.prog X.w) X.A X.xe use Qf (.ref D) (compEnvC scope cl C X.env)) s4 := by
    refine compLoop_any (fun n s' => ∃ i H', Inv (X.blk s3 H3 scope (compEnvC scope cl C X.env) fp) [] (wipe σ (own.map (·.2))) H' s' ∧ tn i s'.heap ∧ (∀ b ∈ fp, H' b = none) ∧ Wt i n H') ?_ m0 ⟨0, H3, I4, st4, nfp, w0⟩
    rintro n s5 ⟨i, H5, I5, st5, n5, w5⟩
    rcases turn i n H5 w5 with ⟨stop, qq⟩ | ⟨go, Nx, hNx, step⟩
    · refine thnF (T.done (X.blk s3 H3 scope (compEnvC scope cl C X.env) fp) rfl rfl rfl hc i [] s5 _ H5 (fun _ _ => False) I5 (stat I5 n5) st5 stop) fun r s6 ⟨hr, I6⟩ => ?_
      subst hr
      have I7 : Inv X pins σ H5 s6 := I3.call' (ch := fp) I6.os I6.base I6.hok I6.bare fun b hb => ⟨(f3 b hb).1.2.2.2.1, (f3 b hb).1.2.1, (f3 b hb).1.2.2.2.2.1, (f3 b hb).1.2.2.2.2.2⟩
      have nC : H5 C = none := I6.free
      obtain ⟨m, hn, _⟩ := I6.loc
      exact hRR D s6 m H5 cl C I7 qq hn (I3.fpOk (Nat.le_of_eq eC) nC)
    · refine thnF (T.item (X.blk s3 H3 scope (compEnvC scope cl C X.env) fp) rfl rfl rfl hc i [] s5 _ H5 (fun _ _ => False) I5 (stat I5 n5) st5 go) fun r s6 ⟨u, hr, h6⟩ => ?_
      subst hr
      refine thnF h6 fun _ s7 ⟨x, H7, I7, r7, y7, st7, n7⟩ => ?_
      have I7' := yto (I7.pinned (stat I7 n7) (T.obj _ _ st7))
      have onY : ∀ {α : Type} {m : Sem α} {Q1 Q2 : α → Shared → Prop} {sa : Shared}, wpAny (model Y.prog Y.w) Y.A m Q1 Y.xe sa → (∀ a sb, Q1 a sb → Q2 a sb) →
          wpAny (model X.prog X.w) X.A m Q2 (notedBy (model X.prog X.w) X.A (compEnvC scope cl C X.env) fun e s2 => compEnds (model X.prog X.w) X.A X.xe use Qf (.ref D) (compEnvC scope cl C X.env) (.error e) s2) sa := fun hm hq => by
        have e1 : model Y.prog Y.w = model X.prog X.w := by rw [← eY]
        have e2 : Y.A = X.A := by rw [← eY]
        rw [e1, e2, yx] at hm
        exact wpAny_mono hm hq fun u sb z => ends u sb z
      have eenv : Y.env = compEnvC scope cl C X.env := by rw [← eY]
      have pg' := pg.run _ s7 _ H7 x u _ I7' r7 (step x H7 y7)
      rw [eenv] at pg'
      refine onY pg' fun _ s8 ⟨σ8, H8, I8, hw8, q8⟩ => ?_
      have pt' := pt.run _ s8 σ8 H8 _ I8 q8
      rw [eenv] at pt'
      refine onY pt' fun b s9 ⟨H9, I9, q9⟩ => ?_
      have fin : ∀ {s' : Shared} {H' : Hp}, Inv Y ([] ++ pinsAt fp s7.heap) σ8 H' s' → Nx H' → ∃ m, m < n ∧ ∃ i H', Inv (X.blk s3 H3 scope (compEnvC scope cl C X.env) fp) [] (wipe σ (own.map (·.2))) H' s' ∧ tn i s'.heap ∧ (∀ b ∈ fp, H' b = none) ∧ Wt i m H' := fun {s' H'} IY nx => by
        have I' := yof IY
        obtain ⟨m', hm, w'⟩ := hNx H' nx
        have pin' : ∀ b ∈ fp, ∀ o, s7.heap.get? b = some o → s'.heap.get? b = some o ∧ H' b = none := fun b hb o e =>
          let z := I'.pin (b, o) (List.mem_append_right _ (List.mem_append_right _ (mem_pinsAt hb e)))
          ⟨z.1, z.2.1⟩
        refine ⟨m', hm, i + 1, H', (I'.unpinned (pins := [])).weak (by rw [← hw8, wipe_length]) (fun j v e => ?_), T.keep _ _ _ st7 fun b hb o e => (pin' b hb o e).1, fun b hb => ?_, w'⟩
        · rw [← hw8] at e
          exact (wipe_some e).1
        · obtain ⟨o, e, _⟩ := T.obj _ _ st7 b hb
          exact (pin' b hb o e).2
      cases b with
      | false => exact fin I9 q9
      | true =>
        have pe' := pe.run _ s9 σ8 H9 _ I9 q9
        rw [eenv] at pe'
        refine onY pe' fun z s10 ⟨yv, H10, I10, r10, acc, hD10, hz10, nx⟩ => ?_
        exact app_ok (X := X.blk s3 H3 scope (compEnvC scope cl C X.env) fp) (yof I10) hD10 hz10 r10 fun s11 I11 => fin (yto I11) nx
  exact codeAny_compStart_list loop (T.self X.A 0 _ _ _ st4 loop)
/-- [..] as a value; name = [..] -/
theorem pe_lcX {W : WX} {elt tg iter : Expr} {ifs : List Expr} {scope : Scope} {own : List (Str × Nat)} {pos : Pos} {wi : TI} {g : TG} {tt : TT} {te : XK → TE}
    (hs : X.stack = X.env :: X.outer) (hf : X.env.frame = some X.env.locals) (tk : Takes X W) (hc : X.calm = true) (hN : X.N.Nodup) (hi : PI X tg iter wi) (ok : BlkOk X.N X.env.scope scope own)
    (hg : ∀ s H C cl fp E, PG (Blk X s H scope (compEnvC scope cl C X.env) fp E) tg g) (ht : ∀ s H C cl fp E, PTs (Blk X s H scope (compEnvC scope cl C X.env) fp E) ifs tt)
    (he : ∀ s H C cl fp E, PE (Blk X s H scope (compEnvC scope cl C X.env) fp E) elt (te E)) (hit : ∀ x, foldedSetIterable iter X.env x = pure x := by intro _; rfl) :
    PE X (.ListComp elt [⟨tg, iter, ifs, 0⟩] scope pos) (tLcX W wi g tt te (own.map (·.2))) := by
  refine ⟨fun pins s σ H Q I h => ?_⟩
  rw [eval_ListComp]
  refine lcX_core hs hf tk hc hN I hi ok hg ht he hit h fun D s' m H' cl C I' q hn f => ⟨m, hn, fun h2 sb => ?_⟩
  obtain ⟨f0, f1, _, f3, f4, f5⟩ := f
  exact ⟨.ref D, H', I'.turned (t' := s'.toks) (it := C) (fun b o hb e => (sb.2 b hb).trans e) f0 f1 f3 f4 f5, rfl, q⟩
theorem ps_lcX {W : WX} {i : Nat} {y : Str} {py : Pos} {elt tg iter : Expr} {ifs : List Expr} {scope : Scope} {own : List (Str × Nat)} {pos spos : Pos} {wi : TI} {g : TG} {tt : TT} {te : XK → TE}
    (hs : X.stack = X.env :: X.outer) (hf : X.env.frame = some X.env.locals) (tk : Takes X W) (hc : X.calm = true) (hN : X.N.Nodup) (hy : X.N[i]? = some y) (hyl : X.env.scope.names.lookup y = some .local)
    (hsw : swapsWith (.ListComp elt [⟨tg, iter, ifs, 0⟩] scope pos) (some (.Name y py)) spos.line X.env = pure true) (hi : PI X tg iter wi) (ok : BlkOk X.N X.env.scope scope own)
    (hg : ∀ s H C cl fp E, PG (Blk X s H scope (compEnvC scope cl C X.env) fp E) tg g) (ht : ∀ s H C cl fp E, PTs (Blk X s H scope (compEnvC scope cl C X.env) fp E) ifs tt)
    (he : ∀ s H C cl fp E, PE (Blk X s H scope (compEnvC scope cl C X.env) fp E) elt (te E)) (hit : ∀ x, foldedSetIterable iter X.env x = pure x := by intro _; rfl) :
    PS X (.Assign [.Name y py] (.ListComp elt [⟨tg, iter, ifs, 0⟩] scope pos) spos) (tAsg (tLcX W wi g tt te (own.map (·.2))) (gName i)) := by
  refine ⟨fun pins s σ H Dn I h => ?_⟩
  rw [exec_Assign_Name_used _ _ _ _ hsw]
  refine wpAny_bind (wpAny_standAt (wpAny_bind ?_))
  have h : tLcX W wi g tt te (own.map (·.2)) σ H (fun x H1 => gName i x σ H1 Dn.nx) := h
  refine wpAny_bind (thn (lcX_core (Qf := fun _ s' => SP X pins Dn .next s') hs hf tk hc hN I hi ok hg ht he hit h fun L s' m H' cl C I' q hn f => ?_) fun _ s' hq => wpAny_pure (wpAny_pure hq))
  obtain ⟨f0, f1, _, f3, f4, f5⟩ := f
  refine wpAny_assign_Name (store_ok2 (v := V.ref L) I' hN hy (.inl hyl) rfl (fun s2 I2 ⟨a, sb, ha⟩ => ?_) (.inr hyl))
  have haC : C ≠ a := fun z => ha.elim (fun r => f1 (z.trans r)) fun r => f4 _ _ r z.symm
  refine ⟨m, hn.sameBut sb haC, fun h2 sb2 => ?_⟩
  exact ⟨_, H', I2.turned (t' := s2.toks) (it := C) (fun b o hb e => (sb2.2 b hb).trans e) f0 f1 f3 f4 f5, q⟩
end
end LX
/-! The walk of the typer, part 1: how data lies in the heap; fresh, resolved, has, put_in -/
namespace W63
open PySem L2 M63
def top (i : Nat) : Stmt := PySem.Challenge.pw_proofhouse_k63_whole_lets_stand_for_all.main.body.getD i (.Pass ⟨0, 0, 0, 0⟩)
/-! ### data in the heap: words, numbers, truths, tuples of them -/
/-- a tuple that is tracked or written -/
def Tq (K : PySem.W.Frag) (H : Hp) (a : Addr) (xs : List V) : Prop := H a = some (.tup xs) ∨ SqT K (fun _ => none) a xs
theorem Tq.seq {K : PySem.W.Frag} {H : Hp} {a : Addr} {xs : List V} (h : Tq K H a xs) : SqT K H a xs := by
  rcases h with h | (h | ⟨o, h⟩) | h
  · exact .inl (.inl h)
  · cases h
  · cases h
  · exact .inr h
/-- no tuple is changed -/
def TT (H H' : Hp) : Prop := ∀ b xs, H b = some (.tup xs) → H' b = some (.tup xs)
theorem TT.refl {H : Hp} : TT H H := fun _ _ h => h
theorem TT.same {H H' : Hp} (e : Same H H') : TT H H' := fun b _ h => e b _ h
theorem TT.trans {H H1 H2 : Hp} (a : TT H H1) (b : TT H1 H2) : TT H H2 := fun c xs h => b c xs (a c xs h)
theorem TT.upd {H : Hp} {a : Addr} {o u : HO} (h : H a = some o) (hn : ∀ xs, o ≠ .tup xs) : TT H (upd H a u) := fun b xs q => by
  rw [upd_ne fun z => ?_]
  · exact q
  · rw [z, h] at q
    cases q
    exact hn xs rfl
theorem TT.new {H : Hp} {a : Addr} {u : HO} (h : H a = none) : TT H (L2.upd H a u) := fun b xs q => by rw [upd_ne (ne_of_none q h)]; exact q
theorem Tq.tt {K : PySem.W.Frag} {H H' : Hp} {a : Addr} {xs : List V} (e : TT H H') (h : Tq K H a xs) : Tq K H' a xs := h.imp (e a xs) id
mutual
inductive Td (K : PySem.W.Frag) (H : Hp) : V → PyData → Prop
  | bl (b : Bool) : Td K H (.bl b) (.bool b)
  | int (i : Int) : Td K H (.int i) (.int i)
  | str (x : Str) : Td K H (.str x) (.str x)
  | tup {a : Addr} {xs : List V} {ds : List PyData} : Tq K H a xs → TdA K H xs ds → Td K H (.ref a) (.tuple ds)
inductive TdA (K : PySem.W.Frag) (H : Hp) : List V → List PyData → Prop
  | nil : TdA K H [] []
  | cons {v : V} {vs : List V} {d : PyData} {ds : List PyData} : Td K H v d → TdA K H vs ds → TdA K H (v :: vs) (d :: ds)
end
mutual
theorem Td.tt {K : PySem.W.Frag} {H H' : Hp} (e : TT H H') : ∀ {d : PyData} {v : V}, Td K H v d → Td K H' v d
  | .none, _, h => by cases h
  | .bool b, _, h => by cases h; exact .bl b
  | .int i, _, h => by cases h; exact .int i
  | .str x, _, h => by cases h; exact .str x
  | .list ds, _, h => by cases h
  | .tuple ds, _, h => by
    cases h with
    | tup hs ha => exact .tup (hs.tt e) (TdA.tt e ha)
  | .dict _, _, h => by cases h
theorem TdA.tt {K : PySem.W.Frag} {H H' : Hp} (e : TT H H') : ∀ {ds : List PyData} {vs : List V}, TdA K H vs ds → TdA K H' vs ds
  | [], _, h => by cases h; exact .nil
  | d :: ds, _, h => by
    cases h with
    | cons h1 h2 => exact .cons (Td.tt e h1) (TdA.tt e h2)
end
mutual
theorem Td.dp {K : PySem.W.Frag} {H : Hp} : ∀ {d : PyData} {v : V}, Td K H v d → Dp K H v d
  | .none, _, h => by cases h
  | .bool b, _, h => by cases h; exact .bl b
  | .int i, _, h => by cases h; exact .int i
  | .str x, _, h => by cases h; exact .str x
  | .list ds, _, h => by cases h
  | .tuple ds, _, h => by
    cases h with
    | tup hs ha => exact .tup hs.seq (TdA.dp ha)
  | .dict _, _, h => by cases h
theorem TdA.dp {K : PySem.W.Frag} {H : Hp} : ∀ {ds : List PyData} {vs : List V}, TdA K H vs ds → DpAll K H vs ds
  | [], _, h => by cases h; exact .nil
  | d :: ds, _, h => by
    cases h with
    | cons h1 h2 => exact .cons (Td.dp h1) (TdA.dp h2)
end
theorem TdA.len {K : PySem.W.Frag} {H : Hp} : ∀ {vs : List V} {ds : List PyData}, TdA K H vs ds → vs.length = ds.length
  | _, _, .nil => rfl
  | _, _, .cons _ t => congrArg (· + 1) (TdA.len t)
theorem TdA.get {K : PySem.W.Frag} {H : Hp} : ∀ {vs : List V} {ds : List PyData} {i : Nat} {v : V}, TdA K H vs ds → vs[i]? = some v → ∃ d, ds[i]? = some d ∧ Td K H v d
  | _, _, _, _, .nil, e => by simp at e
  | _, _, 0, _, .cons h _, e => by simp at e; subst e; exact ⟨_, rfl, h⟩
  | _, _, i + 1, _, .cons _ t, e => by
    obtain ⟨d, h1, h2⟩ := TdA.get (i := i) t (by simpa using e)
    exact ⟨d, by simpa using h1, h2⟩
theorem TdA.app {K : PySem.W.Frag} {H : Hp} : ∀ {vs us : List V} {ds es : List PyData}, TdA K H vs ds → TdA K H us es → TdA K H (vs ++ us) (ds ++ es)
  | _, _, _, _, .nil, h => h
  | _, _, _, _, .cons a t, h => .cons a (TdA.app t h)
/-- a datum that is a word and parts -/
theorem Td.node {K : PySem.W.Frag} {H : Hp} {v : V} {w : Str} {ps : List PyData} (h : Td K H v (.tuple (.str w :: ps))) : ∃ a xs, v = .ref a ∧ Tq K H a (.str w :: xs) ∧ TdA K H xs ps := by
  cases h with
  | tup hs ha =>
    cases ha with
    | cons h1 h2 =>
      cases h1
      exact ⟨_, _, rfl, hs, h2⟩
theorem Td.eqInt {K : PySem.W.Frag} {H : Hp} {v : V} {i : Int} (h : Td K H v (.int i)) : v = .int i := by cases h; rfl
theorem Td.eqStr {K : PySem.W.Frag} {H : Hp} {v : V} {x : Str} (h : Td K H v (.str x)) : v = .str x := by cases h; rfl
theorem same_new {H : Hp} {p : Addr} (h : H p = none) (o : HO) : Same H (upd H p o) := fun b u q => by rw [upd_ne (ne_of_none q h)]; exact q
theorem same_to {H H1 : Hp} {p : Addr} {o : HO} (e : Same H H1) (h : H p = none) : Same H (upd H1 p o) := fun b u q => by rw [upd_ne (ne_of_none q h)]; exact e b u q
/-- a new tuple -/
theorem Td.new {K : PySem.W.Frag} {H : Hp} {p : Addr} {xs : List V} {ds : List PyData} (hp : H p = none) (h : TdA K H xs ds) : Td K (upd H p (.tup xs)) (.ref p) (.tuple ds) :=
  .tup (.inl upd_same) (h.tt (TT.new hp))
/-! ### the typer -/
theorem kc : ¬ ("known" : Str) = "made" := by decide +kernel
def flds (d : Addr) (m : Int) : List (Str × V) := putF "made" (.int m) (putF "known" (.ref d) [])
theorem flds_eq (d : Addr) (m : Int) : flds d m = ([("known", V.ref d), ("made", V.int m)] : List (Str × V)) := by
  show (if ("known" : Str) = "made" then [(("known" : Str), V.int m)] else (("known" : Str), V.ref d) :: putF "made" (V.int m) []) = _
  rw [if_neg kc]
  rfl
theorem flds_known (d : Addr) (m : Int) : (flds d m).lookup ("known" : Str) = some (.ref d) := by
  unfold flds
  rw [lookup_putF, if_neg kc, lookup_putF, if_pos rfl]
theorem flds_made (d : Addr) (m : Int) : (flds d m).lookup ("made" : Str) = some (.int m) := by
  unfold flds
  rw [lookup_putF, if_pos rfl]
theorem flds_no (d : Addr) (m : Int) {x : Str} (h1 : ¬ x = "made") (h2 : ¬ x = "known") : (flds d m).lookup x = none := by
  unfold flds
  rw [lookup_putF, if_neg h1, lookup_putF, if_neg h2]
  rfl
theorem flds_put (d : Addr) (m n : Int) : putF "made" (.int n) (flds d m) = flds d n := by
  rw [flds_eq, flds_eq]
  show (if ("known" : Str) = "made" then _ else (("known" : Str), V.ref d) :: (if ("made" : Str) = "made" then [(("made" : Str), V.int n)] else _)) = _
  rw [if_neg kc, if_pos rfl]
/-- a typer at p, its dict at d -/
structure TyAt (C : Addr) (H : Hp) (p d : Addr) (kvs : List (Key × V)) (m : Int) : Prop where
  ob : ∃ dx, H p = some (.ins C dx (flds d m))
  dc : H d = some (.dK kvs)
/-- all but the typer's two objects stays -/
def Sm (p d : Addr) (H H' : Hp) : Prop := ∀ b o, H b = some o → b ≠ p → b ≠ d → H' b = some o
theorem Sm.same {p d : Addr} {H H' : Hp} (e : Same H H') : Sm p d H H' := fun b o h _ _ => e b o h
theorem Sm.trans {p d : Addr} {H H1 H2 : Hp} (a : Sm p d H H1) (b : Sm p d H1 H2) : Sm p d H H2 := fun c o h h1 h2 => b c o (a c o h h1 h2) h1 h2
theorem TyAt.same {C : Addr} {H H' : Hp} {p d : Addr} {kvs : List (Key × V)} {m : Int} (t : TyAt C H p d kvs m) (e : Same H H') : TyAt C H' p d kvs m :=
  ⟨let ⟨dx, h⟩ := t.ob; ⟨dx, e _ _ h⟩, e _ _ t.dc⟩
theorem TyAt.tt {C : Addr} {H H' : Hp} {p d : Addr} {kvs : List (Key × V)} {m : Int} (t : TyAt C H p d kvs m) (e : Sm p d H H') : TT H H' := fun b xs h => by
  refine e b _ h (fun z => ?_) fun z => ?_
  · obtain ⟨dx, h'⟩ := t.ob
    rw [z, h'] at h
    cases h
  · rw [z, t.dc] at h
    cases h
/-! ### tables -/
section
variable {κ : Type} [DecidableEq κ] (e : κ → Key) (RV : V → D → Prop)
def TabR : List (Key × V) → List (κ × D) → Prop
  | [], [] => True
  | (k, v) :: r, (i, d) :: s => k = e i ∧ RV v d ∧ TabR r s
  | _, _ => False
variable {e RV}
theorem TabR.imp {RV2 : V → D → Prop} (t : ∀ v d, RV v d → RV2 v d) : ∀ {kvs : List (Key × V)} {tab : List (κ × D)}, TabR e RV kvs tab → TabR e RV2 kvs tab
  | [], [], _ => trivial
  | (_, _) :: _, (_, _) :: _, ⟨h1, h2, h3⟩ => ⟨h1, t _ _ h2, TabR.imp t h3⟩
  | [], _ :: _, h => h.elim
  | _ :: _, [], h => h.elim
theorem TabR.len : ∀ {kvs : List (Key × V)} {tab : List (κ × D)}, TabR e RV kvs tab → kvs.length = tab.length
  | [], [], _ => rfl
  | (_, _) :: _, (_, _) :: _, ⟨_, _, h⟩ => congrArg (· + 1) (TabR.len h)
  | [], _ :: _, h => h.elim
  | _ :: _, [], h => h.elim
theorem lkc {a : κ × D} {r : List (κ × D)} {i : κ} : lk (a :: r) i = if a.1 = i then some a.2 else lk r i := by
  unfold lk
  rw [List.find?_cons]
  by_cases h : a.1 = i <;> simp [h]
theorem TabR.val (inj : ∀ a b, e a = e b → a = b) (i : κ) : ∀ {kvs : List (Key × V)} {tab : List (κ × D)}, TabR e RV kvs tab →
    (∀ d, lk tab i = some d → ∃ v, valV kvs (e i) = some v ∧ RV v d) ∧ (lk tab i = none → valV kvs (e i) = none)
  | [], [], _ => ⟨fun d h => (nomatch (show (none : Option D) = some d from h)), fun _ => rfl⟩
  | (k, v) :: r, (j, d) :: s, ⟨h1, h2, h3⟩ => by
    subst h1
    have ih := TabR.val inj i h3
    by_cases hj : j = i
    · subst hj
      rw [lkc, if_pos rfl, valV_pos rfl]
      exact ⟨fun d' q => by cases q; exact ⟨v, rfl, h2⟩, fun q => nomatch q⟩
    · rw [lkc, if_neg hj, valV_neg fun q => hj (inj _ _ q)]
      exact ih
  | [], _ :: _, h => h.elim
  | _ :: _, [], h => h.elim
theorem TabR.any (inj : ∀ a b, e a = e b → a = b) (i : κ) : ∀ {kvs : List (Key × V)} {tab : List (κ × D)}, TabR e RV kvs tab → (kvs.any fun kv => decide (kv.1 = e i)) = tab.any fun a => decide (a.1 = i)
  | [], [], _ => rfl
  | (k, v) :: r, (j, d) :: s, ⟨h1, h2, h3⟩ => by
    subst h1
    rw [List.any_cons, List.any_cons, TabR.any inj i h3]
    by_cases hj : j = i
    · subst hj; simp
    · rw [decide_eq_false hj, decide_eq_false (fun q => hj (inj _ _ q))]
  | [], _ :: _, h => h.elim
  | _ :: _, [], h => h.elim
theorem TabR.mapk (inj : ∀ a b, e a = e b → a = b) {i : κ} {v : V} {d : D} (hd : RV v d) : ∀ {kvs : List (Key × V)} {tab : List (κ × D)}, TabR e RV kvs tab →
    TabR e RV (kvs.map fun kv => if kv.1 = e i then (kv.1, v) else kv) (tab.map fun a => if a.1 = i then (a.1, d) else a)
  | [], [], _ => trivial
  | (k, u) :: r, (j, x) :: s, ⟨h1, h2, h3⟩ => by
    subst h1
    have ih := TabR.mapk inj (i := i) hd h3
    by_cases hj : j = i
    · subst hj
      rw [List.map_cons, List.map_cons, if_pos rfl, if_pos rfl]
      exact ⟨rfl, hd, ih⟩
    · rw [List.map_cons, List.map_cons, if_neg hj, if_neg fun q => hj (inj _ _ q)]
      exact ⟨rfl, h2, ih⟩
  | [], _ :: _, h => h.elim
  | _ :: _, [], h => h.elim
theorem TabR.snoc {i : κ} {v : V} {d : D} (hd : RV v d) : ∀ {kvs : List (Key × V)} {tab : List (κ × D)}, TabR e RV kvs tab → TabR e RV (kvs ++ [(e i, v)]) (tab ++ [(i, d)])
  | [], [], _ => ⟨rfl, hd, trivial⟩
  | (_, _) :: _, (_, _) :: _, ⟨h1, h2, h3⟩ => ⟨h1, h2, TabR.snoc hd h3⟩
  | [], _ :: _, h => h.elim
  | _ :: _, [], h => h.elim
theorem TabR.put (inj : ∀ a b, e a = e b → a = b) {i : κ} {v : V} {d : D} {kvs : List (Key × V)} {tab : List (κ × D)} (hd : RV v d) (h : TabR e RV kvs tab) : TabR e RV (putK kvs (e i) v) (pk tab i d) := by
  unfold putK pk
  rw [h.any inj i]
  split
  · exact h.mapk inj hd
  · exact h.snoc hd
end
/-- what is known of variables; names for numbers -/
abbrev KnR (K : PySem.W.Frag) (H : Hp) (kvs : List (Key × V)) (kn : Kn) : Prop := TabR (Sum.inl : Int → Key) (Td K H) kvs kn
theorem KnR.tt {K : PySem.W.Frag} {H H' : Hp} {kvs : List (Key × V)} {kn : Kn} (h : KnR K H kvs kn) (e : TT H H') : KnR K H' kvs kn := TabR.imp (fun _ _ x => x.tt e) h
/-- a scheme -/
def SchR (K : PySem.W.Frag) (H : Hp) (v : V) (s : D) : Prop := ∃ a l u ns k, v = .ref a ∧ s = scheme ns k ∧ Tq K H a [.ref l, u] ∧ H l = some (.lst (ns.map .int)) ∧ ns.length ≤ 1000 ∧ Td K H u k
theorem SchR.mono {K : PySem.W.Frag} {H H' : Hp} {v : V} {s : D} (h : SchR K H v s) (e : TT H H') (g : ∀ b xs, H b = some (.lst xs) → H' b = some (.lst xs)) : SchR K H' v s := by
  obtain ⟨a, l, u, ns, k, h1, h2, h3, h4, h5, h6⟩ := h
  exact ⟨a, l, u, ns, k, h1, h2, h3.tt e, g _ _ h4, h5, h6.tt e⟩
theorem SchR.same {K : PySem.W.Frag} {H H' : Hp} {v : V} {s : D} (h : SchR K H v s) (e : Same H H') : SchR K H' v s := h.mono (TT.same e) fun b xs q => e b _ q
abbrev ScR (K : PySem.W.Frag) (H : Hp) (kvs : List (Key × V)) (sc : Sc) : Prop := TabR (Sum.inr : Str → Key) (SchR K H) kvs sc
theorem ScR.same {K : PySem.W.Frag} {H H' : Hp} {kvs : List (Key × V)} {sc : Sc} (h : ScR K H kvs sc) (e : Same H H') : ScR K H' kvs sc := TabR.imp (fun _ _ x => x.same e) h
theorem ScR.sm {K : PySem.W.Frag} {H H' : Hp} {p d C : Addr} {k2 : List (Key × V)} {m : Int} {kvs : List (Key × V)} {sc : Sc} (h : ScR K H kvs sc) (t : TyAt C H p d k2 m) (e : Sm p d H H') : ScR K H' kvs sc :=
  TabR.imp (fun _ _ x => x.mono (t.tt e) fun b xs q => e b _ q (fun z => by
    obtain ⟨dx, h'⟩ := t.ob
    rw [z, h'] at q
    cases q) fun z => by
    rw [z, t.dc] at q
    cases q) h
theorem inj_l : ∀ a b : Int, (Sum.inl a : Key) = Sum.inl b → a = b := fun _ _ h => Sum.inl.inj h
theorem inj_r : ∀ a b : Str, (Sum.inr a : Key) = Sum.inr b → a = b := fun _ _ h => Sum.inr.inj h
end W63
/-! fresh, resolved, has, put_in -/
namespace W63
open PySem L2 M63
abbrev sMeth (j : Nat) : Stmt := inClass (top 10) j
abbrev sFresh : Stmt := sMeth 1
abbrev sRes : Stmt := sMeth 2
abbrev sHas : Stmt := sMeth 3
abbrev sPut : Stmt := sMeth 6
structure Txt (K : PySem.W.Frag) (mg : Str → Option Value) (C : Addr) : Prop where
  cl : Cls K C
  nK : NoAttr K C "known"
  nM : NoAttr K C "made"
  tuple : mg "tuple" = none
  any : mg "any" = none
/-! ### facts of the mirror -/
theorem mapO_all {α β : Type} {f : α → Option β} : ∀ {l : List α} {r : List β}, mapO f l = some r → r.length = l.length ∧ ∀ (j : Nat) (p : α), l[j]? = some p → ∃ q, r[j]? = some q ∧ f p = some q
  | [], r, h => by
    cases h
    exact ⟨rfl, fun j p e => by simp at e⟩
  | a :: l, r, h => by
    unfold mapO at h
    cases e : f a with
    | none => rw [e] at h; cases h
    | some b =>
      rw [e] at h
      cases e2 : mapO f l with
      | none => simp [e2] at h
      | some s =>
        simp only [e2, Option.some.injEq] at h
        subst h
        obtain ⟨h1, h2⟩ := mapO_all e2
        refine ⟨by simp [h1], fun j p q => ?_⟩
        cases j with
        | zero => simp at q; subst q; exact ⟨b, rfl, e⟩
        | succ j => simpa using h2 j p (by simpa using q)
theorem mapL_all {α β : Type} {f : α → Option β} {l : List α} {r : List β} (h : mapL f l = some r) : l.length ≤ 2 ∧ r.length = l.length ∧ ∀ (j : Nat) (p : α), l[j]? = some p → ∃ q, r[j]? = some q ∧ f p = some q := by
  unfold mapL at h
  split at h
  · exact ⟨by assumption, mapO_all h⟩
  · cases h
theorem res_cases {n : Nat} {kn : Kn} {k r : D} (h : res (n + 1) kn k = some r) : ∃ w ps, k = .tuple (.str w :: ps) ∧ ((w = "var" ∧ ∃ i l, ps = .int i :: l ∧ ((∃ k', lk kn i = some k' ∧ res n kn k' = some r) ∨ (lk kn i = none ∧ r = k))) ∨
    (w ≠ "var" ∧ ∃ qs, mapL (res n kn) ps = some qs ∧ r = .tuple (.str w :: qs))) := by
  unfold res at h
  split at h
  · cases ‹_ + 1 = _›
    refine ⟨_, _, rfl, ?_⟩
    split at h
    · rename_i hw
      refine .inl ⟨of_decide_eq_true hw, ?_⟩
      split at h
      · refine ⟨_, _, rfl, ?_⟩
        split at h
        · exact .inl ⟨_, by assumption, h⟩
        · cases h
          exact .inr ⟨by assumption, rfl⟩
      · cases h
    · rename_i hw
      refine .inr ⟨fun z => hw (decide_eq_true z), ?_⟩
      simp only [Option.map_eq_some_iff] at h
      obtain ⟨qs, h1, h2⟩ := h
      exact ⟨qs, h1, h2.symm⟩
  · cases h
theorem has_cases {n : Nat} {k : D} {j : Int} {r : Bool} (h : has (n + 1) k j = some r) : ∃ w ps, k = .tuple (.str w :: ps) ∧ ((w = "var" ∧ ∃ i l, ps = .int i :: l ∧ r = decide (i = j)) ∨
    (w ≠ "var" ∧ ∃ bs, mapL (fun p => has n p j) ps = some bs ∧ r = bs.any id)) := by
  unfold has at h
  split at h
  · cases ‹_ + 1 = _›
    refine ⟨_, _, rfl, ?_⟩
    split at h
    · rename_i hw
      refine .inl ⟨of_decide_eq_true hw, ?_⟩
      split at h
      · cases h
        exact ⟨_, _, rfl, rfl⟩
      · cases h
    · rename_i hw
      refine .inr ⟨fun z => hw (decide_eq_true z), ?_⟩
      simp only [Option.map_eq_some_iff] at h
      obtain ⟨qs, h1, h2⟩ := h
      exact ⟨qs, h1, h2.symm⟩
  · cases h
theorem put_cases {n : Nat} {nm : Kn} {k r : D} (h : put (n + 1) nm k = some r) : ∃ w ps, k = .tuple (.str w :: ps) ∧ ((w = "var" ∧ ∃ i l, ps = .int i :: l ∧ r = (lk nm i).getD k) ∨
    (w ≠ "var" ∧ ∃ qs, mapL (put n nm) ps = some qs ∧ r = .tuple (.str w :: qs))) := by
  unfold put at h
  split at h
  · cases ‹_ + 1 = _›
    refine ⟨_, _, rfl, ?_⟩
    split at h
    · rename_i hw
      refine .inl ⟨of_decide_eq_true hw, ?_⟩
      split at h
      · cases h
        exact ⟨_, _, rfl, rfl⟩
      · cases h
    · rename_i hw
      refine .inr ⟨fun z => hw (decide_eq_true z), ?_⟩
      simp only [Option.map_eq_some_iff] at h
      obtain ⟨qs, h1, h2⟩ := h
      exact ⟨qs, h1, h2.symm⟩
  · cases h
/-! ### slices, lists of results -/
theorem cut1 {x : V} {xs : List V} : cutV (x :: xs) (some 1) none = xs := by
  unfold cutV
  have e : HT.sIx (x :: xs).length 0 (some 1) = 1 := by
    show min 1 (x :: xs).length = 1
    rw [List.length_cons]
    omega
  rw [e]
  show ((x :: xs).drop 1).take ((x :: xs).length - 1) = xs
  simp
theorem cut1_ne {x : V} {xs : List V} : ¬ (HT.sIx (x :: xs).length 0 (some 1) = 0 ∧ HT.sIx (x :: xs).length (x :: xs).length none = (x :: xs).length) := fun h => by
  have e : HT.sIx (x :: xs).length 0 (some 1) = 1 := by
    show min 1 (x :: xs).length = 1
    rw [List.length_cons]
    omega
  rw [e] at h
  cases h.1
theorem at0 {v : V} {xs : List V} : atI (v :: xs) 0 = some v := atI_nat (j := 0) rfl
theorem at1 {v u : V} {xs : List V} : atI (v :: u :: xs) 1 = some u := atI_nat (j := 1) rfl
/-- values that stand for results -/
inductive F2 {β : Type} (R : V → β → Prop) : List V → List β → Prop
  | nil : F2 R [] []
  | cons {v : V} {vs : List V} {b : β} {bs : List β} : R v b → F2 R vs bs → F2 R (v :: vs) (b :: bs)
theorem F2.len {β : Type} {R : V → β → Prop} : ∀ {vs : List V} {bs : List β}, F2 R vs bs → vs.length = bs.length
  | _, _, .nil => rfl
  | _, _, .cons _ t => congrArg (· + 1) t.len
theorem F2.imp {β : Type} {R S : V → β → Prop} (h : ∀ v b, R v b → S v b) : ∀ {vs : List V} {bs : List β}, F2 R vs bs → F2 S vs bs
  | _, _, .nil => .nil
  | _, _, .cons a t => .cons (h _ _ a) (t.imp h)
theorem F2.snoc {β : Type} {R : V → β → Prop} {v : V} {b : β} (h : R v b) : ∀ {vs : List V} {bs : List β}, F2 R vs bs → F2 R (vs ++ [v]) (bs ++ [b])
  | _, _, .nil => .cons h .nil
  | _, _, .cons a t => .cons a (t.snoc h)
theorem F2.td {K : PySem.W.Frag} {H : Hp} : ∀ {vs : List V} {bs : List D}, F2 (Td K H) vs bs → TdA K H vs bs
  | _, _, .nil => .nil
  | _, _, .cons a t => .cons a t.td
theorem F2.bl : ∀ {vs : List V} {bs : List Bool}, F2 (fun v b => v = .bl b) vs bs → vs = bs.map V.bl
  | _, _, .nil => rfl
  | _, _, .cons a t => by rw [a, t.bl]; rfl
/-- [f part for part in xs], f changes nothing of what stood -/
theorem lc_map {β : Type} {K : PySem.W.Frag} {a : Addr} {xs : List V} {qs : List β} {i : Nat} {te : TE} {σ : L2.St} {H1 : Hp} {D : Addr} {Qd : Hp → Prop} (RY : Hp → V → β → Prop) (rt : ∀ H H' v b, TT H H' → RY H v b → RY H' v b)
    (hD : H1 D = none) (hx : Tq K H1 a xs) (hq : qs.length = xs.length) (hz : xs.length ≤ 8)
    (hs : ∀ (j : Nat) x q H Q, xs[j]? = some x → qs[j]? = some q → Same H1 H → (∀ y H4, Same H H4 → RY H4 y q → Q y H4) → te ((wipe σ [i]).set i (some x)) H Q)
    (hd : ∀ H ys, Same H1 H → H D = some (.lst ys) → F2 (RY H) ys qs → Qd H) :
    ∃ W : Nat → Nat → Hp → Prop, (∃ m, W 0 m (upd H1 D (.lst []))) ∧ ∀ i' m H, W i' m H →
      ((Itt K a).stop i' H ∧ Qd H) ∨ ((Itt K a).go i' H ∧ ∃ Nx : Hp → Prop, (∀ H', Nx H' → ∃ m', m' < m ∧ W (i' + 1) m' H') ∧ ∀ x H', (Itt K a).yld i' H x H' → gName i x (wipe σ [i]) H' fun σ2 H2 => wipe σ2 [i] = wipe σ [i] ∧ tYes σ2 H2 fun b H3 =>
        if b = true then te σ2 H3 fun y H4 => ∃ acc, H4 D = some (.lst acc) ∧ acc.length < sizeLine ∧ Nx (upd H4 D (.lst (acc ++ [y]))) else Nx H3) := by
  have tl : ∀ {H : Hp} {ys : List V} {o : HO}, H D = some (.lst ys) → TT H (upd H D o) := fun h => TT.upd h fun _ z => by cases z
  refine lc_tup (xs := xs) (fun j H => Same H1 H ∧ ∃ ys, H D = some (.lst ys) ∧ F2 (RY H) ys (qs.take j)) ⟨same_new hD _, [], upd_same, by rw [List.take_zero]; exact .nil⟩ (fun j H _ p => (hx.tt (TT.same p.1)).seq) (fun j x H hj p => ?_) fun H p => ?_
  · obtain ⟨s1, ys, h1, h2⟩ := p
    have lj : j < xs.length := by
      by_cases h : j < xs.length
      · exact h
      · rw [List.getElem?_eq_none (by omega)] at hj; cases hj
    have lq : j < qs.length := by omega
    have gq : qs[j]? = some qs[j] := by simp [lq]
    refine ⟨?_, iteT (B := Same H1 H ∧ ∃ ys, H D = some (.lst ys) ∧ F2 (RY H) ys (qs.take (j + 1))) (hs j x _ H _ hj gq s1 fun y H4 s4 ry => ⟨ys, s4 _ _ h1, ?_, same_to (s1.trans s4) hD, _, upd_same, ?_⟩)⟩
    · show ((wipe σ [i]).set i (some x)).set i none = (σ.set i none)
      show ((σ.set i none).set i (some x)).set i none = (σ.set i none)
      rw [List.set_set, List.set_set]
    · have e := h2.len
      rw [List.length_take] at e
      show ys.length < sizeLine
      have : (8 : Nat) < sizeLine := by decide
      omega
    · rw [List.take_succ, gq]
      have t4 := tl (o := HO.lst (ys ++ [y])) (s4 _ _ h1)
      exact F2.snoc (rt _ _ _ _ t4 ry) (h2.imp fun v b r => rt _ _ _ _ t4 (rt _ _ _ _ (TT.same s4) r))
  · obtain ⟨s1, ys, h1, h2⟩ := p
    rw [← hq, List.take_length] at h2
    exact hd H ys s1 h1 h2
end W63
/-! fresh, resolved, has, put_in -/
namespace W63
open PySem L2 M63
def spFresh (K : PySem.W.Frag) (C : Addr) : Sp := fun vs H Q _ => ∃ p d kvs m, vs = [.ref p] ∧ TyAt C H p d kvs m ∧ ∀ v H', Sm p d H H' → TyAt C H' p d kvs (m + 1) → Td K H' v (kv m) → Q v H'
def spRes (K : PySem.W.Frag) (C : Addr) (n : Nat) : Sp := fun vs H Q _ => ∃ p d kvs kn m v k r, vs = [.ref p, v] ∧ TyAt C H p d kvs m ∧ KnR K H kvs kn ∧ Td K H v k ∧ res n kn k = some r ∧
  ∀ v' H', Same H H' → Td K H' v' r → Q v' H'
def spHas (K : PySem.W.Frag) (C : Addr) (n : Nat) : Sp := fun vs H Q _ => ∃ p dx fs v k j r, vs = [.ref p, v, .int j] ∧ H p = some (.ins C dx fs) ∧ fs.lookup ("has" : Str) = none ∧ Td K H v k ∧ has n k j = some r ∧
  ∀ H', Same H H' → Q (.bl r) H'
def spPut (K : PySem.W.Frag) (C : Addr) (n : Nat) : Sp := fun vs H Q _ => ∃ p dx fs d kvs nm v k r, vs = [.ref p, v, .ref d] ∧ H p = some (.ins C dx fs) ∧ fs.lookup ("put_in" : Str) = none ∧ H d = some (.dK kvs) ∧ KnR K H kvs nm ∧ Td K H v k ∧ put n nm k = some r ∧
  ∀ v' H', Same H H' → Td K H' v' r → Q v' H'
section
variable {P : Program} {w : World} {K : PySem.W.Frag} {mg : Str → Option Value} {base : Heap} {C : Addr} {f : Addr} {fd : FuncData}
theorem scF : FnScope ["self"] ["self"] (defScope sFresh) := ⟨rfl, rfl, rfl, by decide +kernel, rfl, by decide +kernel, by decide +kernel⟩
theorem ok_fresh (F : Fun K "fresh" "Typer.fresh" sFresh f fd) (T : Txt K mg C) : FnOk P w K mg base CX0 1 f fd ["self"] (spFresh K C) := by
  refine F.ok scF (fun vs H Q E h => ?_) (fun cdv A outer s H vs Q E hr h => ?_)
  · obtain ⟨p, d, kvs, m, rfl, _⟩ := h
    rfl
  obtain ⟨p, d, kvs, m, rfl, t, q⟩ := h
  obtain ⟨⟨dx, h1⟩, h2⟩ := id t
  refine ⟨_, pss_cons (ps_fldaug (pv 0) pe_int in_add) (pss_one (ps_ret (pe_tup (pa_cons pe_str (pa_cons (pe_op op_sub (pe_fld (pv 0) rfl) pe_int) pa_nil))))), ?_⟩
  refine ⟨_, rfl, p, C, dx, _, _, rfl, h1, T.cl, T.nM, flds_made _ _, _, _, rfl, rfl, dx, _, h1, by rw [flds_eq]; show 2 < 1000; decide, ?_⟩
  rw [flds_put]
  have npd : d ≠ p := fun z => by rw [z, h1] at h2; cases h2
  refine ⟨_, rfl, p, C, dx, _, _, rfl, upd_same, T.cl, T.nM, flds_made _ _, _, _, rfl, rfl, (by show 2 ≤ sizeLine; decide), fun t' ht => ?_⟩
  have s1 : Sm p d H (upd H p (.ins C dx (flds d (m + 1)))) := fun b o e hb _ => by rw [upd_ne hb]; exact e
  refine q _ _ (s1.trans (Sm.same (same_new ht _))) ?_ ?_
  · refine TyAt.same ⟨⟨dx, upd_same⟩, ?_⟩ (same_new ht _)
    rw [upd_ne npd]
    exact h2
  · have e : V.int (m + 1 - 1) = V.int m := congrArg V.int (by omega)
    show Td K (upd _ t' (.tup [V.str "var", V.int (m + 1 - 1)])) _ _
    rw [e]
    exact Td.new ht (.cons (.str _) (.cons (.int _) .nil))
theorem dEqT {x y : Str} (h : x = y) : decide (V.str x = V.str y) = true := by rw [h]; exact decide_eq_true rfl
theorem dEqF {x y : Str} (h : ¬ x = y) : decide (V.str x = V.str y) = false := decide_eq_false fun z => h (by cases z; rfl)
theorem scR : FnScope ["self", "kind", "part"] ["self", "kind"] (defScope sRes) := ⟨rfl, rfl, rfl, by decide +kernel, rfl, by decide +kernel, by decide +kernel⟩
theorem ok_res (F : Fun K "resolved" "Typer.resolved" sRes f fd) (T : Txt K mg C) (mR : Meth K C "resolved" f) (bR : Binds K fd ["self", "kind"] []) : ∀ n, FnOk P w K mg base CX0 n f fd ["self", "kind"] (spRes K C n)
  | 0 => by
    have no : ∀ vs H Q E, ¬ spRes K C 0 vs H Q E := fun vs H Q E h => by
      obtain ⟨_, _, _, _, _, _, _, _, _, _, _, _, h, _⟩ := h
      cases h
    exact ⟨fun vs H Q E h => absurd h (no vs H Q E), fun A outer s H args us vs Q E _ _ _ _ h => absurd h (no vs H Q E)⟩
  | n + 1 => by
    have G := ok_res F T mR bR n
    refine F.ok scR (fun vs H Q E h => ?_) (fun cdv A outer s H vs Q E hr h => ?_)
    · obtain ⟨_, _, _, _, _, _, _, _, rfl, _⟩ := h
      rfl
    obtain ⟨p, d, kvs, kn, m, v, k, r, rfl, t, hk, hv, e, q⟩ := h
    have hu := hu_of hr
    refine ⟨_, pss_cons (ps_if (pt_cmpR op_eq (pe_ix ix_tup (pv 1) pe_int (fun _ _ => rfl)) pe_str (nomark _))
        (pss_one (ps_ret (pe_ifExp (pt_cmp (pc_din hu (pe_ix ix_tup (pv 1) pe_int (fun _ _ => rfl)) (pe_fld (pv 0) rfl)))
          (pe_meth (pv 0) T.cl mR G hr bR .nil pass0 (pa_cons (pe_dget hu (pe_fld (pv 0) rfl) (pe_ix ix_tup (pv 1) pe_int (fun _ _ => rfl)) (fun _ _ => rfl)) pa_nil))
          (pv 1)))) pss_nil)
      (pss_one (ps_ret (pe_op op_catA (pe_tup (pa_cons (pe_ix ix_tup (pv 1) pe_int (fun _ _ => rfl)) pa_nil))
        (pe_callTy call_tuple_of rfl T.tuple (by decide +kernel) (pa_cons (pe_lc (own := [("part", 2)]) (g := gName 2) (tt := tYes) rfl scR.nd (pi_tup (pe_slice sl_tupA (pv 1) (po_some pe_int) po_none))
          (blkOk_by (N := ["self", "kind", "part"]) (sc := defScope sRes) (by decide +kernel)) (fun _ _ _ _ _ => pg_name (i := 2) scR.nd rfl (Or.inl rfl)) (fun _ _ _ _ _ => pts_nil)
          (fun _ _ _ _ _ => pe_meth (pv 0) T.cl mR G hr bR .nil pass0 (pa_cons (pv 2) pa_nil))) pa_nil))))), ?_⟩
    obtain ⟨wd, ps, rfl, cs⟩ := res_cases e
    obtain ⟨a, xs, rfl, ha, hxs⟩ := hv.node
    obtain ⟨⟨dx, h1⟩, h2⟩ := id t
    refine ⟨_, rfl, _, _, _, _, rfl, rfl, ha.seq, at0, rfl, _, rfl, ?_⟩
    rcases cs with ⟨rfl, i, l, rfl, cs⟩ | ⟨hw, qs, hm, rfl⟩
    · cases hxs with
      | cons hi hl =>
      cases hi
      refine Eq.mpr (congrArg (fun z => if z = true then _ else _) (dEqT rfl)) (iteT ?_)
      obtain ⟨v1, v2⟩ := TabR.val (e := (Sum.inl : Int → Key)) inj_l i hk
      refine ⟨_, rfl, _, _, _, _, rfl, rfl, ha.seq, at1, _, rfl, p, C, dx, _, _, rfl, h1, T.cl, T.nK, flds_known _ _, d, _, rfl, DGet.k (k := Sum.inl i) h2, ?_⟩
      have nr : (flds d m).lookup ("resolved" : Str) = none := flds_no _ _ (by decide +kernel) (by decide +kernel)
      rcases cs with ⟨k', e1, e2⟩ | ⟨e1, rfl⟩
      · obtain ⟨v', e', hd'⟩ := v1 k' e1
        rw [e']
        refine ⟨_, rfl, iteT ⟨_, rfl, p, dx, _, rfl, h1, nr, _, rfl, p, C, dx, _, _, rfl, h1, T.cl, T.nK, flds_known _ _, _, rfl, _, _, _, _, rfl, rfl, ha.seq, at1, d, v', rfl, e' ▸ DGet.k (k := Sum.inl i) h2, ?_⟩⟩
        exact ⟨p, d, kvs, kn, m, v', k', r, rfl, t, hk, hd', e2, q⟩
      · rw [v2 e1]
        exact ⟨_, rfl, iteF ⟨_, rfl, q _ _ (Same.refl _) hv⟩⟩
    · refine Eq.mpr (congrArg (fun z => if z = true then _ else _) (dEqF hw)) (iteF ?_)
      have nr : (flds d m).lookup ("resolved" : Str) = none := flds_no _ _ (by decide +kernel) (by decide +kernel)
      refine ⟨_, rfl, _, _, _, _, rfl, rfl, ha.seq, at0, (by show 1 ≤ sizeLine; decide), fun t1 ht1 => ?_⟩
      have s1 := same_new ht1 (.tup [.str wd])
      have ha1 := ha.tt (TT.same s1)
      obtain ⟨m1, m2, m3⟩ := mapL_all hm
      have lx := hxs.len
      refine ⟨_, rfl, _, rfl, a, _, rfl, ha1.seq, (fun z => absurd z cut1_ne), fun _ p2 hp2 => ?_⟩
      rw [cut1]
      have s2 := s1.trans (same_new hp2 (.tup xs))
      refine ⟨p2, rfl, ⟨_, .inl (.inl upd_same)⟩, fun D hD => ?_⟩
      refine lc_map (β := PyData) (qs := qs) (xs := xs) (fun H => Td K H) (fun H H' v b e h => h.tt e) hD (.inl upd_same) (by omega) (by omega) (fun j x y H3 Q3 hj hy s3 q3 => ?_) fun H3 ys s3 h3 hr => ?_
      · have s4 := s2.trans s3
        obtain ⟨pd, g1, g2⟩ := hxs.get hj
        obtain ⟨y', g3, g4⟩ := m3 j pd g1
        rw [hy] at g3
        cases g3
        refine ⟨_, rfl, p, dx, _, rfl, s4 _ _ h1, nr, _, rfl, ?_⟩
        exact ⟨p, d, kvs, kn, m, x, pd, y, rfl, t.same s4, hk.tt (TT.same s4), g2.tt (TT.same s4), g4, q3⟩
      · have s4 := s2.trans s3
        have e1 := hr.len
        refine ⟨D, ys, rfl, .inl ⟨SqL.of h3, fun l hl => ?_⟩⟩
        have s5 := s4.trans (same_new hl (.tup ys))
        refine ⟨t1, l, _, _, rfl, rfl, .inl (.inl ((same_new hl _) _ _ (s3 _ _ ((same_new hp2 _) _ _ upd_same)))), .inl (.inl upd_same), ?_, (fun z => nomatch z), fun _ z => ?_, fun _ _ p4 hp4 => ?_⟩
        · show 1 + ys.length ≤ 16777216
          omega
        · subst z
          cases qs with
          | nil => exact q _ _ s5 (.tup (.inl ((same_new hl _) _ _ (s3 _ _ ((same_new hp2 _) _ _ upd_same)))) (.cons (.str _) .nil))
          | cons _ _ => simp at e1
        · exact q _ _ (s5.trans (same_new hp4 _)) (Td.new hp4 (.cons (.str _) (hr.td.tt (TT.new hl))))
end
end W63
/-! fresh, resolved, has, put_in -/
namespace W63
open PySem L2 M63
section
variable {P : Program} {w : World} {K : PySem.W.Frag} {mg : Str → Option Value} {base : Heap} {C : Addr} {f : Addr} {fd : FuncData}
theorem scH : FnScope ["self", "kind", "number", "part"] ["self", "kind", "number"] (defScope sHas) := ⟨rfl, rfl, rfl, by decide +kernel, rfl, by decide +kernel, by decide +kernel⟩
theorem ok_has (F : Fun K "has" "Typer.has" sHas f fd) (T : Txt K mg C) (mH : Meth K C "has" f) (bH : Binds K fd ["self", "kind", "number"] []) : ∀ n, FnOk P w K mg base CX0 n f fd ["self", "kind", "number"] (spHas K C n)
  | 0 => by
    have no : ∀ vs H Q E, ¬ spHas K C 0 vs H Q E := fun vs H Q E h => by
      obtain ⟨_, _, _, _, _, _, _, _, _, _, _, h, _⟩ := h
      cases h
    exact ⟨fun vs H Q E h => absurd h (no vs H Q E), fun A outer s H args us vs Q E _ _ _ _ h => absurd h (no vs H Q E)⟩
  | n + 1 => by
    have G := ok_has F T mH bH n
    refine F.ok scH (fun vs H Q E h => ?_) (fun cdv A outer s H vs Q E hr h => ?_)
    · obtain ⟨_, _, _, _, _, _, _, rfl, _⟩ := h
      rfl
    obtain ⟨p, dx, fs, v, k, j, r, rfl, h1, nr, hv, e, q⟩ := h
    refine ⟨_, pss_cons (ps_if (pt_cmpR op_eq (pe_ix ix_tup (pv 1) pe_int (fun _ _ => rfl)) pe_str (nomark _))
        (pss_one (ps_ret (pe_cmpR op_eq (pe_ix ix_tup (pv 1) pe_int (fun _ _ => rfl)) (pv 2) (nomark _)))) pss_nil)
      (pss_one (ps_ret (pe_callB (cr_any rfl) (by rfl) T.any PyProof.Rows.boot_any (pa_cons (pe_lc (own := [("part", 3)]) (g := gName 3) (tt := tYes) rfl scH.nd (pi_tup (pe_slice sl_tupA (pv 1) (po_some pe_int) po_none))
          (blkOk_by (N := ["self", "kind", "number", "part"]) (sc := defScope sHas) (by decide +kernel)) (fun _ _ _ _ _ => pg_name (i := 3) scH.nd rfl (Or.inl rfl)) (fun _ _ _ _ _ => pts_nil)
          (fun _ _ _ _ _ => pe_meth (pv 0) T.cl mH G hr bH .nil pass0 (pa_cons (pv 3) (pa_cons (pv 2) pa_nil)))) pa_nil)))), ?_⟩
    obtain ⟨wd, ps, rfl, cs⟩ := has_cases e
    obtain ⟨a, xs, rfl, ha, hxs⟩ := hv.node
    refine ⟨_, rfl, _, _, _, _, rfl, rfl, ha.seq, at0, rfl, _, rfl, ?_⟩
    rcases cs with ⟨rfl, i, l, rfl, rfl⟩ | ⟨hw, qs, hm, rfl⟩
    · cases hxs with
      | cons hi hl =>
      cases hi
      refine Eq.mpr (congrArg (fun z => if z = true then _ else _) (dEqT rfl)) (iteT ?_)
      refine ⟨_, rfl, _, _, _, _, rfl, rfl, ha.seq, at1, _, rfl, rfl, ?_⟩
      have e2 : decide (V.int i = V.int j) = decide (i = j) := decide_eq_decide.mpr ⟨fun z => by cases z; rfl, fun z => by rw [z]⟩
      rw [e2]
      exact q _ (Same.refl _)
    · refine Eq.mpr (congrArg (fun z => if z = true then _ else _) (dEqF hw)) (iteF ?_)
      obtain ⟨m1, m2, m3⟩ := mapL_all hm
      have lx := hxs.len
      refine ⟨_, rfl, _, rfl, a, _, rfl, ha.seq, (fun z => absurd z cut1_ne), fun _ p2 hp2 => ?_⟩
      rw [cut1]
      have s2 := same_new hp2 (.tup xs)
      refine ⟨p2, rfl, ⟨_, .inl (.inl upd_same)⟩, fun D hD => ?_⟩
      refine lc_map (β := Bool) (qs := qs) (xs := xs) (fun _ v b => v = .bl b) (fun _ _ _ _ _ h => h) hD (.inl upd_same) (by omega) (by omega) (fun i x y H3 Q3 hj hy s3 q3 => ?_) fun H3 ys s3 h3 hr => ?_
      · have s4 := s2.trans s3
        obtain ⟨pd, g1, g2⟩ := hxs.get hj
        obtain ⟨y', g3, g4⟩ := m3 i pd g1
        rw [hy] at g3
        cases g3
        refine ⟨_, rfl, p, dx, _, rfl, s4 _ _ h1, nr, _, rfl, _, rfl, ?_⟩
        exact ⟨p, dx, fs, x, pd, j, y, rfl, s4 _ _ h1, nr, g2.tt (TT.same s4), g4, fun H' e' => q3 _ _ e' rfl⟩
      · have s4 := s2.trans s3
        have e1 := hr.bl
        subst e1
        exact ⟨D, qs, rfl, SqL.of h3, q _ s4⟩
theorem scP : FnScope ["self", "kind", "names", "part"] ["self", "kind", "names"] (defScope sPut) := ⟨rfl, rfl, rfl, by decide +kernel, rfl, by decide +kernel, by decide +kernel⟩
theorem ok_put (F : Fun K "put_in" "Typer.put_in" sPut f fd) (T : Txt K mg C) (mP : Meth K C "put_in" f) (bP : Binds K fd ["self", "kind", "names"] []) : ∀ n, FnOk P w K mg base CX0 n f fd ["self", "kind", "names"] (spPut K C n)
  | 0 => by
    have no : ∀ vs H Q E, ¬ spPut K C 0 vs H Q E := fun vs H Q E h => by
      obtain ⟨_, _, _, _, _, _, _, _, _, _, _, _, _, _, _, h, _⟩ := h
      cases h
    exact ⟨fun vs H Q E h => absurd h (no vs H Q E), fun A outer s H args us vs Q E _ _ _ _ h => absurd h (no vs H Q E)⟩
  | n + 1 => by
    have G := ok_put F T mP bP n
    refine F.ok scP (fun vs H Q E h => ?_) (fun cdv A outer s H vs Q E hr h => ?_)
    · obtain ⟨_, _, _, _, _, _, _, _, _, rfl, _⟩ := h
      rfl
    obtain ⟨p, dx, fs, d, kvs, nm, v, k, r, rfl, h1, nr, h2, hk, hv, e, q⟩ := h
    have hu := hu_of hr
    refine ⟨_, pss_cons (ps_if (pt_cmpR op_eq (pe_ix ix_tup (pv 1) pe_int (fun _ _ => rfl)) pe_str (nomark _))
        (pss_one (ps_ret (pe_dget2 hu (pv 2) (pe_ix ix_tup (pv 1) pe_int (fun _ _ => rfl)) (pv 1) ⟨rfl, rfl, rfl, rfl⟩))) pss_nil)
      (pss_one (ps_ret (pe_op op_catA (pe_tup (pa_cons (pe_ix ix_tup (pv 1) pe_int (fun _ _ => rfl)) pa_nil))
        (pe_callTy call_tuple_of rfl T.tuple (by decide +kernel) (pa_cons (pe_lc (own := [("part", 3)]) (g := gName 3) (tt := tYes) rfl scP.nd (pi_tup (pe_slice sl_tupA (pv 1) (po_some pe_int) po_none))
          (blkOk_by (N := ["self", "kind", "names", "part"]) (sc := defScope sPut) (by decide +kernel)) (fun _ _ _ _ _ => pg_name (i := 3) scP.nd rfl (Or.inl rfl)) (fun _ _ _ _ _ => pts_nil)
          (fun _ _ _ _ _ => pe_meth (pv 0) T.cl mP G hr bP .nil pass0 (pa_cons (pv 3) (pa_cons (pv 2) pa_nil)))) pa_nil))))), ?_⟩
    obtain ⟨wd, ps, rfl, cs⟩ := put_cases e
    obtain ⟨a, xs, rfl, ha, hxs⟩ := hv.node
    refine ⟨_, rfl, _, _, _, _, rfl, rfl, ha.seq, at0, rfl, _, rfl, ?_⟩
    rcases cs with ⟨rfl, i, l, rfl, rfl⟩ | ⟨hw, qs, hm, rfl⟩
    · cases hxs with
      | cons hi hl =>
      cases hi
      refine Eq.mpr (congrArg (fun z => if z = true then _ else _) (dEqT rfl)) (iteT ?_)
      obtain ⟨v1, v2⟩ := TabR.val (e := (Sum.inl : Int → Key)) inj_l i hk
      refine ⟨_, rfl, d, rfl, .inl ⟨_, .inl h2⟩, _, rfl, _, _, _, _, rfl, rfl, ha.seq, at1, _, rfl, _, DGet.k (k := Sum.inl i) h2, ?_⟩
      cases e' : lk nm i with
      | none =>
        rw [v2 e']
        exact q _ _ (Same.refl _) (by rw [e']; exact hv)
      | some k' =>
        obtain ⟨v', e2, hd'⟩ := v1 k' e'
        rw [e2]
        exact q _ _ (Same.refl _) (by rw [e']; exact hd')
    · refine Eq.mpr (congrArg (fun z => if z = true then _ else _) (dEqF hw)) (iteF ?_)
      refine ⟨_, rfl, _, _, _, _, rfl, rfl, ha.seq, at0, (by show 1 ≤ sizeLine; decide), fun t1 ht1 => ?_⟩
      have s1 := same_new ht1 (.tup [.str wd])
      have ha1 := ha.tt (TT.same s1)
      obtain ⟨m1, m2, m3⟩ := mapL_all hm
      have lx := hxs.len
      refine ⟨_, rfl, _, rfl, a, _, rfl, ha1.seq, (fun z => absurd z cut1_ne), fun _ p2 hp2 => ?_⟩
      rw [cut1]
      have s2 := s1.trans (same_new hp2 (.tup xs))
      refine ⟨p2, rfl, ⟨_, .inl (.inl upd_same)⟩, fun D hD => ?_⟩
      refine lc_map (β := PyData) (qs := qs) (xs := xs) (fun H => Td K H) (fun H H' v b e h => h.tt e) hD (.inl upd_same) (by omega) (by omega) (fun j x y H3 Q3 hj hy s3 q3 => ?_) fun H3 ys s3 h3 hr => ?_
      · have s4 := s2.trans s3
        obtain ⟨pd, g1, g2⟩ := hxs.get hj
        obtain ⟨y', g3, g4⟩ := m3 j pd g1
        rw [hy] at g3
        cases g3
        refine ⟨_, rfl, p, dx, _, rfl, s4 _ _ h1, nr, _, rfl, _, rfl, ?_⟩
        exact ⟨p, dx, fs, d, kvs, nm, x, pd, y, rfl, s4 _ _ h1, nr, s4 _ _ h2, hk.tt (TT.same s4), g2.tt (TT.same s4), g4, q3⟩
      · have s4 := s2.trans s3
        have e1 := hr.len
        refine ⟨D, ys, rfl, .inl ⟨SqL.of h3, fun l hl => ?_⟩⟩
        have s5 := s4.trans (same_new hl (.tup ys))
        refine ⟨t1, l, _, _, rfl, rfl, .inl (.inl ((same_new hl _) _ _ (s3 _ _ ((same_new hp2 _) _ _ upd_same)))), .inl (.inl upd_same), ?_, (fun z => nomatch z), fun _ z => ?_, fun _ _ p4 hp4 => ?_⟩
        · show 1 + ys.length ≤ 16777216
          omega
        · subst z
          cases qs with
          | nil => exact q _ _ s5 (.tup (.inl ((same_new hl _) _ _ (s3 _ _ ((same_new hp2 _) _ _ upd_same)))) (.cons (.str _) .nil))
          | cons _ _ => simp at e1
        · exact q _ _ (s5.trans (same_new hp4 _)) (Td.new hp4 (.cons (.str _) (hr.td.tt (TT.new hl))))
end
end W63
/-! variables_of -/
namespace W63
open PySem L2 M63
/-- [x for x in numbers if test] -/
theorem lc_fil {K : PySem.W.Frag} {a : Addr} {ns : List Int} {i : Nat} {tt : L2.TT} {σ : L2.St} {H1 : Hp} {D : Addr} {Qd : Hp → Prop} (p : Int → Bool) (hD : H1 D = none) (ha : H1 a = some (.lst (ns.map V.int))) (hz : ns.length ≤ 1000) (hi : i < σ.length)
    (ht : ∀ x H Q, Same H1 H → Q (p x) H → tt ((wipe σ [i]).set i (some (.int x))) H Q) (hd : ∀ H, Same H1 H → H D = some (.lst ((ns.filter p).map V.int)) → Qd H) :
    ∃ W : Nat → Nat → Hp → Prop, (∃ m, W 0 m (upd H1 D (.lst []))) ∧ ∀ i' m H, W i' m H →
      ((Itl K a).stop i' H ∧ Qd H) ∨ ((Itl K a).go i' H ∧ ∃ Nx : Hp → Prop, (∀ H', Nx H' → ∃ m', m' < m ∧ W (i' + 1) m' H') ∧ ∀ x H', (Itl K a).yld i' H x H' → gName i x (wipe σ [i]) H' fun σ2 H2 => wipe σ2 [i] = wipe σ [i] ∧ tt σ2 H2 fun b H3 =>
        if b = true then tVar i σ2 H3 fun y H4 => ∃ acc, H4 D = some (.lst acc) ∧ acc.length < sizeLine ∧ Nx (upd H4 D (.lst (acc ++ [y]))) else Nx H3) := by
  refine lc_list (xs := ns.map V.int) (fun j H => Same H1 H ∧ H D = some (.lst (((ns.take j).filter p).map V.int))) ⟨same_new hD _, upd_same⟩ (fun j H _ q => SqL.of (q.1 _ _ ha)) (fun j x H hj q => ?_) fun H q => ?_
  · obtain ⟨s1, h1⟩ := q
    rw [List.getElem?_map] at hj
    cases e : ns[j]? with
    | none => rw [e] at hj; cases hj
    | some z =>
    rw [e] at hj
    cases hj
    have w : wipe ((wipe σ [i]).set i (some (V.int z))) [i] = wipe σ [i] := by
      show ((σ.set i none).set i (some _)).set i none = (σ.set i none)
      rw [List.set_set, List.set_set]
    have get : ((wipe σ [i]).set i (some (V.int z)))[i]? = some (some (V.int z)) := by
      show ((σ.set i none).set i _)[i]? = _
      rw [List.set_set, List.getElem?_set_self hi]
    have tk : ns.take (j + 1) = ns.take j ++ [z] := by rw [List.take_succ, e]; rfl
    refine ⟨w, ht z H _ s1 ?_⟩
    cases hp : p z with
    | true =>
      refine iteT ⟨_, get, _, h1, ?_, same_to s1 hD, ?_⟩
      · rw [List.length_map]
        have a1 := List.length_filter_le p (ns.take j)
        rw [List.length_take] at a1
        show _ < (16777216 : Nat)
        omega
      · rw [upd_same, tk, List.filter_append, List.map_append]
        simp [hp]
    | false =>
      refine iteF ⟨s1, ?_⟩
      rw [h1, tk, List.filter_append]
      simp [hp]
  · obtain ⟨s1, h1⟩ := q
    rw [List.length_map, List.take_length] at h1
    exact hd H s1 h1
theorem vars_cases {n : Nat} {k : D} {r : List Int} (h : vars (n + 1) k = some r) : ∃ w ps, k = .tuple (.str w :: ps) ∧ ((w = "var" ∧ ∃ i l, ps = .int i :: l ∧ r = [i]) ∨
    (w ≠ "var" ∧ ps.length ≤ 8 ∧ varsAll (vars n) ps [] = some r ∧ r.length ≤ 1000)) := by
  unfold vars at h
  split at h
  · cases ‹_ + 1 = _›
    refine ⟨_, _, rfl, ?_⟩
    split at h
    · rename_i hw
      refine .inl ⟨of_decide_eq_true hw, ?_⟩
      split at h
      · cases h
        exact ⟨_, _, rfl, rfl⟩
      · cases h
    · rename_i hw
      refine .inr ⟨fun z => hw (decide_eq_true z), ?_⟩
      split at h
      · rename_i h8
        split at h
        · split at h
          · cases h
            exact ⟨h8, by assumption, by assumption⟩
          · cases h
        · cases h
      · cases h
  · cases h
theorem vars_len {n : Nat} {k : D} {r : List Int} (h : vars n k = some r) : r.length ≤ 1000 := by
  cases n with
  | zero => cases h
  | succ n =>
    obtain ⟨w, ps, _, cs⟩ := vars_cases h
    rcases cs with ⟨_, i, l, _, rfl⟩ | ⟨_, _, _, h⟩
    · show 1 ≤ 1000
      omega
    · exact h
theorem varsAll_le {f : D → Option (List Int)} : ∀ {ps : List D} {found r : List Int}, varsAll f ps found = some r → found.length ≤ r.length
  | [], _, _, h => by cases h; exact Nat.le_refl _
  | p :: ps, found, r, h => by
    unfold varsAll at h
    split at h
    · cases h
    · have := varsAll_le h
      rw [List.length_append] at this
      omega
theorem varsAll_step {f : D → Option (List Int)} {ps : List D} {j : Nat} {p : D} {found r : List Int} (hj : ps[j]? = some p) (h : varsAll f (ps.drop j) found = some r) :
    ∃ vs, f p = some vs ∧ varsAll f (ps.drop (j + 1)) (found ++ vs.filter fun v => !decide (v ∈ found)) = some r := by
  have e : ps.drop j = p :: ps.drop (j + 1) := by
    have lj : j < ps.length := by
      by_cases h : j < ps.length
      · exact h
      · rw [List.getElem?_eq_none (by omega)] at hj; cases hj
    rw [List.getElem?_eq_getElem lj] at hj
    cases hj
    exact List.drop_eq_getElem_cons lj
  rw [e] at h
  unfold varsAll at h
  split at h
  · cases h
  · exact ⟨_, by assumption, h⟩
theorem inV_int {x : Int} {ns : List Int} : inV (.int x) (ns.map V.int) = decide (x ∈ ns) := by
  unfold inV
  induction ns with
  | nil => rfl
  | cons a r ih =>
    rw [List.map_cons, List.any_cons, ih]
    have e : eqV (.int a) (.int x) = decide (x = a) := by
      show (a == x) = _
      by_cases h : x = a
      · rw [h]; simp
      · rw [decide_eq_false h, beq_eq_false_iff_ne]
        exact fun z => h z.symm
    rw [e]
    by_cases h : x = a <;> simp [h]
theorem all_flat {ns : List Int} : (ns.map V.int).all flatV = true := by
  induction ns with
  | nil => rfl
  | cons a r ih => rw [List.map_cons, List.all_cons, ih]; rfl
abbrev sVars : Stmt := top 11
def spVars (K : PySem.W.Frag) (n : Nat) : Sp := fun vs H Q _ => ∃ v k r, vs = [v] ∧ Td K H v k ∧ vars n k = some r ∧ ∀ l H', Same H H' → H l = none → H' l = some (.lst (r.map V.int)) → Q (.ref l) H'
section
variable {P : Program} {w : World} {K : PySem.W.Frag} {mg : Str → Option Value} {base : Heap} {f : Addr} {fd : FuncData}
theorem scV : FnScope ["kind", "found", "part", "number"] ["kind"] (defScope sVars) := ⟨rfl, rfl, rfl, by decide +kernel, rfl, by decide +kernel, by decide +kernel⟩
theorem ok_vars (F : Fun K "variables_of" "variables_of" sVars f fd) (mV : mg "variables_of" = some (.ref f)) (kV : PySem.W.keepIn K (.ref f) = true) (bV : Binds K fd ["kind"] []) : ∀ n, FnOk P w K mg base CX0 n f fd ["kind"] (spVars K n)
  | 0 => by
    have no : ∀ vs H Q E, ¬ spVars K 0 vs H Q E := fun vs H Q E h => by
      obtain ⟨_, _, _, _, _, h, _⟩ := h
      cases h
    exact ⟨fun vs H Q E h => absurd h (no vs H Q E), fun A outer s H args us vs Q E _ _ _ _ h => absurd h (no vs H Q E)⟩
  | n + 1 => by
    have G := ok_vars F mV kV bV n
    refine F.ok scV (fun vs H Q E h => ?_) (fun cdv A outer s H vs Q E hr h => ?_)
    · obtain ⟨_, _, _, rfl, _⟩ := h
      rfl
    obtain ⟨v, k, r, rfl, hv, e, q⟩ := h
    refine ⟨_, pss_cons (ps_if (pt_cmpR op_eq (pe_ix ix_tup (pv 0) pe_int (fun _ _ => rfl)) pe_str (nomark _)) (pss_one (ps_ret (pe_lst (pa_cons (pe_ix ix_tup (pv 0) pe_int (fun _ _ => rfl)) pa_nil)))) pss_nil)
      (pss_cons (ps_set (i := 1) scV.nd rfl (Or.inr rfl) (pe_lst pa_nil))
      (pss_cons (ps_for PassesOwn.never rfl (pi_tup (pe_slice sl_tupA (pv 0) (po_some pe_int) po_none)) (pg_name (i := 2) scV.nd rfl (Or.inl rfl))
        (pss_one (ps_expr (pe_bm PySem.F.plainAttrs_list PySem.F.slot_list_extend PySem.F.type_list_extend mt_extend (pv 1)
          (pa_cons (pe_lc (own := [("number", 3)]) (g := gName 3) (tt := tTest (tOp (rIn K true) (tVar 3) (tVar 1))) rfl scV.nd (pi_list (pe_call G hr rfl mV kV bV .nil pass0 (pa_cons (pv 2) pa_nil)))
            (blkOk_by (N := ["kind", "found", "part", "number"]) (sc := defScope sVars) (by decide +kernel)) (fun _ _ _ _ _ => pg_name (i := 3) scV.nd rfl (Or.inl rfl)) (fun _ _ _ _ _ => pts_one (pt_cmpR op_notIn_seq (pv 3) (pv 1) rfl))
            (fun _ _ _ _ _ => pv 3)) pa_nil)))))
      (pss_one (ps_ret (pv 1))))), ?_⟩
    obtain ⟨wd, ps, rfl, cs⟩ := vars_cases e
    obtain ⟨a, xs, rfl, ha, hxs⟩ := hv.node
    refine ⟨_, rfl, _, _, _, _, rfl, rfl, ha.seq, at0, rfl, _, rfl, ?_⟩
    rcases cs with ⟨rfl, i, l, rfl, rfl⟩ | ⟨hw, h8, hm, hr8⟩
    · cases hxs with
      | cons hi hl =>
      cases hi
      refine Eq.mpr (congrArg (fun z => if z = true then _ else _) (dEqT rfl)) (iteT ?_)
      exact ⟨_, rfl, _, _, _, _, rfl, rfl, ha.seq, at1, (by show 1 ≤ sizeLine; decide), fun p hp => q _ _ (same_new hp _) hp upd_same⟩
    · refine Eq.mpr (congrArg (fun z => if z = true then _ else _) (dEqF hw)) (iteF ?_)
      refine ⟨Nat.zero_le _, fun g hg => ?_⟩
      have s1 := same_new hg (.lst [])
      refine ⟨_, rfl, _, rfl, a, _, rfl, (ha.tt (TT.same s1)).seq, (fun z => absurd z cut1_ne), fun _ p2 hp2 => ?_⟩
      rw [cut1]
      have s2 := s1.trans (same_new hp2 (.tup xs))
      have g2 : upd (upd H g (.lst [])) p2 (.tup xs) g = some (.lst []) := (same_new hp2 _) _ _ upd_same
      refine ⟨p2, rfl, ⟨_, .inl (.inl upd_same)⟩, ?_⟩
      have hxl := hxs.len
      refine for_tup (xs := xs) (fun j σ H' => ∃ fs o, σ = [some (V.ref a), some (V.ref g), o, none] ∧ Same H H' ∧ H' p2 = some (.tup xs) ∧ H' g = some (.lst (fs.map V.int)) ∧ varsAll (vars n) (ps.drop j) fs = some r) ⟨[], none, rfl, s2, upd_same, g2, hm⟩ (fun j σ H' _ q => ?_) (fun j x σ H' hj q => ?_) fun σ H' q' => ?_
      · obtain ⟨_, _, _, _, h, _⟩ := q
        exact .inl (.inl h)
      · obtain ⟨fs, o, rfl, s3, h3, h4, h5⟩ := q
        obtain ⟨pd, d1, d2⟩ := hxs.get hj
        obtain ⟨vs, e1, e2⟩ := varsAll_step d1 h5
        have lf := varsAll_le h5
        refine ⟨_, rfl, .inl ⟨rfl, _, SqL.of h4⟩, _, rfl, ?_⟩
        refine ⟨_, pd, vs, rfl, d2.tt (TT.same s3), e1, fun l H4 s4 hl0 hl => ?_⟩
        refine ⟨l, rfl, ⟨_, SqL.of hl⟩, fun D hD => ?_⟩
        refine lc_fil (ns := vs) (fun v => !decide (v ∈ fs)) hD hl (vars_len e1) (by show 3 < 4; decide) (fun x H5 Q5 s5 q5 => ?_) fun H5 s5 h5' => ?_
        · refine ⟨_, rfl, _, rfl, g, _, rfl, .inl (SqL.of (s5 _ _ (s4 _ _ h4))), rfl, all_flat, ?_⟩
          refine ⟨_, rfl, ?_⟩
          rw [inV_int]
          exact q5
        · refine ⟨g, D, _, _, rfl, rfl, s5 _ _ (s4 _ _ h4), h5', ?_, ?_⟩
          · have := List.length_filter_le (fun v => !decide (v ∈ fs)) vs
            have := vars_len e1
            rw [List.length_map, List.length_map]
            show _ ≤ (16777216 : Nat)
            omega
          · refine ⟨fs ++ vs.filter fun v => !decide (v ∈ fs), some x, rfl, ?_, ?_, ?_, e2⟩
            · exact same_to (s3.trans (s4.trans s5)) hg
            · rw [upd_ne (ne_of (s5 _ _ (s4 _ _ h3)) (s5 _ _ (s4 _ _ h4)) (by intro z; cases z))]
              exact s5 _ _ (s4 _ _ h3)
            · rw [upd_same, List.map_append]
      · obtain ⟨fs, o, rfl, s3, h3, h4, h5⟩ := q'
        rw [hxl, List.drop_length] at h5
        cases h5
        exact ⟨_, rfl, q _ _ s3 hg h4⟩
end
end W63
/-! make_equal -/
namespace W63
open PySem L2 M63
abbrev lim : Nat := 16000000
theorem eq_cases {n : Nat} {kn : Kn} {a b : D} {r : Option Kn} (h : eq (n + 1) kn a b = some r) : ∃ a' b', res R kn a = some a' ∧ res R kn b = some b' ∧ eq2 (eq n) kn a' b' = some r := by
  unfold eq at h
  split at h
  · exact ⟨_, _, by assumption, by assumption, h⟩
  · cases h
theorem eq2_cases {f : Kn → D → D → Option (Option Kn)} {kn : Kn} {a b : D} {r : Option Kn} (h : eq2 f kn a b = some r) : SeqAt.shaped a = true ∧ SeqAt.shaped b = true ∧ ((PyData.eqv a b = true ∧ r = some kn) ∨
    (PyData.eqv a b = false ∧ ∃ w ps v qs, a = .tuple (.str w :: ps) ∧ b = .tuple (.str v :: qs) ∧ (w = "var" → ∃ i l, ps = .int i :: l ∧ bindV kn i b = some r) ∧ (w ≠ "var" → v = "var" → ∃ j l, qs = .int j :: l ∧ bindV kn j a = some r) ∧
      (w ≠ "var" → v ≠ "var" → w = v → ps.length = qs.length ∧ ps.length ≤ 2 ∧ eqs f kn (ps.zip qs) = some r) ∧ (w ≠ "var" → v ≠ "var" → w ≠ v → r = none))) := by
  unfold eq2 at h
  split at h
  · rename_i hs
    rw [Bool.and_eq_true] at hs
    refine ⟨hs.1, hs.2, ?_⟩
    split at h
    · cases h
      exact .inl ⟨by assumption, rfl⟩
    · rename_i he
      refine .inr ⟨by simpa using he, ?_⟩
      split at h
      · refine ⟨_, _, _, _, rfl, rfl, ?_⟩
        split at h
        · rename_i hw
          have hw := of_decide_eq_true hw
          refine ⟨fun _ => ?_, fun z => absurd hw z, fun z => absurd hw z, fun z => absurd hw z⟩
          split at h
          · exact ⟨_, _, rfl, h⟩
          · cases h
        · rename_i hw
          have hw := of_decide_eq_false (Bool.eq_false_iff.mpr hw)
          split at h
          · rename_i hv
            have hv := of_decide_eq_true hv
            refine ⟨fun z => absurd z hw, fun _ _ => ?_, fun _ z => absurd hv z, fun _ z => absurd hv z⟩
            split at h
            · exact ⟨_, _, rfl, h⟩
            · cases h
          · rename_i hv
            have hv := of_decide_eq_false (Bool.eq_false_iff.mpr hv)
            refine ⟨fun z => absurd z hw, fun _ z => absurd z hv, fun _ _ z => ?_, fun _ _ z => ?_⟩
            · rw [if_pos z] at h
              split at h
              · rename_i hl
                exact ⟨hl.1, hl.2, h⟩
              · cases h
            · rw [if_neg z] at h
              cases h
              rfl
      · cases h
  · cases h
theorem pk_len {κ : Type} [DecidableEq κ] {kn : List (κ × D)} {i : κ} {d : D} : (pk kn i d).length ≤ kn.length + 1 := by
  unfold pk
  split
  · rw [List.length_map]; omega
  · rw [List.length_append]; exact Nat.le_refl _
structure NoF (K : PySem.W.Frag) (mg : Str → Option Value) (XN : Addr) : Prop where
  g : mg "NoFormula" = some (.ref XN)
  k : PySem.W.keepIn K (.ref XN) = true
  x : PySem.W.excIn K XN [.type "ValueError", .type "Exception", .type "BaseException", .type "object"] "ValueError.__new__" = true
  b : PySem.W.subIn K (.ref XN) (.type "BaseException") = some true
  t : PySem.W.typeIn K (.ref XN) = some (.type "type")
abbrev sEq : Stmt := sMeth 4
def spEq (K : PySem.W.Frag) (C XN : Addr) (n : Nat) : Sp := fun vs H Q E => ∃ p d kvs kn m v1 v2 a b r, vs = [.ref p, v1, v2] ∧ TyAt C H p d kvs m ∧ KnR K H kvs kn ∧ Td K H v1 a ∧ Td K H v2 b ∧ eq n kn a b = some r ∧ kn.length + 2 ^ n ≤ lim ∧
  (∀ kn' kvs' H', r = some kn' → Sm p d H H' → TyAt C H' p d kvs' m → KnR K H' kvs' kn' → kn'.length ≤ kn.length + 2 ^ n → Q .non H') ∧ (∀ H', r = none → Sm p d H H' → E (.ref XN) none H')
/-- a method that is at hand -/
structure Mt (P : Program) (w : World) (K : PySem.W.Frag) (mg : Str → Option Value) (base : Heap) (CX : CXT) (C : Addr) (k : Nat) (x : Str) (ps : List Str) (sp : Sp) (f : Addr) (fd : FuncData) : Prop where
  m : Meth K C x f
  b : Binds K fd ps []
  ok : FnOk P w K mg base CX k f fd ps sp
section
variable {P : Program} {w : World} {K : PySem.W.Frag} {mg : Str → Option Value} {base : Heap} {C XN : Addr} {f fr fh : Addr} {fd fdr fdh : FuncData}
theorem scE : FnScope ["self", "first", "second", "one", "other"] ["self", "first", "second"] (defScope sEq) := ⟨rfl, rfl, rfl, by decide +kernel, rfl, by decide +kernel, by decide +kernel⟩
theorem ok_eq (F : Fun K "make_equal" "Typer.make_equal" sEq f fd) (T : Txt K mg C) (N : NoF K mg XN) (hzip : mg "zip" = none) (mE : Meth K C "make_equal" f) (bE : Binds K fd ["self", "first", "second"] [])
    (MR : Mt P w K mg base CX0 C 100 "resolved" ["self", "kind"] (spRes K C 100) fr fdr) (MH : Mt P w K mg base CX0 C 100 "has" ["self", "kind", "number"] (spHas K C 100) fh fdh) :
    ∀ n, FnOk P w K mg base (L2.CX P w) (100 + n) f fd ["self", "first", "second"] (spEq K C XN n)
  | 0 => by
    have no : ∀ vs H Q E, ¬ spEq K C XN 0 vs H Q E := fun vs H Q E h => by
      obtain ⟨_, _, _, _, _, _, _, _, _, _, _, _, _, _, _, h, _⟩ := h
      cases h
    exact ⟨fun vs H Q E h => absurd h (no vs H Q E), fun A outer s H args us vs Q E _ _ _ _ h => absurd h (no vs H Q E)⟩
  | n + 1 => by
    have G := ok_eq F T N hzip mE bE MR MH n
    refine F.okX scE (fun vs H Q E h => ?_) (fun cdv A outer s H vs Q E hr h => ?_)
    · obtain ⟨_, _, _, _, _, _, _, _, _, _, rfl, _⟩ := h
      rfl
    obtain ⟨p, d, kvs, kn, m, v1, v2, a, b, r, rfl, t, hk, hv1, hv2, e, hlen, q, qe⟩ := h
    have hu := hu_of hr
    have hr1 := hr.mono (show 100 ≤ 100 + n by omega)
    refine ⟨_, pss_cons (ps_par (i := 1) (j := 2) rfl scE.nd rfl rfl (by decide) rfl rfl (pa_cons (pe_meth (pv 0) T.cl MR.m MR.ok hr1 MR.b .nil pass0 (pa_cons (pv 1) pa_nil)) (pa_cons (pe_meth (pv 0) T.cl MR.m MR.ok hr1 MR.b .nil pass0 (pa_cons (pv 2) pa_nil)) pa_nil)) (by rfl))
      (pss_cons (ps_if (pt_cmpR (op_eqD hr.units) (pv 1) (pv 2) (nomark _)) (pss_one ps_retN) pss_nil)
      (pss_cons (ps_for (passes_of rfl) rfl (pi_tup (pe_tup (pa_cons (pe_tup (pa_cons (pv 1) (pa_cons (pv 2) pa_nil))) (pa_cons (pe_tup (pa_cons (pv 2) (pa_cons (pv 1) pa_nil))) pa_nil))))
          (pg_tup (by rfl) (pgs_cons (pg_name (i := 3) scE.nd rfl (Or.inl rfl)) (pgs_cons (pg_name (i := 4) scE.nd rfl (Or.inl rfl)) pgs_nil)))
          (pss_one (ps_if (pt_cmpR op_eq (pe_ix ix_tup (pv 3) pe_int (fun _ _ => rfl)) pe_str (nomark _))
            (pss_cons (ps_if (pt_val (pe_meth (pv 0) T.cl MH.m MH.ok hr1 MH.b .nil pass0 (pa_cons (pv 4) (pa_cons (pe_ix ix_tup (pv 3) pe_int (fun _ _ => rfl)) pa_nil))))
                (pss_one (ps_raise rfl (takes_of rfl rfl rfl rfl) (pmk_own PySem.F.excBase_ValueError N.x N.g N.k (raises_own N.b N.t) rfl))) pss_nil)
              (pss_cons (ps_dput hu (pe_fld (pv 0) rfl) (pe_ix ix_tup (pv 3) pe_int (fun _ _ => rfl)) (pv 4) rfl) (pss_one ps_retN))) pss_nil)))
      (pss_cons (ps_if (pt_cmpR op_ne (pe_ix ix_tup (pv 1) pe_int (fun _ _ => rfl)) (pe_ix ix_tup (pv 2) pe_int (fun _ _ => rfl)) (nomark _))
          (pss_one (ps_raise rfl (takes_of rfl rfl rfl rfl) (pmk_own PySem.F.excBase_ValueError N.x N.g N.k (raises_own N.b N.t) rfl))) pss_nil)
      (pss_one (ps_for (passes_of rfl) rfl (RZ.pi_zipA (by rfl) hzip (pa_cons (pe_slice sl_tupA (pv 1) (po_some pe_int) po_none) (pa_cons (pe_slice sl_tupA (pv 2) (po_some pe_int) po_none) pa_nil)))
          (pg_tup (by rfl) (pgs_cons (pg_name (i := 3) scE.nd rfl (Or.inl rfl)) (pgs_cons (pg_name (i := 4) scE.nd rfl (Or.inl rfl)) pgs_nil)))
          (pss_one (ps_expr (pe_meth (pv 0) T.cl mE G hr bE .nil (passes_call (takes_of rfl rfl rfl rfl) fun _ _ _ _ h => h) (pa_cons (pv 3) (pa_cons (pv 4) pa_nil)))))))))), ?_⟩
    obtain ⟨⟨dx, h1⟩, h2⟩ := id t
    have nr : (flds d m).lookup ("resolved" : Str) = none := flds_no _ _ (by decide +kernel) (by decide +kernel)
    have nh : (flds d m).lookup ("has" : Str) = none := flds_no _ _ (by decide +kernel) (by decide +kernel)
    have ne : (flds d m).lookup ("make_equal" : Str) = none := flds_no _ _ (by decide +kernel) (by decide +kernel)
    obtain ⟨a', b', ra, rb, e2⟩ := eq_cases e
    obtain ⟨sa, sb, cs⟩ := eq2_cases e2
    refine ⟨_, rfl, p, dx, _, rfl, h1, nr, _, rfl, p, d, kvs, kn, m, v1, a, a', rfl, t, hk, hv1, ra, fun u1 H1 s1 hu1 => ?_⟩
    refine ⟨_, rfl, p, dx, _, rfl, s1 _ _ h1, nr, _, rfl, p, d, kvs, kn, m, v2, b, b', rfl, t.same s1, hk.tt (TT.same s1), hv2.tt (TT.same s1), rb, fun u2 H2 s2 hu2 => ?_⟩
    have hu1 := hu1.tt (TT.same s2)
    have s2 := s1.trans s2
    refine ⟨_, _, rfl, _, rfl, _, rfl, a', b', hu1.dp, hu2.dp, sa, sb, _, rfl, ?_⟩
    rcases cs with ⟨ev, rfl⟩ | ⟨ev, wa, ps, wb, qs, rfl, rfl, f1, f2, f3, f4⟩
    · rw [ev]
      exact iteT (q kn kvs H2 rfl (Sm.same s2) (t.same s2) (hk.tt (TT.same s2)) (Nat.le_add_right _ _))
    rw [ev]
    refine iteF ?_
    have pw : 0 < 2 ^ (n + 1) := Nat.pow_pos (by decide)
    refine ⟨_, rfl, _, rfl, (by show 2 ≤ sizeLine; decide), fun t1 ht1 => ⟨_, rfl, _, rfl, (by show 2 ≤ sizeLine; decide), fun t2 ht2 => ⟨(by show 2 ≤ sizeLine; decide), fun t3 ht3 => ?_⟩⟩⟩
    have s3 := s2.trans (same_new ht1 (.tup [u1, u2]))
    have s4 := s3.trans (same_new ht2 (.tup [u2, u1]))
    have s5 := s4.trans (same_new ht3 (.tup [.ref t1, .ref t2]))
    have x1 := (same_new ht3 (.tup [.ref t1, .ref t2])) t1 _ ((same_new ht2 (.tup [u2, u1])) t1 _ (upd_same (o := .tup [u1, u2])))
    have x2 := (same_new ht3 (.tup [.ref t1, .ref t2])) t2 _ (upd_same (o := .tup [u2, u1]))
    have x3 := upd_same (H := upd (upd H2 t1 (.tup [u1, u2])) t2 (.tup [u2, u1])) (a := t3) (o := .tup [.ref t1, .ref t2])
    have hu1 := ((hu1.tt (TT.same (same_new ht1 (.tup [u1, u2])))).tt (TT.same (same_new ht2 (.tup [u2, u1])))).tt (TT.same (same_new ht3 (.tup [.ref t1, .ref t2])))
    have hu2 := ((hu2.tt (TT.same (same_new ht1 (.tup [u1, u2])))).tt (TT.same (same_new ht2 (.tup [u2, u1])))).tt (TT.same (same_new ht3 (.tup [.ref t1, .ref t2])))
    generalize upd (upd (upd H2 t1 (.tup [u1, u2])) t2 (.tup [u2, u1])) t3 (.tup [.ref t1, .ref t2]) = H5 at s5 x1 x2 x3 hu1 hu2
    refine ⟨t3, rfl, ⟨_, .inl (.inl x3)⟩, ?_⟩
    refine for_tup (xs := [.ref t1, .ref t2]) (fun j σ H' => (j = 0 ∨ (j = 1 ∧ wa ≠ "var") ∨ (j = 2 ∧ wa ≠ "var" ∧ wb ≠ "var")) ∧ H' = H5 ∧ ∃ o1 o2, σ = [some (V.ref p), some u1, some u2, o1, o2]) ⟨.inl rfl, rfl, none, none, rfl⟩
      (fun j σ H' _ z => ?_) (fun j x σ H' hj z => ?_) fun σ H' z => ?_
    · obtain ⟨_, rfl, _⟩ := z
      exact .inl (.inl x3)
    · obtain ⟨cj, rfl, o1, o2, rfl⟩ := z
      obtain ⟨tt, u, z, wu, pu, zd, rfl, htt, hu', hz', fu, nx⟩ : ∃ tt u z wu pu zd, x = .ref tt ∧ H' tt = some (.tup [u, z]) ∧ Td K H' u (.tuple (.str wu :: pu)) ∧ Td K H' z zd ∧ (wu = "var" → ∃ i l, pu = .int i :: l ∧ bindV kn i zd = some r) ∧
          (wu ≠ "var" → (j + 1 = 0 ∨ (j + 1 = 1 ∧ wa ≠ "var") ∨ (j + 1 = 2 ∧ wa ≠ "var" ∧ wb ≠ "var"))) := by
        rcases cj with rfl | ⟨rfl, c1⟩ | ⟨rfl, _⟩
        · cases hj
          exact ⟨t1, u1, u2, wa, ps, _, rfl, x1, hu1, hu2, f1, fun z => .inr (.inl ⟨rfl, z⟩)⟩
        · cases hj
          exact ⟨t2, u2, u1, wb, qs, _, rfl, x2, hu2, hu1, f2 c1, fun z => .inr (.inr ⟨rfl, c1, z⟩)⟩
        · cases hj
      obtain ⟨ua, us, rfl, hua, hus⟩ := hu'.node
      refine ⟨tt, _, rfl, .inl (.inl htt), rfl, _, _, rfl, _, _, rfl, rfl, ?_⟩
      refine ⟨_, rfl, _, _, _, _, rfl, rfl, hua.seq, at0, rfl, _, rfl, ?_⟩
      by_cases hw : wu = "var"
      · subst hw
        refine Eq.mpr (congrArg (fun z => if z = true then _ else _) (dEqT rfl)) (iteT ?_)
        obtain ⟨i, l, rfl, hb⟩ := fu rfl
        cases hus with
        | cons hi hl =>
        cases hi
        unfold bindV at hb
        cases hh : has R zd i with
        | none => rw [hh] at hb; cases hb
        | some c =>
        rw [hh] at hb
        refine ⟨_, rfl, p, dx, _, rfl, s5 _ _ h1, nh, _, rfl, _, rfl, _, _, _, _, rfl, rfl, hua.seq, at1, ?_⟩
        refine ⟨p, dx, _, z, zd, i, c, rfl, s5 _ _ h1, nh, hz', hh, fun H6 s6 => ?_⟩
        refine ⟨_, rfl, ?_⟩
        cases c with
        | true =>
          cases hb
          exact iteT (qe _ rfl (Sm.same (s5.trans s6)))
        | false =>
          cases hb
          refine iteF ?_
          have s7 := s5.trans s6
          have l1 := TabR.len (hk.tt (TT.same s7))
          refine ⟨_, rfl, _, rfl, p, C, dx, _, _, rfl, s7 _ _ h1, T.cl, T.nK, flds_known _ _, _, rfl, _, _, _, _, rfl, rfl, (hua.tt (TT.same s6)).seq, at1, ?_⟩
          refine ⟨d, _, rfl, DPut.k (k := Sum.inl i) (s7 _ _ h2) ?_, ?_⟩
          · rw [l1]
            show kn.length < (16777216 : Nat)
            have : lim = 16000000 := rfl
            omega
          · have npd : p ≠ d := fun z => by rw [z, h2] at h1; cases h1
            have s8 : Sm p d H (upd H6 d (.dK (putK kvs (Sum.inl i) z))) := (Sm.same s7).trans fun b o e _ hb => by rw [upd_ne hb]; exact e
            refine q _ _ _ rfl s8 ⟨⟨dx, ?_⟩, upd_same⟩ ?_ ?_
            · rw [upd_ne npd]
              exact s7 _ _ h1
            · have tu : TT H6 (upd H6 d (.dK (putK kvs (Sum.inl i) z))) := TT.upd (s7 _ _ h2) fun _ z => by cases z
              exact TabR.put (e := (Sum.inl : Int → Key)) inj_l ((hz'.tt (TT.same s6)).tt tu) ((hk.tt (TT.same s7)).tt tu)
            · have := pk_len (kn := kn) (i := i) (d := zd)
              omega
      · refine Eq.mpr (congrArg (fun z => if z = true then _ else _) (dEqF hw)) (iteF ?_)
        exact ⟨nx hw, rfl, _, _, rfl⟩
    · obtain ⟨cj, rfl, o1, o2, rfl⟩ := z
      have cw : wa ≠ "var" ∧ wb ≠ "var" := by
        rcases cj with z | ⟨z, _⟩ | ⟨_, z⟩
        · cases z
        · cases z
        · exact z
      obtain ⟨pa, us, rfl, hpa, hus⟩ := hu1.node
      obtain ⟨pb, zs, rfl, hpb, hzs⟩ := hu2.node
      refine ⟨_, rfl, _, _, _, _, rfl, rfl, hpa.seq, at0, _, rfl, _, _, _, _, rfl, rfl, hpb.seq, at0, rfl, _, rfl, ?_⟩
      by_cases hw : wa = wb
      · subst hw
        have e1 : (!decide (V.str wa = V.str wa)) = false := by rw [dEqT rfl]; rfl
        refine Eq.mpr (congrArg (fun z => if z = true then _ else _) e1) (iteF ?_)
        obtain ⟨l1, l2, hq⟩ := f3 cw.1 cw.2 rfl
        refine ⟨_, rfl, _, rfl, pa, _, rfl, hpa.seq, (fun z => absurd z cut1_ne), fun _ g1 hg1 => ?_⟩
        rw [cut1]
        have s6 := s5.trans (same_new hg1 (.tup us))
        refine ⟨_, rfl, _, rfl, pb, _, rfl, (hpb.tt (TT.same (same_new hg1 _))).seq, (fun z => absurd z cut1_ne), fun _ g2 hg2 => ?_⟩
        rw [cut1]
        have s7 := s6.trans (same_new hg2 (.tup zs))
        have y1 := (same_new hg2 (.tup zs)) _ _ (upd_same (H := H') (a := g1) (o := .tup us))
        have y2 := upd_same (H := upd H' g1 (.tup us)) (a := g2) (o := .tup zs)
        have hus := (hus.tt (TT.same (same_new hg1 (.tup us)))).tt (TT.same (same_new hg2 (.tup zs)))
        have hzs := (hzs.tt (TT.same (same_new hg1 (.tup us)))).tt (TT.same (same_new hg2 (.tup zs)))
        generalize upd (upd H' g1 (.tup us)) g2 (.tup zs) = H7 at s7 y1 y2 hus hzs
        refine ⟨g1, g2, us, zs, rfl, .inr ⟨.inl (.inl y1), .inl (.inl y2), ?_⟩⟩
        have lu := hus.len
        have lz := hzs.len
        have e2n : 2 ^ (n + 1) = 2 ^ n + 2 ^ n := by rw [Nat.pow_succ]; omega
        refine RZ.for_zipT (xs := us) (ys := zs) (by omega) (fun j σ H' => ∃ kn' kvs' o1 o2, σ = [some (V.ref p), some (V.ref pa), some (V.ref pb), o1, o2] ∧ Sm p d H H' ∧ TyAt C H' p d kvs' m ∧ KnR K H' kvs' kn' ∧ TdA K H' us ps ∧ TdA K H' zs qs ∧ H' g1 = some (.tup us) ∧ H' g2 = some (.tup zs) ∧
          kn'.length ≤ kn.length + j * 2 ^ n ∧ eqs (eq n) kn' ((ps.zip qs).drop j) = some r) ⟨kn, kvs, o1, o2, rfl, Sm.same s7, t.same s7, hk.tt (TT.same s7), hus, hzs, y1, y2, by omega, hq⟩ (fun j σ H' z => ?_) (fun j x y T' σ H' hx hy z hT => ?_) fun σ H' z => ?_
        · obtain ⟨_, _, _, _, _, _, _, _, _, _, z1, z2, _⟩ := z
          exact ⟨.inl (.inl z1), .inl (.inl z2)⟩
        · obtain ⟨kn', kvs', o1, o2, rfl, sm, t', hk', hus', hzs', z1, z2, hl, he⟩ := z
          obtain ⟨dp, d1, d2⟩ := hus'.get hx
          obtain ⟨dq, d3, d4⟩ := hzs'.get hy
          have lj : j < us.length := by
            by_cases h : j < us.length
            · exact h
            · rw [List.getElem?_eq_none (by omega)] at hx; cases hx
          have ez : (ps.zip qs).drop j = (dp, dq) :: (ps.zip qs).drop (j + 1) := by
            have lz' : j < (ps.zip qs).length := by rw [List.length_zip]; omega
            rw [List.drop_eq_getElem_cons lz', List.getElem_zip]
            have a1 : j < ps.length := by omega
            have a2 : j < qs.length := by omega
            rw [List.getElem?_eq_getElem a1] at d1
            rw [List.getElem?_eq_getElem a2] at d3
            cases d1
            cases d3
            rfl
          rw [ez] at he
          unfold eqs at he
          have sT := same_new hT (.tup [x, y])
          have hj2 : j * 2 ^ n ≤ 1 * 2 ^ n := Nat.mul_le_mul_right _ (by omega)
          refine ⟨T', _, rfl, .inl (.inl upd_same), rfl, _, _, rfl, _, _, rfl, rfl, ?_⟩
          have t2 := t'.same sT
          obtain ⟨⟨dx', k1⟩, k2⟩ := id t2
          refine ⟨_, rfl, p, dx', _, rfl, k1, ne, _, rfl, _, rfl, ?_⟩
          cases hr1 : eq n kn' dp dq with
          | none => rw [hr1] at he; cases he
          | some r1 =>
          rw [hr1] at he
          refine ⟨p, d, kvs', kn', m, x, y, dp, dq, r1, rfl, t2, hk'.tt (TT.same sT), d2.tt (TT.same sT), d4.tt (TT.same sT), hr1, by omega, fun kn2 kvs2 H8 hr2 sm8 t8 hk8 hl8 => ?_, fun H8 hr2 sm8 => ?_⟩
          · subst hr2
            have tt8 := (TT.same sT).trans (t2.tt sm8)
            refine ⟨kn2, kvs2, some x, some y, rfl, sm.trans ((Sm.same sT).trans sm8), t8, hk8, hus'.tt tt8, hzs'.tt tt8, tt8 _ _ z1, tt8 _ _ z2, ?_, he⟩
            rw [Nat.add_mul]
            omega
          · subst hr2
            cases he
            exact qe _ rfl (sm.trans ((Sm.same sT).trans sm8))
        · obtain ⟨kn', kvs', o1, o2, rfl, sm, t', hk', hus', hzs', z1, z2, hl, he⟩ := z
          rw [List.drop_eq_nil_of_le (by rw [List.length_zip]; omega)] at he
          cases he
          refine q _ _ _ rfl sm t' hk' ?_
          have : us.length * 2 ^ n ≤ 2 * 2 ^ n := Nat.mul_le_mul_right _ (by omega)
          omega
      · have e1 : (!decide (V.str wa = V.str wb)) = true := by rw [dEqF hw]; rfl
        refine Eq.mpr (congrArg (fun z => if z = true then _ else _) e1) (iteT ?_)
        exact qe _ (f4 cw.1 cw.2 hw) (Sm.same s5)
end
end W63
/-! rules: a dict's update, walks over a dict's keys, dict comprehensions over lists -/
namespace W63
open PySem L2 M63
section
variable {X : Cx}
/-- d.update(e), e a dict -/
def rUpd : V → List V → Hp → VK → Prop := fun x vs H Q => ∃ d o kvs more, x = .ref d ∧ vs = [.ref o] ∧ H d = some (.dK kvs) ∧ Rd H o (.dK more) ∧ d ≠ o ∧ kvs.length + more.length ≤ sizeLine ∧ Q .non (upd H d (.dK (mergeK kvs more)))
theorem mt_update : MtM X "dict.update" rUpd := by
  intro pins s σ H x vs v us Q I rx rv h
  obtain ⟨d, o, kvs, more, rfl, rfl, hd, ho, hne, hz, q⟩ := h
  cases rx
  obtain ⟨u, rfl, ru⟩ := rv.one
  cases ru
  obtain ⟨z1, d1, vs1, rel1, dd1⟩ := dk_of I.hok hd
  obtain ⟨z2, d2, vs2, rel2, dd2⟩ := dk_rd I.hok ho
  refine call_meetsIn PySem.F.slot_dict_update dd1.typeIs PySem.F.entry_dict_update (PySem.F.args_dict_update_2 _ _) (PySem.meets_dict_update (mixKind X.prog X.w) d o hne d2) ⟨vs1, vs2, dd1, dd2, by rw [← rel1.length, ← rel2.length]; exact hz, fun h' k1 k2 hs => ?_⟩
  have he : ∃ q, h'.get? d = some q := let ⟨q, _, _, hq, _⟩ := k1; ⟨q, hq⟩
  refine ⟨.non, _, d_write (t' := s.toks) I (by rw [hd]; exact True.intro) hs he (dk_new (Nat.le_trans (length_mergeK _ _) hz) d1 (KV.merge rel2 rel1) k1), rfl, q⟩
end
theorem dc_list {K : PySem.W.Frag} {a : Addr} {xs : List V} {g : TG} {tt : L2.TT} {tk tv : TE} {vs : List Nat} {σ : L2.St} {H1 : Hp} {D : Addr} {Qd : Hp → Prop} (Pv : Nat → Hp → Prop) (h0 : Pv 0 (upd H1 D (.dK []))) (hl : ∀ i H, i ≤ xs.length → Pv i H → SqL K H a xs)
    (hs : ∀ (i : Nat) x H, xs[i]? = some x → Pv i H → g x (wipe σ vs) H fun σ2 H2 => wipe σ2 vs = wipe σ vs ∧ tt σ2 H2 fun b H3 =>
      if b = true then tk σ2 H3 fun y H4 => tv σ2 H4 fun z H5 => ∃ kvs k, y = kV k ∧ H5 D = some (.dK kvs) ∧ kvs.length < sizeLine ∧ Pv (i + 1) (upd H5 D (.dK (putK kvs k z))) else Pv (i + 1) H3) (hd : ∀ H, Pv xs.length H → Qd H) :
    ∃ W : Nat → Nat → Hp → Prop, (∃ m, W 0 m (upd H1 D (.dK []))) ∧ ∀ i m H, W i m H →
      ((Itl K a).stop i H ∧ Qd H) ∨ ((Itl K a).go i H ∧ ∃ Nx : Hp → Prop, (∀ H', Nx H' → ∃ m', m' < m ∧ W (i + 1) m' H') ∧ ∀ x H', (Itl K a).yld i H x H' → g x (wipe σ vs) H' fun σ2 H2 => wipe σ2 vs = wipe σ vs ∧ tt σ2 H2 fun b H3 =>
        if b = true then tk σ2 H3 fun y H4 => tv σ2 H4 fun z H5 => ∃ kvs k, y = kV k ∧ H5 D = some (.dK kvs) ∧ kvs.length < sizeLine ∧ Nx (upd H5 D (.dK (putK kvs k z))) else Nx H3) := by
  refine ⟨fun i m H => m = xs.length - i ∧ i ≤ xs.length ∧ Pv i H, ⟨xs.length, by simp, Nat.zero_le _, h0⟩, ?_⟩
  rintro i m H ⟨rfl, hi, p⟩
  have q := hl i H hi p
  by_cases hlt : i < xs.length
  · refine .inr ⟨⟨xs, xs[i], q, by simp [hlt]⟩, Pv (i + 1), fun H' p' => ⟨xs.length - (i + 1), by omega, rfl, hlt, p'⟩, fun x H' y => ?_⟩
    obtain ⟨e, y⟩ := y
    subst e
    exact hs i x _ (y xs q) p
  · have e : i = xs.length := by omega
    subst e
    exact .inl ⟨⟨xs, q, Nat.le_refl _⟩, hd H p⟩
theorem dc_enum {K : PySem.W.Frag} {a : Addr} {xs : List V} {g : TG} {tt : L2.TT} {tk tv : TE} {vs : List Nat} {σ : L2.St} {H1 : Hp} {D : Addr} {Qd : Hp → Prop} (Pv : Nat → Hp → Prop) (h0 : Pv 0 (upd H1 D (.dK []))) (hl : ∀ i H, i ≤ xs.length → Pv i H → SqL K H a xs)
    (hs : ∀ (i : Nat) x T H, xs[i]? = some x → Pv i H → H T = none → g (.ref T) (wipe σ vs) (upd H T (.tup [.int (i : Nat), x])) fun σ2 H2 => wipe σ2 vs = wipe σ vs ∧ tt σ2 H2 fun b H3 =>
      if b = true then tk σ2 H3 fun y H4 => tv σ2 H4 fun z H5 => ∃ kvs k, y = kV k ∧ H5 D = some (.dK kvs) ∧ kvs.length < sizeLine ∧ Pv (i + 1) (upd H5 D (.dK (putK kvs k z))) else Pv (i + 1) H3) (hd : ∀ H, Pv xs.length H → Qd H) :
    ∃ W : Nat → Nat → Hp → Prop, (∃ m, W 0 m (upd H1 D (.dK []))) ∧ ∀ i m H, W i m H →
      ((Ite K a).stop i H ∧ Qd H) ∨ ((Ite K a).go i H ∧ ∃ Nx : Hp → Prop, (∀ H', Nx H' → ∃ m', m' < m ∧ W (i + 1) m' H') ∧ ∀ x H', (Ite K a).yld i H x H' → g x (wipe σ vs) H' fun σ2 H2 => wipe σ2 vs = wipe σ vs ∧ tt σ2 H2 fun b H3 =>
        if b = true then tk σ2 H3 fun y H4 => tv σ2 H4 fun z H5 => ∃ kvs k, y = kV k ∧ H5 D = some (.dK kvs) ∧ kvs.length < sizeLine ∧ Nx (upd H5 D (.dK (putK kvs k z))) else Nx H3) := by
  refine ⟨fun i m H => m = xs.length - i ∧ i ≤ xs.length ∧ Pv i H, ⟨xs.length, by simp, Nat.zero_le _, h0⟩, ?_⟩
  rintro i m H ⟨rfl, hi, p⟩
  have q := hl i H hi p
  by_cases hlt : i < xs.length
  · refine .inr ⟨⟨xs, xs[i], q, by simp [hlt]⟩, Pv (i + 1), fun H' p' => ⟨xs.length - (i + 1), by omega, rfl, hlt, p'⟩, fun x H' y => ?_⟩
    obtain ⟨T, z, rfl, hT, rfl, y⟩ := y
    exact hs i z T _ (y xs q) p hT
  · have e : i = xs.length := by omega
    subst e
    exact .inl ⟨⟨xs, q, Nat.le_refl _⟩, hd H p⟩
theorem for_keys {c : Addr} {o : Obj} {kvs : List (Key × V)} {g : TG} {tb : TS} {D : Ends} {σ : L2.St} {H : Hp} (Pv : Nat → L2.St → Hp → Prop) (h0 : Pv 0 σ H) (hl : ∀ i σ H, Pv i σ H → H c = some (.frz o (.dK kvs)))
    (hs : ∀ (i : Nat) k v σ H, kvs[i]? = some (k, v) → Pv i σ H → g (kV k) σ H fun σ2 H2 => tb { D with nx := Pv (i + 1), ct := Pv (i + 1), bk := D.nx } σ2 H2) (hd : ∀ σ H, Pv kvs.length σ H → D.nx σ H) :
    ∃ W : Nat → Nat → L2.St → Hp → Prop, (∃ m, W 0 m σ H) ∧ ∀ i m σ H, W i m σ H →
      ((Itk c o kvs).stop i H ∧ D.nx σ H) ∨ ((Itk c o kvs).go i H ∧ ∃ N : L2.St → Hp → Prop, (∀ σ' H', N σ' H' → ∃ m', m' < m ∧ W (i + 1) m' σ' H') ∧ ∀ x H', (Itk c o kvs).yld i H x H' → g x σ H' fun σ2 H2 => tb { D with nx := N, ct := N, bk := D.nx } σ2 H2) := by
  refine ⟨fun i m σ H => m = kvs.length - i ∧ i ≤ kvs.length ∧ Pv i σ H, ⟨kvs.length, by simp, Nat.zero_le _, h0⟩, ?_⟩
  rintro i m σ H ⟨rfl, hi, p⟩
  have q := hl i σ H p
  by_cases hlt : i < kvs.length
  · refine .inr ⟨⟨q, hlt⟩, Pv (i + 1), fun σ' H' p' => ⟨kvs.length - (i + 1), by omega, rfl, hlt, p'⟩, fun x H' y => ?_⟩
    obtain ⟨e, k, v, y, e2⟩ := y
    subst e e2
    exact hs i k v σ _ y p
  · have e : i = kvs.length := by omega
    subst e
    exact .inl ⟨⟨q, Nat.le_refl _⟩, hd σ H p⟩
/-! ### dicts that stand for sets of numbers -/
def Mem (kvs : List (Key × V)) (S : List Int) : Prop := (∀ i : Int, (valV kvs (.inl i)).isSome = decide (i ∈ S)) ∧ kvs.length ≤ S.length
theorem Mem.nil : Mem [] [] := ⟨fun _ => rfl, Nat.le_refl _⟩
theorem Mem.put {kvs : List (Key × V)} {S : List Int} (h : Mem kvs S) (i : Int) (v : V) : Mem (putK kvs (.inl i) v) (S ++ [i]) := by
  refine ⟨fun j => ?_, ?_⟩
  · rw [valV_put]
    by_cases e : j = i
    · subst e; simp
    · rw [if_neg fun z => e (inj_l _ _ z), h.1]
      simp [e]
  · have := length_putK kvs (.inl i) v
    have := h.2
    rw [List.length_append]
    show _ ≤ S.length + 1
    omega
theorem mem_mergeK (k : Key) : ∀ (more kvs : List (Key × V)), (valV (mergeK kvs more) k).isSome = ((valV kvs k).isSome || (valV more k).isSome)
  | [], kvs => by show (valV kvs k).isSome = _; rw [valV_nil]; simp
  | p :: r, kvs => by
    show (valV (mergeK (putK kvs p.1 p.2) r) k).isSome = _
    rw [mem_mergeK k r, valV_put]
    by_cases e : k = p.1
    · rw [if_pos e, valV_pos e.symm]; simp
    · rw [if_neg e, valV_neg fun z => e z.symm]
theorem Mem.merge {kvs more : List (Key × V)} {S S' : List Int} (h : Mem kvs S) (g : Mem more S') : Mem (mergeK kvs more) (S ++ S') := by
  refine ⟨fun i => ?_, ?_⟩
  · rw [mem_mergeK, h.1, g.1]
    simp
  · have := length_mergeK more kvs
    have := h.2
    have := g.2
    rw [List.length_append]
    omega
end W63
/-! __init__, with_name, opened, closed -/
namespace W63
open PySem L2 M63
abbrev sInit : Stmt := sMeth 0
abbrev sOpn : Stmt := sMeth 5
abbrev sCls : Stmt := sMeth 7
abbrev sWith : Stmt := sMeth 9
def spInit (K : PySem.W.Frag) (C : Addr) : Sp := fun vs H Q _ => ∃ p dx, vs = [.ref p] ∧ H p = some (.ins C dx []) ∧ ∀ d H', H d = none → (∀ b o, H b = some o → b ≠ p → H' b = some o) → TyAt C H' p d [] 2 → Q .non H'
def spWith (K : PySem.W.Frag) : Sp := fun vs H Q _ => ∃ p c x v ss sc s, vs = [p, .ref c, .str x, v] ∧ H c = some (.dK ss) ∧ ScR K H ss sc ∧ SchR K H v s ∧ sc.length ≤ 1000 ∧
  ∀ c' ss' H', Same H H' → H c' = none → H' c' = some (.dK ss') → ScR K H' ss' (pk sc x s) → Q (.ref c') H'
def spOpn (K : PySem.W.Frag) (C : Addr) : Sp := fun vs H Q _ => ∃ p d kvs m v s k m', vs = [.ref p, v] ∧ TyAt C H p d kvs m ∧ SchR K H v s ∧ opn m s = some (k, m') ∧ ∀ v' H', Sm p d H H' → TyAt C H' p d kvs m' → Td K H' v' k → Q v' H'
def spCls (K : PySem.W.Frag) (C : Addr) : Sp := fun vs H Q _ => ∃ p d kvs kn m v c ss sc k s, vs = [.ref p, v, .ref c] ∧ TyAt C H p d kvs m ∧ KnR K H kvs kn ∧ Td K H v k ∧ H c = some (.dK ss) ∧ ScR K H ss sc ∧ c ≠ d ∧ sc.length ≤ 1000 ∧ cls kn k sc = some s ∧
  ∀ v' H', Same H H' → SchR K H' v' s → Q v' H'
section
variable {P : Program} {w : World} {K : PySem.W.Frag} {mg : Str → Option Value} {base : Heap} {C : Addr} {f fr fp fv ff : Addr} {fd fdr fdp fdv fdf : FuncData} {tB : Nat}
theorem Sm.to {p d D : Addr} {H H1 : Hp} {o : HO} (e : Sm p d H H1) (h : H D = none) : Sm p d H (upd H1 D o) := fun b u q h1 h2 => by
  rw [upd_ne (ne_of_none q h)]
  exact e b u q h1 h2
theorem TyAt.upd {p d D : Addr} {H : Hp} {o : HO} {kvs : List (Key × V)} {m : Int} (t : TyAt C H p d kvs m) (h1 : D ≠ p) (h2 : D ≠ d) : TyAt C (upd H D o) p d kvs m :=
  ⟨let ⟨dx, h⟩ := t.ob; ⟨dx, by rw [upd_ne (Ne.symm h1)]; exact h⟩, by rw [upd_ne (Ne.symm h2)]; exact t.dc⟩
theorem scI : FnScope ["self"] ["self"] (defScope sInit) := ⟨rfl, rfl, rfl, by decide +kernel, rfl, by decide +kernel, by decide +kernel⟩
theorem ok_init (F : Fun K "__init__" "Typer.__init__" sInit f fd) (T : Txt K mg C) (hB : mg "BUILTIN_VARIABLES" = some (.int 2 tB)) : FnOk P w K mg base CX0 1 f fd ["self"] (spInit K C) := by
  refine F.ok scI (fun vs H Q E h => ?_) (fun cdv A outer s H vs Q E hr h => ?_)
  · obtain ⟨_, _, rfl, _⟩ := h
    rfl
  obtain ⟨p, dx, rfl, h1, q⟩ := h
  refine ⟨_, pss_cons (ps_fld (pv 0) pe_dnewK rfl) (pss_one (ps_fld (pv 0) (pe_glob (v := V.int 2) rfl hB ⟨_, rfl⟩) rfl)), ?_⟩
  intro d hd
  have npd : p ≠ d := fun z => by rw [z, hd] at h1; cases h1
  refine ⟨_, rfl, p, C, dx, _, rfl, (same_new hd _) _ _ h1, T.cl, T.nK, by decide, ?_⟩
  refine ⟨_, rfl, p, C, dx, _, rfl, upd_same, T.cl, T.nM, (by show 1 < 1000; decide), ?_⟩
  refine q d _ hd (fun b o hb nb => ?_) ⟨⟨dx, upd_same⟩, ?_⟩
  · rw [upd_ne nb, upd_ne nb]
    exact (same_new hd _) _ _ hb
  · rw [upd_ne (Ne.symm npd), upd_ne (Ne.symm npd)]
    exact upd_same
theorem scW : FnScope ["self", "scope", "name", "scheme", "more"] ["self", "scope", "name", "scheme"] (defScope sWith) := ⟨rfl, rfl, rfl, by decide +kernel, rfl, by decide +kernel, by decide +kernel⟩
theorem ok_with (F : Fun K "with_name" "Typer.with_name" sWith f fd) (hdict : mg "dict" = none) : FnOk P w K mg base CX0 1 f fd ["self", "scope", "name", "scheme"] (spWith K) := by
  refine F.ok scW (fun vs H Q E h => ?_) (fun cdv A outer s H vs Q E hr h => ?_)
  · obtain ⟨_, _, _, _, _, _, _, rfl, _⟩ := h
    rfl
  obtain ⟨p, c, x, v, ss, sc, s', rfl, h1, h2, h3, h4, q⟩ := h
  have hu := hu_of hr
  refine ⟨_, pss_cons (ps_set (i := 4) scW.nd rfl (Or.inl rfl) (pe_callTy call_dictD (by rfl) hdict (by decide +kernel) (pa_cons (pv 1) pa_nil))) (pss_cons (ps_dput hu (pv 4) (pv 2) (pv 3) rfl) (pss_one (ps_ret (pv 4)))), ?_⟩
  refine ⟨_, rfl, c, ss, rfl, .inl h1, fun c' hc' => ?_⟩
  have s1 := same_new hc' (.dK ss)
  have l1 := TabR.len h2
  refine ⟨_, rfl, _, rfl, _, rfl, c', _, rfl, DPut.k (k := Sum.inr x) upd_same ?_, _, rfl, ?_⟩
  · show ss.length < (16777216 : Nat)
    omega
  · have s2 : Same H (upd (upd H c' (.dK ss)) c' (.dK (putK ss (Sum.inr x) v))) := same_to s1 hc'
    refine q c' _ _ s2 hc' upd_same ?_
    exact TabR.put (e := (Sum.inr : Str → Key)) inj_r (h3.same s2) (ScR.same h2 s2)
theorem intsOf_ints : ∀ {ns : List Int}, intsOf (ns.map PyData.int) = some ns
  | [] => rfl
  | a :: r => by
    have ih := intsOf_ints (ns := r)
    unfold intsOf at ih ⊢
    rw [List.map_cons]
    unfold mapO
    simp only [ih]
theorem fresh_snoc : ∀ (ns : List Int) (x m : Int) (nm : Kn), fresh m (ns ++ [x]) nm = pk (fresh m ns nm) x (kv (m + ns.length))
  | [], x, m, nm => by
    show pk nm x (kv m) = pk nm x (kv (m + (0 : Nat)))
    rw [Int.natCast_zero, Int.add_zero]
  | a :: r, x, m, nm => by
    show fresh (m + 1) (r ++ [x]) (pk nm a (kv m)) = pk (fresh (m + 1) r (pk nm a (kv m))) x (kv (m + (r.length + 1 : Nat)))
    rw [fresh_snoc r x (m + 1)]
    have e : m + 1 + (r.length : Int) = m + ((r.length + 1 : Nat) : Int) := by omega
    rw [e]
theorem scO : FnScope ["self", "scheme", "names", "kind", "name"] ["self", "scheme"] (defScope sOpn) := ⟨rfl, rfl, rfl, by decide +kernel, rfl, by decide +kernel, by decide +kernel⟩
theorem ok_opn (F : Fun K "opened" "Typer.opened" sOpn f fd) (T : Txt K mg C) (MF : Mt P w K mg base CX0 C 1 "fresh" ["self"] (spFresh K C) ff fdf) (MP : Mt P w K mg base CX0 C 100 "put_in" ["self", "kind", "names"] (spPut K C 100) fp fdp) :
    FnOk P w K mg base CX0 101 f fd ["self", "scheme"] (spOpn K C) := by
  refine F.ok scO (fun vs H Q E h => ?_) (fun cdv A outer s H vs Q E hr h => ?_)
  · obtain ⟨_, _, _, _, _, _, _, _, rfl, _⟩ := h
    rfl
  obtain ⟨p, d, kvs, m, v, s', k, m', rfl, t, hs, e, q⟩ := h
  have hr1 := hr.mono (show 1 ≤ 100 by omega)
  refine ⟨_, pss_cons (ps_asg (pv 1) (pg_tup (by rfl) (pgs_cons (pg_name (i := 2) scO.nd rfl (Or.inl rfl)) (pgs_cons (pg_name (i := 3) scO.nd rfl (Or.inl rfl)) pgs_nil))))
    (pss_one (ps_ret (pe_meth (pv 0) T.cl MP.m MP.ok hr MP.b .nil pass0 (pa_cons (pv 3) (pa_cons (pe_dc (own := [("name", 4)]) (g := gName 4) (tt := tYes) rfl scO.nd (pi_list (pv 2))
      (blkOk_by (N := ["self", "scheme", "names", "kind", "name"]) (sc := defScope sOpn) (by decide +kernel)) (fun _ _ _ _ _ => pg_name (i := 4) scO.nd rfl (Or.inl rfl)) (fun _ _ _ _ _ => pts_nil)
      (fun _ _ _ _ _ => pv 4) (fun _ _ _ _ _ => pe_meth0 (pv 0) T.cl MF.m MF.ok hr1 MF.b .nil pass0)) pa_nil))))), ?_⟩
  obtain ⟨a, l, u, ns, k0, rfl, rfl, h1, h2, h3, h4⟩ := hs
  have e0 : (put R (fresh m ns []) k0).map (fun k' => (k', m + (ns.length : Int))) = some (k, m') := by
    have e' := e
    unfold scheme opn at e'
    simp only [intsOf_ints] at e'
    exact e'
  simp only [Option.map_eq_some_iff, Prod.mk.injEq] at e0
  obtain ⟨k2, e1, rfl, rfl⟩ := e0
  refine ⟨_, rfl, a, _, rfl, h1.seq, rfl, _, _, rfl, _, _, rfl, rfl, ?_⟩
  obtain ⟨⟨dx, t1⟩, t2⟩ := id t
  refine ⟨_, rfl, p, dx, _, rfl, t1, flds_no _ _ (by decide +kernel) (by decide +kernel), _, rfl, _, rfl, l, rfl, ⟨_, SqL.of h2⟩, fun D hD => ?_⟩
  have gl : ∀ {H' : Hp}, Sm p d H H' → H' l = some (.lst (ns.map V.int)) := fun sm => sm _ _ h2 (fun z => by rw [z, t1] at h2; cases h2) fun z => by rw [z, t2] at h2; cases h2
  refine dc_list (xs := ns.map V.int) (fun j H' => Sm p d H H' ∧ TyAt C H' p d kvs (m + j) ∧ ∃ es, H' D = some (.dK es) ∧ KnR K H' es (fresh m (ns.take j) []) ∧ es.length ≤ j) ?_ (fun j H' _ z => SqL.of (gl z.1)) (fun j x H' hj z => ?_) fun H' z => ?_
  · have s1 := same_new hD (.dK [])
    refine ⟨Sm.same s1, ?_, [], upd_same, trivial, Nat.le_refl _⟩
    rw [Int.natCast_zero, Int.add_zero]
    exact t.same s1
  · obtain ⟨sm, t', es, g1, g2, g3⟩ := z
    rw [List.getElem?_map] at hj
    cases en : ns[j]? with
    | none => rw [en] at hj; cases hj
    | some i =>
    rw [en] at hj
    cases hj
    have lj : j < ns.length := by
      by_cases h : j < ns.length
      · exact h
      · rw [List.getElem?_eq_none (by omega)] at en; cases en
    have tk : ns.take (j + 1) = ns.take j ++ [i] := by rw [List.take_succ, en]; rfl
    obtain ⟨⟨dx', k1⟩, k2⟩ := id t'
    refine ⟨rfl, ?_⟩
    dsimp only [tYes]
    refine iteT ⟨_, rfl, _, rfl, p, dx', _, rfl, k1, flds_no _ _ (by decide +kernel) (by decide +kernel), p, d, kvs, m + j, rfl, t', fun v' H5 s5 t5 hv' => ?_⟩
    have nDp : D ≠ p := fun z => by rw [z, k1] at g1; cases g1
    have nDd : D ≠ d := fun z => by
      rw [z] at hD
      rw [hD] at t2
      cases t2
    have g5 := s5 _ _ g1 nDp nDd
    have tt5 := t'.tt s5
    refine ⟨es, Sum.inl i, rfl, g5, (by show es.length < (16777216 : Nat); omega), (sm.trans s5).to hD, ?_, _, upd_same, ?_, ?_⟩
    · have e' : m + ((j + 1 : Nat) : Int) = m + j + 1 := by omega
      rw [e']
      exact t5.upd nDp nDd
    · have tu : TT H5 (L2.upd H5 D (.dK (putK es (Sum.inl i) v'))) := TT.upd g5 fun _ z => by cases z
      rw [tk, fresh_snoc, List.length_take, Nat.min_eq_left (by omega)]
      exact TabR.put (e := (Sum.inl : Int → Key)) inj_l (hv'.tt tu) ((g2.tt tt5).tt tu)
    · have := length_putK es (Sum.inl i) v'
      omega
  · obtain ⟨sm, t', es, g1, g2, g3⟩ := z
    rw [List.length_map] at t' g2 g3
    rw [List.take_length] at g2
    obtain ⟨⟨dx', k1⟩, k2⟩ := id t'
    refine ⟨p, dx', _, D, es, _, u, k0, _, rfl, k1, flds_no _ _ (by decide +kernel) (by decide +kernel), g1, g2, h4.tt (t.tt sm), e1, fun v' H5 s5 hv' => q v' H5 (sm.trans (Sm.same s5)) (t'.same s5) hv'⟩
end
end W63
/-! closed -/
namespace W63
open PySem L2 M63
/-- {x: True for x in numbers if test} -/
theorem dc_fil {K : PySem.W.Frag} {a : Addr} {ns : List Int} {i : Nat} {tt : L2.TT} {σ : L2.St} {H1 : Hp} {D : Addr} {Qd : Hp → Prop} (p : Int → Bool) (hD : H1 D = none) (ha : H1 a = some (.lst (ns.map V.int))) (hz : ns.length ≤ 1000) (hi : i < σ.length)
    (ht : ∀ x H Q, Same H1 H → Q (p x) H → tt ((wipe σ [i]).set i (some (.int x))) H Q) (hd : ∀ H es, Same H1 H → H D = some (.dK es) → Mem es (ns.filter p) → Qd H) :
    ∃ W : Nat → Nat → Hp → Prop, (∃ m, W 0 m (upd H1 D (.dK []))) ∧ ∀ i' m H, W i' m H →
      ((Itl K a).stop i' H ∧ Qd H) ∨ ((Itl K a).go i' H ∧ ∃ Nx : Hp → Prop, (∀ H', Nx H' → ∃ m', m' < m ∧ W (i' + 1) m' H') ∧ ∀ x H', (Itl K a).yld i' H x H' → gName i x (wipe σ [i]) H' fun σ2 H2 => wipe σ2 [i] = wipe σ [i] ∧ tt σ2 H2 fun b H3 =>
        if b = true then tVar i σ2 H3 fun y H4 => tC (.bl true) σ2 H4 fun z H5 => ∃ kvs k, y = kV k ∧ H5 D = some (.dK kvs) ∧ kvs.length < sizeLine ∧ Nx (upd H5 D (.dK (putK kvs k z))) else Nx H3) := by
  refine dc_list (xs := ns.map V.int) (fun j H => Same H1 H ∧ ∃ es, H D = some (.dK es) ∧ Mem es ((ns.take j).filter p)) ⟨same_new hD _, [], upd_same, Mem.nil⟩ (fun j H _ q => SqL.of (q.1 _ _ ha)) (fun j x H hj q => ?_) fun H q => ?_
  · obtain ⟨s1, es, h1, h2⟩ := q
    rw [List.getElem?_map] at hj
    cases e : ns[j]? with
    | none => rw [e] at hj; cases hj
    | some z =>
    rw [e] at hj
    cases hj
    have w : wipe ((wipe σ [i]).set i (some (V.int z))) [i] = wipe σ [i] := by
      show ((σ.set i none).set i (some _)).set i none = (σ.set i none)
      rw [List.set_set, List.set_set]
    have get : ((wipe σ [i]).set i (some (V.int z)))[i]? = some (some (V.int z)) := by
      show ((σ.set i none).set i _)[i]? = _
      rw [List.set_set, List.getElem?_set_self hi]
    have tk : ns.take (j + 1) = ns.take j ++ [z] := by rw [List.take_succ, e]; rfl
    refine ⟨w, ht z H _ s1 ?_⟩
    have l2 := h2.2
    have a1 := List.length_filter_le p (ns.take j)
    rw [List.length_take] at a1
    cases hp : p z with
    | true =>
      refine iteT ⟨_, get, es, Sum.inl z, rfl, h1, (by show es.length < (16777216 : Nat); omega), same_to s1 hD, _, upd_same, ?_⟩
      rw [tk, List.filter_append]
      have : List.filter p [z] = [z] := by simp [hp]
      rw [this]
      exact h2.put z _
    | false =>
      refine iteF ⟨s1, es, h1, ?_⟩
      rw [tk, List.filter_append]
      have : List.filter p [z] = [] := by simp [hp]
      rw [this, List.append_nil]
      exact h2
  · obtain ⟨s1, es, h1, h2⟩ := q
    rw [List.length_map, List.take_length] at h2
    exact hd H es s1 h1 h2
theorem TabR.at {κ : Type} {e : κ → Key} {RV : V → D → Prop} : ∀ {kvs : List (Key × V)} {tab : List (κ × D)} {j : Nat} {k : Key} {v : V}, TabR e RV kvs tab → kvs[j]? = some (k, v) → ∃ i d, tab[j]? = some (i, d) ∧ k = e i ∧ RV v d
  | [], [], _, _, _, _, h => by simp at h
  | (k, v) :: r, (i, d) :: s, 0, _, _, ⟨h1, h2, h3⟩, h => by simp at h; obtain ⟨rfl, rfl⟩ := h; exact ⟨i, d, rfl, h1, h2⟩
  | (k, v) :: r, (i, d) :: s, j + 1, _, _, ⟨h1, h2, h3⟩, h => by
    obtain ⟨i', d', g1, g2⟩ := TabR.at h3 (by simpa using h)
    exact ⟨i', d', by simpa using g1, g2⟩
  | [], _ :: _, _, _, _, h, _ => h.elim
  | _ :: _, [], _, _, _, h, _ => h.elim
def Nd (sc : Sc) : Prop := (sc.map (·.1)).Nodup
theorem Nd.lk : ∀ {sc : Sc} {j : Nat} {x : Str} {s : D}, Nd sc → sc[j]? = some (x, s) → lk sc x = some s
  | [], _, _, _, _, h => by simp at h
  | (y, d) :: r, 0, x, s, _, h => by simp at h; obtain ⟨rfl, rfl⟩ := h; rw [lkc, if_pos rfl]
  | (y, d) :: r, j + 1, x, s, n, h => by
    have n' : (y :: r.map (·.1)).Nodup := n
    rw [List.nodup_cons] at n'
    have h' : r[j]? = some (x, s) := by simpa using h
    rw [lkc, if_neg fun z => ?_]
    · exact Nd.lk n'.2 h'
    · refine n'.1 ?_
      have z : y = x := z
      rw [z]
      exact List.mem_map.mpr ⟨(x, s), List.mem_of_getElem? h', rfl⟩
theorem Nd.pk {sc : Sc} {x : Str} {s : D} (n : Nd sc) : Nd (pk sc x s) := by
  unfold Nd M63.pk
  split
  · have e : (sc.map fun e => if e.1 = x then (e.1, s) else e).map (·.1) = sc.map (·.1) := by
      rw [List.map_map]
      refine List.map_congr_left fun a _ => ?_
      show (if a.1 = x then (a.1, s) else a).1 = a.1
      split <;> rfl
    rw [e]
    exact n
  · rename_i h
    rw [List.map_append, List.nodup_append]
    refine ⟨n, by simp, fun a ha b hb z => h ?_⟩
    simp at hb
    subst hb z
    obtain ⟨q, q1, q2⟩ := List.mem_map.mp ha
    exact List.any_eq_true.mpr ⟨q, q1, decide_eq_true q2⟩
theorem taken_step {kn : Kn} {sc : Sc} {j : Nat} {x : Str} {s : D} {t r : List Int} (hj : sc[j]? = some (x, s)) (h : taken kn (sc.drop j) t = some r) :
    ∀ ns own, s = scheme ns own → ∃ o vs, res R kn own = some o ∧ vars R o = some vs ∧ taken kn (sc.drop (j + 1)) (t ++ vs.filter fun v => !decide (v ∈ ns)) = some r := by
  intro ns own hs
  subst hs
  have lj : j < sc.length := by
    by_cases h : j < sc.length
    · exact h
    · rw [List.getElem?_eq_none (by omega)] at hj; cases hj
  rw [List.getElem?_eq_getElem lj] at hj
  have e : sc.drop j = (x, scheme ns own) :: sc.drop (j + 1) := by
    rw [List.drop_eq_getElem_cons lj]
    rw [← Option.some.inj hj]
  rw [e] at h
  unfold scheme at h
  unfold taken at h
  simp only [intsOf_ints] at h
  split at h
  · rename_i is o h1 h2
    cases h1
    split at h
    · exact ⟨_, _, h2, by assumption, h⟩
    · cases h
  · cases h
end W63
/-! closed, the walk -/
namespace W63
open PySem L2 M63
theorem cls_cases {kn : Kn} {k : D} {sc : Sc} {s : D} (h : cls kn k sc = some s) : ∃ t k' vs, taken kn sc [] = some t ∧ res R kn k = some k' ∧ vars R k' = some vs ∧ s = scheme (vs.filter fun v => !decide (v ∈ t)) k' := by
  unfold cls at h
  split at h
  · rename_i t k' h1 h2
    simp only [Option.map_eq_some_iff] at h
    obtain ⟨vs, h3, h4⟩ := h
    exact ⟨t, k', vs, h1, h2, h3, h4.symm⟩
  · cases h
/-- all but one object stays -/
def Sk (g : Addr) (H H' : Hp) : Prop := ∀ b o, H b = some o → b ≠ g → H' b = some o
theorem Sk.same {g : Addr} {H H1 H' : Hp} (a : Sk g H H1) (e : Same H1 H') : Sk g H H' := fun b o h n => e b o (a b o h n)
def spClsN (K : PySem.W.Frag) (C : Addr) : Sp := fun vs H Q _ => ∃ p d kvs kn m v c ss sc k s, vs = [.ref p, v, .ref c] ∧ TyAt C H p d kvs m ∧ KnR K H kvs kn ∧ Td K H v k ∧ H c = some (.dK ss) ∧ ScR K H ss sc ∧ c ≠ d ∧ sc.length ≤ 1000 ∧ Nd sc ∧ cls kn k sc = some s ∧
  ∀ v' H', Same H H' → SchR K H' v' s → Q v' H'
section
variable {P : Program} {w : World} {K : PySem.W.Frag} {mg : Str → Option Value} {base : Heap} {C : Addr} {f fr fv : Addr} {fd fdr fdv : FuncData}
theorem scC : FnScope ["self", "kind", "scope", "taken", "name", "names", "own", "number"] ["self", "kind", "scope"] (defScope sCls) := ⟨rfl, rfl, rfl, by decide +kernel, rfl, by decide +kernel, by decide +kernel⟩
theorem ok_cls (F : Fun K "closed" "Typer.closed" sCls f fd) (T : Txt K mg C) (MR : Mt P w K mg base CX0 C 100 "resolved" ["self", "kind"] (spRes K C 100) fr fdr)
    (mV : mg "variables_of" = some (.ref fv)) (kV : PySem.W.keepIn K (.ref fv) = true) (bV : Binds K fdv ["kind"] []) (GV : FnOk P w K mg base CX0 100 fv fdv ["kind"] (spVars K 100)) :
    FnOk P w K mg base CX0 101 f fd ["self", "kind", "scope"] (spClsN K C) := by
  refine F.ok scC (fun vs H Q E h => ?_) (fun cdv A outer s H vs Q E hr h => ?_)
  · obtain ⟨_, _, _, _, _, _, _, _, _, _, _, rfl, _⟩ := h
    rfl
  obtain ⟨p, d, kvs, kn, m, v, c, ss, sc, k, s', rfl, t, hk, hv, hc, hsc, ncd, hl, nd, e, q⟩ := h
  have hu := hu_of hr
  refine ⟨_, pss_cons (ps_set (i := 3) scC.nd rfl (Or.inr rfl) pe_dnewK)
    (pss_cons (ps_lock (ps_for PassesOwn.never rfl (pi_keys (pv 2)) (pg_name (i := 4) scC.nd rfl (Or.inl rfl))
      (pss_cons (ps_asg (pe_dget hu (pv 2) (pv 4) (fun _ _ => rfl)) (pg_tup (by rfl) (pgs_cons (pg_name (i := 5) scC.nd rfl (Or.inr rfl)) (pgs_cons (pg_name (i := 6) scC.nd rfl (Or.inl rfl)) pgs_nil))))
      (pss_one (ps_expr (pe_bm PySem.F.plainAttrs_dict PySem.F.slot_dict_update PySem.F.type_dict_update mt_update (pv 3)
        (pa_cons (pe_dc (own := [("number", 7)]) (g := gName 7) (tt := tTest (tOp (rIn K true) (tVar 7) (tVar 5))) rfl scC.nd (pi_list (pe_call GV hr rfl mV kV bV .nil pass0 (pa_cons (pe_meth (pv 0) T.cl MR.m MR.ok hr MR.b .nil pass0 (pa_cons (pv 6) pa_nil)) pa_nil)))
          (blkOk_by (N := ["self", "kind", "scope", "taken", "name", "names", "own", "number"]) (sc := defScope sCls) (by decide +kernel)) (fun _ _ _ _ _ => pg_name (i := 7) scC.nd rfl (Or.inl rfl)) (fun _ _ _ _ _ => pts_one (pt_cmpR op_notIn_seq (pv 7) (pv 5) rfl))
          (fun _ _ _ _ _ => pv 7) (fun _ _ _ _ _ => pe_bl)) pa_nil)))))))
    (pss_cons (ps_set (i := 1) scC.nd rfl (Or.inl rfl) (pe_meth (pv 0) T.cl MR.m MR.ok hr MR.b .nil pass0 (pa_cons (pv 1) pa_nil)))
    (pss_one (ps_ret (pe_tup (pa_cons (pe_lc (own := [("number", 7)]) (g := gName 7) (tt := _) rfl scC.nd (pi_list (pe_call GV hr rfl mV kV bV .nil pass0 (pa_cons (pv 1) pa_nil)))
        (blkOk_by (N := ["self", "kind", "scope", "taken", "name", "names", "own", "number"]) (sc := defScope sCls) (by decide +kernel)) (fun _ _ _ _ _ => pg_name (i := 7) scC.nd rfl (Or.inl rfl)) (fun _ _ _ _ _ => pts_one (pt_cmp (pc_dnotin hu (pv 7) (pv 3))))
        (fun _ _ _ _ _ => pv 7)) (pa_cons (pv 1) pa_nil))))))), ?_⟩
  obtain ⟨⟨dx, h1⟩, h2⟩ := id t
  have nr : (flds d m).lookup ("resolved" : Str) = none := flds_no _ _ (by decide +kernel) (by decide +kernel)
  obtain ⟨tf, k', vs', e1, e2, e3, rfl⟩ := cls_cases e
  intro g hg
  have s1 := same_new hg (.dK [])
  have ngc : c ≠ g := fun z => by rw [z, hg] at hc; cases hc
  have npc : c ≠ p := fun z => by rw [z, h1] at hc; cases hc
  have ngp : p ≠ g := fun z => by rw [z, hg] at h1; cases h1
  have ngd : d ≠ g := fun z => by rw [z, hg] at h2; cases h2
  refine ⟨c, .dK ss, s1 _ _ hc, trivial, fun od => ?_⟩
  have hg0 : upd (upd H g (.dK [])) c (.frz od (.dK ss)) g = some (.dK []) := by rw [upd_ne (Ne.symm ngc)]; exact upd_same
  have sk0 : Sk g (upd H c (.frz od (.dK ss))) (upd (upd H g (.dK [])) c (.frz od (.dK ss))) := fun b o hb n => by
    by_cases hbc : b = c
    · subst hbc
      rw [upd_same] at hb ⊢
      exact hb
    · rw [upd_ne hbc] at hb ⊢
      rw [upd_ne n]
      exact hb
  have lsc := TabR.len hsc
  refine ⟨_, rfl, c, od, rfl, .inl ⟨ss, upd_same, ?_⟩⟩
  refine for_keys (fun j σ H' => ∃ o4 o5 o6 es tj, σ = [some (V.ref p), some v, some (V.ref c), some (V.ref g), o4, o5, o6, none] ∧ Sk g (upd H c (.frz od (.dK ss))) H' ∧ H' g = some (.dK es) ∧ Mem es tj ∧ taken kn (sc.drop j) tj = some tf ∧ tj.length ≤ 1000 * j)
    ⟨none, none, none, [], [], rfl, sk0, hg0, Mem.nil, e1, Nat.zero_le _⟩ (fun j σ H' z => ?_) (fun j ky vy σ H' hj z => ?_) fun σ H' z => ?_
  · obtain ⟨_, _, _, _, _, _, sk, _⟩ := z
    exact sk c _ upd_same ngc
  · obtain ⟨o4, o5, o6, es, tj, rfl, sk, z1, z2, z3, z4⟩ := z
    obtain ⟨x, sx, g1, rfl, g3⟩ := TabR.at hsc hj
    have lx := nd.lk g1
    obtain ⟨vx, w1, w2⟩ := (TabR.val (e := (Sum.inr : Str → Key)) inj_r x hsc).1 _ lx
    obtain ⟨a, l, u, ns, ko, rfl, rfl, b1, b2, b3, b4⟩ := w2
    have hH : ∀ b o, H b = some o → b ≠ c → H' b = some o := fun b o hb n => sk b o (by rw [upd_ne n]; exact hb) fun z => by rw [z, hg] at hb; cases hb
    have tt : TT H H' := fun b xs hb => hH b _ hb fun z => by rw [z, hc] at hb; cases hb
    have hc' : H' c = some (.frz od (.dK ss)) := sk c _ upd_same ngc
    have hl' : H' l = some (.lst (ns.map V.int)) := hH l _ b2 fun z => by rw [z, hc] at b2; cases b2
    have t' : TyAt C H' p d kvs m := ⟨⟨dx, hH _ _ h1 (Ne.symm npc)⟩, hH _ _ h2 (Ne.symm ncd)⟩
    obtain ⟨o, vs, r1, r2, r3⟩ := taken_step g1 z3 ns ko rfl
    refine ⟨_, rfl, _, rfl, c, _, rfl, .inl ⟨ss, Sum.inr x, .inr ⟨od, hc'⟩, rfl, w1.symm⟩, ?_⟩
    refine ⟨a, _, rfl, (b1.tt tt).seq, rfl, _, _, rfl, _, _, rfl, rfl, ?_⟩
    refine ⟨_, rfl, .inr (.inr (.inl ⟨rfl, .inl ⟨_, z1⟩⟩)), _, rfl, p, dx, _, rfl, hH _ _ h1 (Ne.symm npc), nr, _, rfl, ?_⟩
    refine ⟨p, d, kvs, kn, m, u, ko, o, rfl, t', hk.tt tt, b4.tt tt, r1, fun u' H2 s2 hu' => ?_⟩
    refine ⟨u', o, vs, rfl, hu', r2, fun l2 H3 s3 hl0 hl2 => ⟨l2, rfl, ⟨_, SqL.of hl2⟩, fun D hD => ?_⟩⟩
    have s23 := s2.trans s3
    refine dc_fil (ns := vs) (fun v => !decide (v ∈ ns)) hD hl2 (vars_len r2) (by show 7 < 8; decide) (fun y H5 Q5 s5 q5 => ?_) fun H5 es5 s5 f1 f2 => ?_
    · refine ⟨_, rfl, _, rfl, l, _, rfl, .inl (SqL.of (s5 _ _ (s23 _ _ hl'))), rfl, all_flat, ?_⟩
      refine ⟨_, rfl, ?_⟩
      rw [inV_int]
      exact q5
    · have s6 := s23.trans s5
      have ngD : g ≠ D := fun z => by
        have hg3 := s23 _ _ z1
        rw [z, hD] at hg3
        cases hg3
      have lf := List.length_filter_le (fun v => !decide (v ∈ ns)) vs
      have lv := vars_len r2
      have jl : j < ss.length := by
        by_cases h : j < ss.length
        · exact h
        · rw [List.getElem?_eq_none (by omega)] at hj; cases hj
      have z22 := z2.2
      have f22 := f2.2
      refine ⟨g, D, es, es5, rfl, rfl, s6 _ _ z1, .inl f1, ngD, ?_, ?_⟩
      · show _ ≤ (16777216 : Nat)
        have : 1000 * j ≤ 1000 * 1000 := Nat.mul_le_mul_left _ (by omega)
        omega
      · refine ⟨_, _, _, _, _, rfl, fun b o hb n => ?_, upd_same, z2.merge f2, r3, ?_⟩
        · rw [upd_ne n]
          exact s6 _ _ (sk b o hb n)
        · rw [List.length_append]
          omega
  · obtain ⟨o4, o5, o6, es, tj, rfl, sk, z1, z2, z3, z4⟩ := z
    rw [lsc, List.drop_length] at z3
    cases z3
    have hc' : H' c = some (.frz od (.dK ss)) := sk c _ upd_same ngc
    refine ⟨hc', ?_⟩
    have sH : Same H (upd H' c (.dK ss)) := fun b o hb => by
      by_cases hbc : b = c
      · subst hbc
        rw [hc] at hb
        cases hb
        exact upd_same
      · rw [upd_ne hbc]
        exact sk b o (by rw [upd_ne hbc]; exact hb) fun z => by rw [z, hg] at hb; cases hb
    have z1' : upd H' c (.dK ss) g = some (.dK es) := by rw [upd_ne (Ne.symm ngc)]; exact z1
    generalize upd H' c (.dK ss) = H6 at sH z1'
    refine ⟨_, rfl, p, dx, _, rfl, sH _ _ h1, nr, _, rfl, p, d, kvs, kn, m, v, k, k', rfl, t.same sH, hk.tt (TT.same sH), hv.tt (TT.same sH), e2, fun u' H7 s7 hu' => ?_⟩
    refine ⟨_, rfl, u', k', vs', rfl, hu', e3, fun l2 H8 s8 hl0 hl2 => ⟨l2, rfl, ⟨_, SqL.of hl2⟩, fun D hD => ?_⟩⟩
    have s78 := s7.trans s8
    refine lc_fil (ns := vs') (fun v => !decide (v ∈ tf)) hD hl2 (vars_len e3) (by show 7 < 8; decide) (fun y H9 Q9 s9 q9 => ?_) fun H9 s9 f1 => ?_
    · refine ⟨_, rfl, _, rfl, g, _, rfl, DGet.k (k := Sum.inl y) (s9 _ _ (s78 _ _ z1')), ?_⟩
      refine ⟨_, rfl, ?_⟩
      rw [z2.1]
      exact q9
    · refine ⟨_, rfl, (by show 2 ≤ sizeLine; decide), fun T' hT => ?_⟩
      have s10 := same_new hT (.tup [V.ref D, u'])
      have sAll := ((sH.trans s78).trans s9).trans s10
      refine q _ _ sAll ⟨T', D, u', _, k', rfl, rfl, .inl upd_same, s10 _ _ f1, ?_, (hu'.tt (TT.same (s8.trans s9))).tt (TT.same s10)⟩
      have := List.length_filter_le (fun v => !decide (v ∈ tf)) vs'
      have := vars_len e3
      omega
end
end W63
/-! infer: its parts -/
namespace W63
open PySem L2 M63
/-- d.get(k) of a written dict, k there -/
def tKGet (K : PySem.W.Frag) (w : World) (td ty : TE) : TE := fun σ H Q => td σ H fun x H1 => ∃ p, x = .ref p ∧ (p == sysModules) = false ∧ ty σ H1 fun y H2 => ∃ z v, y = .str z ∧ KDct K w p z v ∧ Q v H2
section
variable {X : Cx} {o e : Expr} {apos cpos : Pos} {td ty : TE}
theorem pe_kget {dS : Addr} {ob : Obj} (hlk : X.K.lookup dS = some ob) (hcl : ob.cls = .type "dict") (hdd : ob.dict = none) (ho : PE X o (tC (.ref dS))) (he : PE X e ty) (m : M1 X o "get" apos e cpos) : PE X (.Call (.Attribute o "get" apos) [e] [] cpos) (tKGet X.K X.w (tC (.ref dS)) ty) := by
  refine ⟨fun pins s σ H Q I h => ?_⟩
  obtain ⟨p, ep, low, h⟩ := h
  cases ep
  refine wpAny_Call_method m.base m.few m.line PySem.F.plainAttrs_dict PySem.F.slot_dict_get PySem.F.type_dict_get (thn (ho.run pins s σ H (fun v H1 => v = .ref dS ∧ H1 = H) I ⟨rfl, rfl⟩) fun u s1 ⟨x, H1, I1, rx, ex, e1⟩ => ?_)
  subst ex e1
  obtain rfl : u = Value.ref dS := rx
  have hg := I1.kIn _ _ hlk
  refine ⟨⟨ob, hg, hcl⟩, fun b q => ?_, ?_⟩
  · cases q
    exact ⟨ob, hg, hdd⟩
  rw [m.trees]
  refine Calls.callWith_builtin rfl (Calls.evalArgs_plain (Calls.spliced_cons (thn (he.run pins s1 σ H1 _ I1 h) fun iv s2 ⟨y, H2, I2, ry, q⟩ => Calls.spliced_nil ?_)))
  obtain ⟨z, v, rfl, ⟨es, n, u0, hl, hk, en, ru⟩, q⟩ := q
  obtain ⟨t, rfl⟩ := ry
  have hm := PySem.W.mapOf_K (prog := X.prog) (w := X.w) I2.kIn hl hk
  refine call_meetsIn PySem.F.slot_dict_get hm.typeIs PySem.F.entry_dict_get (PySem.F.args_dict_get_2 _ _) (meets_dict_get (strKind X.prog X.w) dS (strKind_is X.prog X.w z t) low) ⟨_, hm, ?_⟩
  rw [PySem.W.find_K hl en]
  exact ⟨v, H2, I2.tok _, ru, q⟩
end
/-! ### how great a program is -/
mutual
def sz : D → Nat
  | .tuple ds => 1 + szL ds
  | _ => 1
def szL : List D → Nat
  | [] => 0
  | d :: r => sz d + szL r
end
def infB (n : Nat) (w : Str) (ps : List D) (sc : Sc) (left : Int) (kn : Kn) (m : Int) : Out :=
      if w = "name" then match ps with
        | [.str x] => match lk sc x with
          | none => none
          | some s => match opn m s with
            | none => none
            | some (k, m') => some (some (k, kn, m'))
        | _ => none
      else if w = "number" then some (some (kInt, kn, m))
      else if w = "truth" then some (some (kBool, kn, m))
      else if w = "fun" then match ps with
        | [.str x, b] => match inf n b (pk sc x (scheme [] (kv m))) (left - 1) kn (m + 1) with
          | none => none
          | some none => some none
          | some (some (k, kn', m')) => some (some (kArr (kv m) k, kn', m'))
        | _ => none
      else if w = "fix" then none
      else if w = "let" then match ps with
        | [.str x, v, b] => match inf n v sc (left - 1) kn m with
          | none => none
          | some none => some none
          | some (some (k, kn', m')) => match cls kn' k sc with
            | none => none
            | some s => inf n b (pk sc x s) (left - 1) kn' m'
        | _ => none
      else match infs (fun p kn m => inf n p sc (left - 1) kn m) ps kn m with
        | none => none
        | some none => some none
        | some (some (ks, kn', m')) => join w ks kn' m'
theorem inf_cases {n : Nat} {k : D} {sc : Sc} {left : Int} {kn : Kn} {m : Int} {r : Option (D × Kn × Int)} (h : inf (n + 1) k sc left kn m = some r) :
    ∃ w ps, k = .tuple (.str w :: ps) ∧ left ≠ 0 ∧ shape w = some (ps.length + 1) ∧ infB n w ps sc left kn m = some r := by
  unfold inf at h
  split at h
  · cases ‹_ + 1 = _›
    split at h
    · cases h
    · split at h
      · exact ⟨_, _, rfl, by assumption, by assumption, h⟩
      · cases h
  · cases h
theorem infB_name {n : Nat} {w : Str} {ps : List D} {sc : Sc} {left : Int} {kn : Kn} {m : Int} {r : Option (D × Kn × Int)} (hw : w = "name") (h : infB n w ps sc left kn m = some r) :
    ∃ x s k m', ps = [.str x] ∧ lk sc x = some s ∧ opn m s = some (k, m') ∧ r = some (k, kn, m') := by
  unfold infB at h
  rw [if_pos hw] at h
  split at h
  · split at h
    · cases h
    · split at h
      · cases h
      · cases h
        exact ⟨_, _, _, _, rfl, by assumption, by assumption, rfl⟩
  · cases h
theorem infB_fun {n : Nat} {w : Str} {ps : List D} {sc : Sc} {left : Int} {kn : Kn} {m : Int} {r : Option (D × Kn × Int)} (h1 : ¬ w = "name") (h2 : ¬ w = "number") (h3 : ¬ w = "truth") (hw : w = "fun") (h : infB n w ps sc left kn m = some r) :
    ∃ x b r1, ps = [.str x, b] ∧ inf n b (pk sc x (scheme [] (kv m))) (left - 1) kn (m + 1) = some r1 ∧ (r1 = none → r = none) ∧ (∀ k kn' m', r1 = some (k, kn', m') → r = some (kArr (kv m) k, kn', m')) := by
  unfold infB at h
  rw [if_neg h1, if_neg h2, if_neg h3, if_pos hw] at h
  split at h
  · split at h
    · cases h
    · cases h
      exact ⟨_, _, none, rfl, by assumption, fun _ => rfl, (by intro _ _ _ z; cases z)⟩
    · cases h
      exact ⟨_, _, some (_, _, _), rfl, by assumption, (by intro z; cases z), (by intro _ _ _ z; cases z; rfl)⟩
  · cases h
theorem infB_let {n : Nat} {w : Str} {ps : List D} {sc : Sc} {left : Int} {kn : Kn} {m : Int} {r : Option (D × Kn × Int)} (h1 : ¬ w = "name") (h2 : ¬ w = "number") (h3 : ¬ w = "truth") (h4 : ¬ w = "fun") (h5 : ¬ w = "fix") (hw : w = "let") (h : infB n w ps sc left kn m = some r) :
    ∃ x v b r1, ps = [.str x, v, b] ∧ inf n v sc (left - 1) kn m = some r1 ∧ (r1 = none → r = none) ∧ (∀ k kn' m', r1 = some (k, kn', m') → ∃ s, cls kn' k sc = some s ∧ inf n b (pk sc x s) (left - 1) kn' m' = some r) := by
  unfold infB at h
  rw [if_neg h1, if_neg h2, if_neg h3, if_neg h4, if_neg h5, if_pos hw] at h
  split at h
  · split at h
    · cases h
    · cases h
      exact ⟨_, _, _, none, rfl, by assumption, fun _ => rfl, (by intro _ _ _ z; cases z)⟩
    · split at h
      · cases h
      · exact ⟨_, _, _, some (_, _, _), rfl, by assumption, (by intro z; cases z), (by intro _ _ _ z; cases z; exact ⟨_, by assumption, h⟩)⟩
  · cases h
theorem infB_other {n : Nat} {w : Str} {ps : List D} {sc : Sc} {left : Int} {kn : Kn} {m : Int} {r : Option (D × Kn × Int)} (h1 : ¬ w = "name") (h2 : ¬ w = "number") (h3 : ¬ w = "truth") (h4 : ¬ w = "fun") (h5 : ¬ w = "fix") (h6 : ¬ w = "let") (h : infB n w ps sc left kn m = some r) :
    ∃ r1, infs (fun p kn m => inf n p sc (left - 1) kn m) ps kn m = some r1 ∧ (r1 = none → r = none) ∧ (∀ ks kn' m', r1 = some (ks, kn', m') → join w ks kn' m' = some r) := by
  unfold infB at h
  rw [if_neg h1, if_neg h2, if_neg h3, if_neg h4, if_neg h5, if_neg h6] at h
  split at h
  · cases h
  · cases h
    exact ⟨none, by assumption, fun _ => rfl, (by intro _ _ _ z; cases z)⟩
  · exact ⟨some (_, _, _), by assumption, (by intro z; cases z), (by intro _ _ _ z; cases z; exact h)⟩
theorem infs_step {f : D → Kn → Int → Out} {ps : List D} {j : Nat} {p : D} {kn : Kn} {m : Int} {r : Option (List D × Kn × Int)} (hj : ps[j]? = some p) (h : infs f (ps.drop j) kn m = some r) :
    ∃ r1, f p kn m = some r1 ∧ (r1 = none → r = none) ∧ (∀ k kn' m', r1 = some (k, kn', m') → ∃ r2, infs f (ps.drop (j + 1)) kn' m' = some r2 ∧ (r2 = none → r = none) ∧ (∀ ks kn2 m2, r2 = some (ks, kn2, m2) → r = some (k :: ks, kn2, m2))) := by
  have lj : j < ps.length := by
    by_cases h : j < ps.length
    · exact h
    · rw [List.getElem?_eq_none (by omega)] at hj; cases hj
  rw [List.getElem?_eq_getElem lj] at hj
  have e : ps.drop j = p :: ps.drop (j + 1) := by
    rw [List.drop_eq_getElem_cons lj, Option.some.inj hj]
  rw [e] at h
  unfold infs at h
  split at h
  · cases h
  · cases h
    exact ⟨none, by assumption, fun _ => rfl, (by intro _ _ _ z; cases z)⟩
  · refine ⟨some (_, _, _), by assumption, (by intro z; cases z), fun _ _ _ z => ?_⟩
    cases z
    split at h
    · cases h
    · cases h
      exact ⟨none, by assumption, fun _ => rfl, (by intro _ _ _ z; cases z)⟩
    · cases h
      exact ⟨some (_, _, _), by assumption, (by intro z; cases z), (by intro _ _ _ z; cases z; rfl)⟩
theorem join_cases {w : Str} {ks : List D} {kn : Kn} {m : Int} {r : Option (D × Kn × Int)} (h : join w ks kn m = some r) :
    (w = "call" ∧ ∃ a b r1, ks = [a, b] ∧ eq E kn a (kArr b (kv m)) = some r1 ∧ (r1 = none → r = none) ∧ (∀ kn', r1 = some kn' → r = some (kv m, kn', m + 1))) ∨
    (w ≠ "call" ∧ w = "pair" ∧ ∃ a b, ks = [a, b] ∧ r = some (kPair a b, kn, m)) ∨
    (w ≠ "call" ∧ w ≠ "pair" ∧ ∃ a b c r1, ks = [a, b, c] ∧ eq E kn a kBool = some r1 ∧ (r1 = none → r = none) ∧ (∀ kn1, r1 = some kn1 → ∃ r2, eq E kn1 b c = some r2 ∧ (r2 = none → r = none) ∧ (∀ kn2, r2 = some kn2 → r = some (b, kn2, m)))) := by
  unfold join at h
  split at h
  · split at h
    · rename_i hw
      refine .inl ⟨hw, ?_⟩
      split at h
      · cases h
      · cases h
        exact ⟨_, _, none, rfl, by assumption, fun _ => rfl, (by intro _ z; cases z)⟩
      · cases h
        exact ⟨_, _, some _, rfl, by assumption, (by intro z; cases z), (by intro _ z; cases z; rfl)⟩
    · split at h
      · cases h
        exact .inr (.inl ⟨by assumption, by assumption, _, _, rfl, rfl⟩)
      · cases h
  · split at h
    · rename_i hw
      refine .inr (.inr ⟨by rw [hw]; decide +kernel, by rw [hw]; decide +kernel, ?_⟩)
      split at h
      · cases h
      · cases h
        exact ⟨_, _, _, none, rfl, by assumption, fun _ => rfl, (by intro _ z; cases z)⟩
      · refine ⟨_, _, _, some _, rfl, by assumption, (by intro z; cases z), fun _ z => ?_⟩
        cases z
        split at h
        · cases h
        · cases h
          exact ⟨none, by assumption, fun _ => rfl, (by intro _ z; cases z)⟩
        · cases h
          exact ⟨some _, by assumption, (by intro z; cases z), (by intro _ z; cases z; rfl)⟩
    · cases h
  · cases h
end W63
/-! infer, the walk -/
namespace W63
open PySem L2 M63
theorem at2 {u v z : V} {xs : List V} : atI (u :: v :: z :: xs) 2 = some z := atI_nat (j := 2) rfl
theorem at3 {u v z y : V} {xs : List V} : atI (u :: v :: z :: y :: xs) 3 = some y := atI_nat (j := 3) rfl
theorem inV2 {x a b : Str} : inV (.str x) [.str a, .str b] = decide (x = a ∨ x = b) := by
  have e : ∀ y : Str, eqV (.str y) (.str x) = decide (x = y) := fun y => by
    show (y == x) = _
    by_cases h : x = y
    · rw [h]; simp
    · rw [decide_eq_false h, beq_eq_false_iff_ne]
      exact fun z => h z.symm
  unfold inV
  rw [List.any_cons, List.any_cons, List.any_nil, e, e]
  by_cases h1 : x = a <;> by_cases h2 : x = b <;> simp [h1, h2]
/-- what is written in the module -/
structure WrS (K : PySem.W.Frag) (w : World) (mg : Str → Option Value) (aI aB dS : Addr) : Prop where
  int : mg "INT" = some (.ref aI)
  bool : mg "BOOL" = some (.ref aB)
  tI : SqT K (fun _ => none) aI [.str "Int"]
  tB : SqT K (fun _ => none) aB [.str "Bool"]
  shp : mg "SHAPES" = some (.ref dS)
  low : (dS == sysModules) = false
  obS : ∃ ob, K.lookup dS = some ob ∧ ob.cls = .type "dict" ∧ ob.dict = none
  get : ∀ x j, shape x = some j → KDct K w dS x (.int (j : Nat))
theorem WrS.dI {K : PySem.W.Frag} {w : World} {mg : Str → Option Value} {aI aB dS : Addr} (W : WrS K w mg aI aB dS) (H : Hp) : Td K H (.ref aI) kInt := .tup (.inr W.tI) (.cons (.str _) .nil)
theorem WrS.dB {K : PySem.W.Frag} {w : World} {mg : Str → Option Value} {aI aB dS : Addr} (W : WrS K w mg aI aB dS) (H : Hp) : Td K H (.ref aB) kBool := .tup (.inr W.tB) (.cons (.str _) .nil)
abbrev sInf : Stmt := sMeth 8
def spInf (K : PySem.W.Frag) (C XN : Addr) (n : Nat) : Sp := fun vs H Q E => ∃ p d kvs kn m v c ss sc left k r, vs = [.ref p, v, .ref c, .int left] ∧ TyAt C H p d kvs m ∧ KnR K H kvs kn ∧ Td K H v k ∧ H c = some (.dK ss) ∧ ScR K H ss sc ∧ c ≠ d ∧ sc.length + n ≤ 1000 ∧ Nd sc ∧
  inf n k sc left kn m = some r ∧ kn.length + 8192 * sz k ≤ lim ∧
  (∀ k' kn' m' v' kvs' H', r = some (k', kn', m') → Sm p d H H' → TyAt C H' p d kvs' m' → KnR K H' kvs' kn' → Td K H' v' k' → kn'.length ≤ kn.length + 8192 * sz k → Q v' H') ∧ (∀ H', r = none → Sm p d H H' → E (.ref XN) none H')
section
variable {P : Program} {w : World} {K : PySem.W.Frag} {mg : Str → Option Value} {base : Heap} {C XN aI aB dS : Addr} {f fE fO fC fF fW : Addr} {fd fdE fdO fdC fdF fdW : FuncData}
theorem scN : FnScope ["self", "program", "scope", "left", "word", "own", "found", "value", "more", "kinds", "part"] ["self", "program", "scope", "left"] (defScope sInf) := ⟨rfl, rfl, rfl, by decide +kernel, rfl, by decide +kernel, by decide +kernel⟩
theorem ok_inf (F : Fun K "infer" "Typer.infer" sInf f fd) (T : Txt K mg C) (N : NoF K mg XN) (W : WrS K w mg aI aB dS) (hlen : mg "len" = none) (mN : Meth K C "infer" f) (bN : Binds K fd ["self", "program", "scope", "left"] [])
    (ME : Mt P w K mg base (L2.CX P w) C 112 "make_equal" ["self", "first", "second"] (spEq K C XN 12) fE fdE) (MO : Mt P w K mg base CX0 C 101 "opened" ["self", "scheme"] (spOpn K C) fO fdO)
    (MC : Mt P w K mg base CX0 C 101 "closed" ["self", "kind", "scope"] (spClsN K C) fC fdC) (MF : Mt P w K mg base CX0 C 1 "fresh" ["self"] (spFresh K C) fF fdF)
    (MW : Mt P w K mg base CX0 C 1 "with_name" ["self", "scope", "name", "scheme"] (spWith K) fW fdW) :
    ∀ n, FnOk P w K mg base (L2.CX P w) (112 + n) f fd ["self", "program", "scope", "left"] (spInf K C XN n)
  | 0 => by
    have no : ∀ vs H Q E, ¬ spInf K C XN 0 vs H Q E := fun vs H Q E h => by
      obtain ⟨_, _, _, _, _, _, _, _, _, _, _, _, _, _, _, _, _, _, _, _, _, h, _⟩ := h
      cases h
    exact ⟨fun vs H Q E h => absurd h (no vs H Q E), fun A outer s H args us vs Q E _ _ _ _ h => absurd h (no vs H Q E)⟩
  | n + 1 => by
    have G := ok_inf F T N W hlen mN bN ME MO MC MF MW n
    refine F.okX scN (fun vs H Q E h => ?_) (fun cdv A outer s H vs Q E hr h => ?_)
    · obtain ⟨_, _, _, _, _, _, _, _, _, _, _, _, rfl, _⟩ := h
      rfl
    obtain ⟨p, d, kvs, kn, m, v, c, ss, sc, left, k, r, rfl, t, hk, hv, hc, hsc, ncd, hl, nd, e, hz, q, qe⟩ := h
    have hu := hu_of hr
    have hr1 := hr.mono (show 1 ≤ 112 + n by omega)
    have hr101 := hr.mono (show 101 ≤ 112 + n by omega)
    have hr112 := hr.mono (show 112 ≤ 112 + n by omega)
    obtain ⟨ob, o1, o2, o3⟩ := W.obS
    refine ⟨_, pss_cons (ps_if (PW.pt (pw_or (pt_cmpR op_eq (pv 3) pe_int (nomark _)) (pw_or1 (pt_cmpR op_ne (pe_kget o1 o2 o3 (pe_glob (v := V.ref dS) rfl W.shp rfl) (pe_ix ix_tup (pv 1) pe_int (fun _ _ => rfl)) ⟨rfl, rfl, rfl, rfl⟩) (pe_callB call_len_seq (by rfl) hlen PySem.boot_len (pa_cons (pv 1) pa_nil)) (nomark _)))))
        (pss_one (ps_raise rfl (takes_of rfl rfl rfl rfl) (pmk_own PySem.F.excBase_ValueError N.x N.g N.k (raises_own N.b N.t) rfl))) pss_nil)
      (pss_cons (ps_set (i := 4) scN.nd rfl (Or.inl rfl) (pe_ix ix_tup (pv 1) pe_int (fun _ _ => rfl)))
      (pss_cons (ps_if (pt_cmpR op_eq (pv 4) pe_str (nomark _))
        (pss_cons (ps_if (pt_cmp (pc_dnotin hu (pe_ix ix_tup (pv 1) pe_int (fun _ _ => rfl)) (pv 2))) (pss_one (ps_raise rfl (takes_of rfl rfl rfl rfl) (pmk_own PySem.F.excBase_ValueError N.x N.g N.k (raises_own N.b N.t) rfl))) pss_nil)
        (pss_one (ps_ret (pe_meth (pv 0) T.cl MO.m MO.ok hr101 MO.b .nil pass0 (pa_cons (pe_dget hu (pv 2) (pe_ix ix_tup (pv 1) pe_int (fun _ _ => rfl)) (fun _ _ => rfl)) pa_nil))))) pss_nil)
      (pss_cons (ps_if (pt_cmpR op_in_seq (pv 4) (pe_tup (pa_cons pe_str (pa_cons pe_str pa_nil))) rfl) (pss_one (ps_ret (pe_ifExp (pt_cmpR op_eq (pv 4) pe_str (nomark _)) (pe_glob (v := V.ref aI) rfl W.int rfl) (pe_glob (v := V.ref aB) rfl W.bool rfl)))) pss_nil)
      (pss_cons (ps_if (pt_cmpR op_in_seq (pv 4) (pe_tup (pa_cons pe_str (pa_cons pe_str pa_nil))) rfl)
        (pss_cons (ps_set (i := 5) scN.nd rfl (Or.inl rfl) (pe_meth0 (pv 0) T.cl MF.m MF.ok hr1 MF.b .nil pass0))
        (pss_cons (ps_set (i := 6) scN.nd rfl (Or.inl rfl) (pe_meth (pv 0) T.cl mN G hr bN .nil (passes_call (takes_of rfl rfl rfl rfl) fun _ _ _ _ h => h) (pa_cons (pe_ix ix_tup (pv 1) pe_int (fun _ _ => rfl))
            (pa_cons (pe_meth (pv 0) T.cl MW.m MW.ok hr1 MW.b .nil pass0 (pa_cons (pv 2) (pa_cons (pe_ix ix_tup (pv 1) pe_int (fun _ _ => rfl)) (pa_cons (pe_tup (pa_cons (pe_lst pa_nil) (pa_cons (pv 5) pa_nil))) pa_nil)))) (pa_cons (pe_op op_sub (pv 3) pe_int) pa_nil)))))
        (pss_cons (ps_if (pt_cmpR op_eq (pv 4) pe_str (nomark _)) (pss_one (ps_ret (pe_tup (pa_cons pe_str (pa_cons (pv 5) (pa_cons (pv 6) pa_nil)))))) pss_nil)
        (pss_cons (ps_expr (pe_meth (pv 0) T.cl ME.m ME.ok hr112 ME.b .nil (passes_call (takes_of rfl rfl rfl rfl) fun _ _ _ _ h => h) (pa_cons (pv 5) (pa_cons (pv 6) pa_nil))))
        (pss_one (ps_ret (pv 5))))))) pss_nil)
      (pss_cons (ps_if (pt_cmpR op_eq (pv 4) pe_str (nomark _))
        (pss_cons (ps_set (i := 7) scN.nd rfl (Or.inl rfl) (pe_meth (pv 0) T.cl mN G hr bN .nil (passes_call (takes_of rfl rfl rfl rfl) fun _ _ _ _ h => h) (pa_cons (pe_ix ix_tup (pv 1) pe_int (fun _ _ => rfl)) (pa_cons (pv 2) (pa_cons (pe_op op_sub (pv 3) pe_int) pa_nil)))))
        (pss_cons (ps_set (i := 8) scN.nd rfl (Or.inl rfl) (pe_meth (pv 0) T.cl MW.m MW.ok hr1 MW.b .nil pass0 (pa_cons (pv 2) (pa_cons (pe_ix ix_tup (pv 1) pe_int (fun _ _ => rfl)) (pa_cons (pe_meth (pv 0) T.cl MC.m MC.ok hr101 MC.b .nil pass0 (pa_cons (pv 7) (pa_cons (pv 2) pa_nil))) pa_nil)))))
        (pss_one (ps_ret (pe_meth (pv 0) T.cl mN G hr bN .nil (passes_call (takes_of rfl rfl rfl rfl) fun _ _ _ _ h => h) (pa_cons (pe_ix ix_tup (pv 1) pe_int (fun _ _ => rfl)) (pa_cons (pv 8) (pa_cons (pe_op op_sub (pv 3) pe_int) pa_nil)))))))) pss_nil)
      (pss_cons (LX.ps_lcX (i := 9) (own := [("part", 10)]) (g := gName 10) (tt := tYes) rfl rfl (takes_of rfl rfl rfl rfl) rfl scN.nd rfl rfl (sw_true rfl rfl rfl (by decide +kernel)) (pi_tup (pe_slice sl_tupA (pv 1) (po_some pe_int) po_none))
        (blkOk_by (N := ["self", "program", "scope", "left", "word", "own", "found", "value", "more", "kinds", "part"]) (sc := defScope sInf) (by decide +kernel)) (fun _ _ _ _ _ _ => pg_name (i := 10) scN.nd rfl (Or.inl rfl)) (fun _ _ _ _ _ _ => pts_nil)
        (fun _ _ _ _ _ _ => pe_meth (pv 0) T.cl mN G hr bN .nil (LX.blk_pass fun _ _ _ h => h) (pa_cons (pv 10) (pa_cons (pv 2) (pa_cons (pe_op op_sub (pv 3) pe_int) pa_nil)))))
      (pss_cons (ps_if (pt_cmpR op_eq (pv 4) pe_str (nomark _))
        (pss_cons (ps_set (i := 6) scN.nd rfl (Or.inl rfl) (pe_meth0 (pv 0) T.cl MF.m MF.ok hr1 MF.b .nil pass0))
        (pss_cons (ps_expr (pe_meth (pv 0) T.cl ME.m ME.ok hr112 ME.b .nil (passes_call (takes_of rfl rfl rfl rfl) fun _ _ _ _ h => h) (pa_cons (pe_ix ix_list (pv 9) pe_int (fun _ _ => rfl)) (pa_cons (pe_tup (pa_cons pe_str (pa_cons (pe_ix ix_list (pv 9) pe_int (fun _ _ => rfl)) (pa_cons (pv 6) pa_nil)))) pa_nil))))
        (pss_one (ps_ret (pv 6))))) pss_nil)
      (pss_cons (ps_if (pt_cmpR op_eq (pv 4) pe_str (nomark _)) (pss_one (ps_ret (pe_op op_catA (pe_tup (pa_cons pe_str pa_nil)) (pe_callTy call_tuple_of rfl T.tuple (by decide +kernel) (pa_cons (pv 9) pa_nil))))) pss_nil)
      (pss_cons (ps_expr (pe_meth (pv 0) T.cl ME.m ME.ok hr112 ME.b .nil (passes_call (takes_of rfl rfl rfl rfl) fun _ _ _ _ h => h) (pa_cons (pe_ix ix_list (pv 9) pe_int (fun _ _ => rfl)) (pa_cons (pe_glob (v := V.ref aB) rfl W.bool rfl) pa_nil))))
      (pss_cons (ps_expr (pe_meth (pv 0) T.cl ME.m ME.ok hr112 ME.b .nil (passes_call (takes_of rfl rfl rfl rfl) fun _ _ _ _ h => h) (pa_cons (pe_ix ix_list (pv 9) pe_int (fun _ _ => rfl)) (pa_cons (pe_ix ix_list (pv 9) pe_int (fun _ _ => rfl)) pa_nil))))
      (pss_one (ps_ret (pe_ix ix_list (pv 9) pe_int (fun _ _ => rfl)))))))))))))), ?_⟩
    obtain ⟨⟨dx, h1⟩, h2⟩ := id t
    have nof : ∀ (x : Str) (m' : Int), ¬ x = "made" → ¬ x = "known" → (flds d m').lookup x = none := fun x m' a b => flds_no d m' a b
    have nO : ∀ m', (flds d m').lookup ("opened" : Str) = none := fun m' => nof _ m' (by decide +kernel) (by decide +kernel)
    have nF : ∀ m', (flds d m').lookup ("fresh" : Str) = none := fun m' => nof _ m' (by decide +kernel) (by decide +kernel)
    have nI : ∀ m', (flds d m').lookup ("infer" : Str) = none := fun m' => nof _ m' (by decide +kernel) (by decide +kernel)
    have nW : ∀ m', (flds d m').lookup ("with_name" : Str) = none := fun m' => nof _ m' (by decide +kernel) (by decide +kernel)
    have nE : ∀ m', (flds d m').lookup ("make_equal" : Str) = none := fun m' => nof _ m' (by decide +kernel) (by decide +kernel)
    have nC : ∀ m', (flds d m').lookup ("closed" : Str) = none := fun m' => nof _ m' (by decide +kernel) (by decide +kernel)
    obtain ⟨wd, ps, rfl, hleft, hshape, hb⟩ := inf_cases e
    obtain ⟨a, xs, rfl, ha, hxs⟩ := hv.node
    have lxs := hxs.len
    have hsz : sz (.tuple (.str wd :: ps)) = 2 + szL ps := by
      show 1 + (1 + szL ps) = _
      omega
    have npc : c ≠ p := fun z => by rw [z, h1] at hc; cases hc
    have d0 : decide (V.int left = V.int 0) = false := decide_eq_false fun z => hleft (by cases z; rfl)
    refine ⟨_, rfl, rfl, _, rfl, Eq.mpr (congrArg (fun z => if z = true then _ else _) d0) (iteF ?_)⟩
    refine ⟨dS, rfl, W.low, _, rfl, _, _, _, _, rfl, rfl, ha.seq, at0, _, _, rfl, W.get _ _ hshape, _, rfl, a, _, rfl, .inr ha.seq, rfl, _, rfl, ?_⟩
    have d1 : (!decide (V.int ((ps.length + 1 : Nat) : Int) = V.int (((V.str wd :: xs).length : Nat) : Int))) = false := by
      rw [List.length_cons, lxs, decide_eq_true rfl]
      rfl
    refine Eq.mpr (congrArg (fun z => if z = true then _ else _) d1) (iteF ?_)
    refine ⟨_, rfl, _, _, _, _, rfl, rfl, ha.seq, at0, ?_⟩
    refine ⟨_, rfl, rfl, _, rfl, ?_⟩
    by_cases w1 : wd = "name"
    · refine Eq.mpr (congrArg (fun z => if z = true then _ else _) (dEqT w1)) (iteT ?_)
      obtain ⟨x, sch, k', m', rfl, lx, ho, rfl⟩ := infB_name w1 hb
      cases hxs with
      | cons hx hxs' =>
      cases hx
      obtain ⟨vx, g1, g2⟩ := (TabR.val (e := (Sum.inr : Str → Key)) inj_r x hsc).1 _ lx
      refine ⟨_, rfl, _, _, _, _, rfl, rfl, ha.seq, at1, _, rfl, c, _, rfl, DGet.k (k := Sum.inr x) hc, _, rfl, ?_⟩
      have d2 : (!(valV ss (Sum.inr x)).isSome) = false := by rw [g1]; rfl
      refine Eq.mpr (congrArg (fun z => if z = true then _ else _) d2) (iteF ?_)
      refine ⟨_, rfl, p, dx, _, rfl, h1, nO _, _, rfl, _, rfl, _, _, _, _, rfl, rfl, ha.seq, at1, c, vx, rfl, g1 ▸ DGet.k (k := Sum.inr x) hc, ?_⟩
      refine ⟨p, d, kvs, m, vx, sch, k', m', rfl, t, g2, ho, fun v' H' sm t' hv' => q k' kn m' v' kvs H' rfl sm t' (hk.tt (t.tt sm)) hv' (Nat.le_add_right _ _)⟩
    refine Eq.mpr (congrArg (fun z => if z = true then _ else _) (dEqF w1)) (iteF ?_)
    refine ⟨_, rfl, (by show 2 ≤ sizeLine; decide), fun T1 hT1 => ⟨T1, _, rfl, .inr (.inl (.inl upd_same)), rfl, rfl, _, rfl, ?_⟩⟩
    have s1 := same_new hT1 (.tup [V.str "number", V.str "truth"])
    generalize upd H T1 (.tup [V.str "number", V.str "truth"]) = H1 at s1
    by_cases w2 : wd = "number" ∨ wd = "truth"
    · have d2 : inV (.str wd) [.str "number", .str "truth"] = true := by rw [inV2]; exact decide_eq_true w2
      refine Eq.mpr (congrArg (fun z => if z = true then _ else _) d2) (iteT ?_)
      refine ⟨_, rfl, rfl, _, rfl, ?_⟩
      unfold infB at hb
      rw [if_neg w1] at hb
      by_cases w3 : wd = "number"
      · refine Eq.mpr (congrArg (fun z => if z = true then _ else _) (dEqT w3)) (iteT ?_)
        rw [if_pos w3] at hb
        cases hb
        exact q _ _ _ _ kvs H1 rfl (Sm.same s1) (t.same s1) (hk.tt (TT.same s1)) (W.dI _) (Nat.le_add_right _ _)
      · refine Eq.mpr (congrArg (fun z => if z = true then _ else _) (dEqF w3)) (iteF ?_)
        rw [if_neg w3, if_pos (w2.resolve_left w3)] at hb
        cases hb
        exact q _ _ _ _ kvs H1 rfl (Sm.same s1) (t.same s1) (hk.tt (TT.same s1)) (W.dB _) (Nat.le_add_right _ _)
    have d2 : inV (.str wd) [.str "number", .str "truth"] = false := by rw [inV2]; exact decide_eq_false w2
    refine Eq.mpr (congrArg (fun z => if z = true then _ else _) d2) (iteF ?_)
    refine ⟨_, rfl, (by show 2 ≤ sizeLine; decide), fun T2 hT2 => ⟨T2, _, rfl, .inr (.inl (.inl upd_same)), rfl, rfl, _, rfl, ?_⟩⟩
    have s2 := s1.trans (same_new hT2 (.tup [V.str "fun", V.str "fix"]))
    generalize upd H1 T2 (.tup [V.str "fun", V.str "fix"]) = H2 at s2
    have w2a : ¬ wd = "number" := fun z => w2 (.inl z)
    have w2b : ¬ wd = "truth" := fun z => w2 (.inr z)
    have t2 := t.same s2
    have hk2 := hk.tt (TT.same s2)
    have ha2 := ha.tt (TT.same s2)
    have hxs2 := hxs.tt (TT.same s2)
    have hc2 := s2 _ _ hc
    have hsc2 := ScR.same hsc s2
    have h12 := s2 _ _ h1
    by_cases w3 : wd = "fun" ∨ wd = "fix"
    · have d3 : inV (.str wd) [.str "fun", .str "fix"] = true := by rw [inV2]; exact decide_eq_true w3
      refine Eq.mpr (congrArg (fun z => if z = true then _ else _) d3) (iteT ?_)
      have w4 : wd = "fun" := by
        rcases w3 with z | z
        · exact z
        · exfalso
          unfold infB at hb
          rw [if_neg w1, if_neg w2a, if_neg w2b, if_neg (by rw [z]; decide +kernel), if_pos z] at hb
          cases hb
      obtain ⟨x, b, r1, rfl, hi, z1, z2⟩ := infB_fun w1 w2a w2b w4 hb
      refine ⟨_, rfl, p, dx, _, rfl, h12, nF _, p, d, kvs, m, rfl, t2, fun vo H3 sm3 t3 hvo => ?_⟩
      cases hxs2 with
      | cons hx hxs' =>
      cases hx
      cases hxs' with
      | @cons vb _ _ _ hvb hnil =>
      cases hnil
      obtain ⟨⟨dx3, k31⟩, k32⟩ := id t3
      have tt3 := t2.tt sm3
      have ha3 := ha2.tt tt3
      have hc3 : H3 c = some (.dK ss) := sm3 _ _ hc2 npc ncd
      have hsc3 : ScR K H3 ss sc := ScR.sm hsc2 t2 sm3
      refine ⟨_, rfl, p, dx3, _, rfl, k31, nI _, _, rfl, _, _, _, _, rfl, rfl, ha3.seq, at2, ?_⟩
      refine ⟨_, rfl, p, dx3, _, rfl, k31, nW _, _, rfl, _, rfl, _, _, _, _, rfl, rfl, ha3.seq, at1, Nat.zero_le _, fun L hL => ⟨_, rfl, (by show 2 ≤ sizeLine; decide), fun T hT => ?_⟩⟩
      have s4 := (same_new hL (.lst [])).trans (same_new hT (.tup [V.ref L, vo]))
      have hL4 := (same_new hT (.tup [V.ref L, vo])) _ _ (upd_same (H := H3) (a := L) (o := .lst []))
      have hT4 := upd_same (H := upd H3 L (.lst [])) (a := T) (o := .tup [V.ref L, vo])
      generalize upd (upd H3 L (.lst [])) T (.tup [V.ref L, vo]) = H4 at s4 hL4 hT4
      refine ⟨_, c, x, .ref T, ss, sc, scheme [] (kv m), rfl, s4 _ _ hc3, hsc3.same s4, ⟨T, L, vo, [], kv m, rfl, rfl, .inl hT4, hL4, Nat.zero_le _, hvo.tt (TT.same s4)⟩, by omega, fun c' ss' H5 s5 hn hc5 hsc5 => ?_⟩
      have s45 := s4.trans s5
      have t5 := t3.same s45
      have sm5 : Sm p d H H5 := ((Sm.same s2).trans sm3).trans (Sm.same s45)
      have ncd' : c' ≠ d := fun z => by
        have := s4 _ _ k32
        rw [z] at hn
        rw [hn] at this
        cases this
      have szb : szL [.str x, b] = 1 + sz b := by
        show 1 + (sz b + 0) = _
        omega
      rw [hsz, szb] at hz
      rw [hsz, szb] at q
      have lsc' := pk_len (kn := sc) (i := x) (d := scheme [] (kv m))
      refine ⟨_, rfl, _, _, rfl, rfl, ?_⟩
      refine ⟨p, d, kvs, kn, m + 1, vb, c', ss', _, left - 1, b, r1, rfl, t5, (hk2.tt tt3).tt (TT.same s45), (hvb.tt tt3).tt (TT.same s45), hc5, hsc5, ncd', by omega, nd.pk, hi, by omega, fun k1 kn1 m1 v1 kvs1 H6 e1 sm6 t6 hk6 hv6 hl6 => ?_, fun H6 e1 sm6 => qe H6 (z1 e1) (sm5.trans sm6)⟩
      refine ⟨_, rfl, rfl, _, rfl, ?_⟩
      refine Eq.mpr (congrArg (fun z => if z = true then _ else _) (dEqT w4)) (iteT ?_)
      refine ⟨_, rfl, _, rfl, (by show 3 ≤ sizeLine; decide), fun T' hT' => ?_⟩
      have s7 := same_new hT' (.tup [V.str "arrow", vo, v1])
      have hvo6 := ((hvo.tt (TT.same s45)).tt (t5.tt sm6)).tt (TT.same s7)
      exact q _ kn1 m1 _ kvs1 _ (z2 _ _ _ e1) ((sm5.trans sm6).trans (Sm.same s7)) (t6.same s7) (hk6.tt (TT.same s7)) (.tup (.inl upd_same) (.cons (.str _) (.cons hvo6 (.cons (hv6.tt (TT.same s7)) .nil)))) (by omega)
    have d3 : inV (.str wd) [.str "fun", .str "fix"] = false := by rw [inV2]; exact decide_eq_false w3
    refine Eq.mpr (congrArg (fun z => if z = true then _ else _) d3) (iteF ?_)
    have w3a : ¬ wd = "fun" := fun z => w3 (.inl z)
    have w3b : ¬ wd = "fix" := fun z => w3 (.inr z)
    refine ⟨_, rfl, rfl, _, rfl, ?_⟩
    by_cases w4 : wd = "let"
    · refine Eq.mpr (congrArg (fun z => if z = true then _ else _) (dEqT w4)) (iteT ?_)
      obtain ⟨x, v, b, r1, rfl, hi, z1, z2⟩ := infB_let w1 w2a w2b w3a w3b w4 hb
      cases hxs2 with
      | cons hx hxs' =>
      cases hx
      cases hxs' with
      | @cons vv _ _ _ hvv hxs'' =>
      cases hxs'' with
      | @cons vb _ _ _ hvb hnil =>
      cases hnil
      have szb : szL [.str x, v, b] = 1 + (sz v + sz b) := by
        show 1 + (sz v + (sz b + 0)) = _
        omega
      rw [hsz, szb] at hz
      rw [hsz, szb] at q
      refine ⟨_, rfl, p, dx, _, rfl, h12, nI _, _, rfl, _, _, _, _, rfl, rfl, ha2.seq, at2, _, rfl, _, rfl, _, _, rfl, rfl, ?_⟩
      refine ⟨p, d, kvs, kn, m, vv, c, ss, sc, left - 1, v, r1, rfl, t2, hk2, hvv, hc2, hsc2, ncd, by omega, nd, hi, by omega, fun k1 kn1 m1 v1 kvs1 H3 e1 sm3 t3 hk3 hv3 hl3 => ?_, fun H3 e1 sm3 => qe H3 (z1 e1) ((Sm.same s2).trans sm3)⟩
      obtain ⟨sch, hcls, hi2⟩ := z2 _ _ _ e1
      obtain ⟨⟨dx3, k31⟩, k32⟩ := id t3
      have tt3 := t2.tt sm3
      have ha3 := ha2.tt tt3
      have hc3 : H3 c = some (.dK ss) := sm3 _ _ hc2 npc ncd
      have hsc3 : ScR K H3 ss sc := ScR.sm hsc2 t2 sm3
      refine ⟨_, rfl, p, dx3, _, rfl, k31, nW _, _, rfl, _, rfl, _, _, _, _, rfl, rfl, ha3.seq, at1, _, rfl, p, dx3, _, rfl, k31, nC _, _, rfl, _, rfl, ?_⟩
      refine ⟨p, d, kvs1, kn1, m1, v1, c, ss, sc, k1, sch, rfl, t3, hk3, hv3, hc3, hsc3, ncd, by omega, nd, hcls, fun vs' H4 s4 hsch => ?_⟩
      refine ⟨_, c, x, vs', ss, sc, sch, rfl, s4 _ _ hc3, hsc3.same s4, hsch, by omega, fun c' ss' H5 s5 hn hc5 hsc5 => ?_⟩
      have s45 := s4.trans s5
      have t5 := t3.same s45
      have sm5 : Sm p d H H5 := ((Sm.same s2).trans sm3).trans (Sm.same s45)
      have ncd' : c' ≠ d := fun z => by
        have := s4 _ _ k32
        rw [z] at hn
        rw [hn] at this
        cases this
      have lsc' := pk_len (kn := sc) (i := x) (d := sch)
      refine ⟨_, rfl, p, dx3, _, rfl, s45 _ _ k31, nI _, _, rfl, _, _, _, _, rfl, rfl, (ha3.tt (TT.same s45)).seq, at3, _, rfl, _, rfl, _, _, rfl, rfl, ?_⟩
      exact ⟨p, d, kvs1, kn1, m1, vb, c', ss', _, left - 1, b, r, rfl, t5, hk3.tt (TT.same s45), (hvb.tt tt3).tt (TT.same s45), hc5, hsc5, ncd', by omega, nd.pk, hi2, by omega, fun k2 kn2 m2 v2 kvs2 H6 e2 sm6 t6 hk6 hv6 hl6 =>
        q k2 kn2 m2 v2 kvs2 H6 e2 (sm5.trans sm6) t6 hk6 hv6 (by omega), fun H6 e2 sm6 => qe H6 e2 (sm5.trans sm6)⟩
    refine Eq.mpr (congrArg (fun z => if z = true then _ else _) (dEqF w4)) (iteF ?_)
    obtain ⟨r1, hi, z1, z2⟩ := infB_other w1 w2a w2b w3a w3b w4 hb
    rw [hsz] at hz q
    refine ⟨_, rfl, _, rfl, a, _, rfl, ha2.seq, (fun z => absurd z cut1_ne), fun _ g1 hg1 => ?_⟩
    rw [cut1]
    have s3 := s2.trans (same_new hg1 (.tup xs))
    have y1 := upd_same (H := H2) (a := g1) (o := .tup xs)
    have hxs3 := hxs2.tt (TT.same (same_new hg1 (.tup xs)))
    generalize upd H2 g1 (.tup xs) = H3 at s3 y1 hxs3
    refine ⟨g1, rfl, ⟨_, .inl (.inl y1)⟩, fun D hD => ?_⟩
    have hD0 : H D = none := by
      cases e' : H D with
      | none => rfl
      | some o => rw [s3 _ _ e'] at hD; cases hD
    have lps : ps.length ≤ 3 := by
      have sh : ∀ j, shape wd = some j → j ≤ 4 := fun j hj => by
        unfold shape at hj
        repeat' split at hj
        all_goals first | (cases hj; decide) | cases hj
      have := sh _ hshape
      omega
    refine lc_tup (xs := xs) (fun j H' => ∃ kn' m' kvs' ys ks r', Sm p d H H' ∧ TyAt C H' p d kvs' m' ∧ KnR K H' kvs' kn' ∧ H' D = some (.lst ys) ∧ TdA K H' ys ks ∧ H' g1 = some (.tup xs) ∧ ks.length = j ∧ kn'.length + 8192 * szL (ps.drop j) ≤ kn.length + 8192 * szL ps ∧
      infs (fun p kn m => inf n p sc (left - 1) kn m) (ps.drop j) kn' m' = some r' ∧ (r' = none → r1 = none) ∧ (∀ ks2 kn2 m2, r' = some (ks2, kn2, m2) → r1 = some (ks ++ ks2, kn2, m2)))
      ⟨kn, m, kvs, [], [], r1, (Sm.same s3).to hD0, (t.same s3).upd (fun z => by rw [z, s3 _ _ h1] at hD; cases hD) (fun z => by rw [z, s3 _ _ h2] at hD; cases hD), (hk.tt (TT.same s3)).tt (TT.new hD), upd_same, .nil, by rw [upd_ne (ne_of_none y1 hD)]; exact y1, rfl, Nat.le_refl _, hi, fun z => z, fun _ _ _ z => z⟩
      (fun j H' _ z => ?_) (fun j x H' hj z => ?_) fun H' z => ?_
    · obtain ⟨_, _, _, _, _, _, _, _, _, _, _, z, _⟩ := z
      exact .inl (.inl z)
    · obtain ⟨kn', m', kvs', ys, ks, r', sm, t', hk', hD', hys, hg', hlen', hbud, hinf, z3, z4⟩ := z
      obtain ⟨dp, d1', d2'⟩ := hxs.get hj
      obtain ⟨r2, f1, f2, f3⟩ := infs_step d1' hinf
      obtain ⟨⟨dx', k1⟩, k2⟩ := id t'
      have lj : j < ps.length := by
        by_cases h : j < ps.length
        · exact h
        · rw [List.getElem?_eq_none (by omega)] at d1'; cases d1'
      have edrop : szL (ps.drop j) = sz dp + szL (ps.drop (j + 1)) := by
        rw [List.getElem?_eq_getElem lj] at d1'
        rw [List.drop_eq_getElem_cons lj, Option.some.inj d1']
        rfl
      rw [edrop] at hbud
      have npd : ∀ b, b = p ∨ b = d → b ≠ D := fun b hb z => by
        rcases hb with rfl | rfl
        · rw [z, hD'] at k1; cases k1
        · rw [z, hD'] at k2; cases k2
      refine ⟨rfl, ?_⟩
      dsimp only [tYes]
      refine iteT ⟨_, rfl, p, dx', _, rfl, k1, nI _, _, rfl, _, rfl, _, rfl, _, _, rfl, rfl, ?_⟩
      refine ⟨p, d, kvs', kn', m', x, c, ss, sc, left - 1, dp, r2, rfl, t', hk', d2'.tt (t.tt sm), sm _ _ hc npc ncd, ScR.sm hsc t sm, ncd, by omega, nd, f1, by omega, fun k3 kn3 m3 v3 kvs3 H4 e3 sm4 t4 hk4 hv4 hl4 => ?_, fun H4 e3 sm4 => qe H4 (z1 (z3 (f2 e3))) (sm.trans sm4)⟩
      obtain ⟨r3, g4, g5, g6⟩ := f3 _ _ _ e3
      have hD4 := sm4 _ _ hD' (fun z => npd p (.inl rfl) z.symm) (fun z => npd d (.inr rfl) z.symm)
      have tt4 := t'.tt sm4
      have tu : TT H4 (upd H4 D (.lst (ys ++ [v3]))) := TT.upd hD4 fun _ z => by cases z
      have hg4 := tt4 _ _ hg'
      have lys := hys.len
      refine ⟨ys, hD4, (by show ys.length < (16777216 : Nat); omega), kn3, m3, kvs3, _, ks ++ [k3], r3, (sm.trans sm4).to hD0, t4.upd (npd p (.inl rfl)).symm (npd d (.inr rfl)).symm, hk4.tt tu, upd_same, ((hys.tt tt4).tt tu).app (.cons (hv4.tt tu) .nil), tu _ _ hg4, by rw [List.length_append, hlen']; rfl, by omega, g4, fun z => z3 (g5 z), fun ks2 kn2 m2 z => ?_⟩
      have := z4 _ _ _ (g6 _ _ _ z)
      rw [this, List.append_assoc]
      rfl
    · obtain ⟨kn', m', kvs', ys, ks, r', sm, t', hk', hD', hys, hg', hlen', hbud, hinf, z3, z4⟩ := z
      rw [lxs, List.drop_length] at hinf hbud
      cases hinf
      have er := z4 _ _ _ rfl
      rw [List.append_nil] at er
      have hj := z2 _ _ _ er
      obtain ⟨⟨dx', k1⟩, k2⟩ := id t'
      have hbud : kn'.length ≤ kn.length + 8192 * szL ps := hbud
      have p12 : 2 ^ 12 = 4096 := by decide
      refine ⟨_, rfl, rfl, _, rfl, ?_⟩
      rcases join_cases hj with ⟨w5, ka, kb, r5, rfl, he, z5, z6⟩ | ⟨w5, w6, ka, kb, rfl, rfl⟩ | ⟨w5, w6, ka, kb, kc, r5, rfl, he, z5, z6⟩
      · refine Eq.mpr (congrArg (fun z => if z = true then _ else _) (dEqT w5)) (iteT ?_)
        cases hys with
        | @cons va _ _ _ hva hys' =>
        cases hys' with
        | @cons vb _ _ _ hvb hnil =>
        cases hnil
        refine ⟨_, rfl, p, dx', _, rfl, k1, nF _, p, d, kvs', m', rfl, t', fun vo H4 sm4 t4 hvo => ?_⟩
        obtain ⟨⟨dx4, k41⟩, k42⟩ := id t4
        have nDp : D ≠ p := fun z => by rw [z, k1] at hD'; cases hD'
        have nDd : D ≠ d := fun z => by rw [z, k2] at hD'; cases hD'
        have hD4 := sm4 _ _ hD' nDp nDd
        have tt4 := t'.tt sm4
        refine ⟨_, rfl, p, dx4, _, rfl, k41, nE _, _, rfl, _, _, _, _, rfl, rfl, SqL.of hD4, at0, _, rfl, _, _, _, _, rfl, rfl, SqL.of hD4, at1, _, rfl, (by show 3 ≤ sizeLine; decide), fun T' hT => ?_⟩
        have s5 := same_new hT (.tup [V.str "arrow", vb, vo])
        refine ⟨p, d, kvs', kn', m' + 1, va, .ref T', ka, kArr kb (kv m'), r5, rfl, t4.same s5, (hk'.tt tt4).tt (TT.same s5), (hva.tt tt4).tt (TT.same s5), .tup (.inl upd_same) (.cons (.str _) (.cons ((hvb.tt tt4).tt (TT.same s5)) (.cons (hvo.tt (TT.same s5)) .nil))), he, by rw [p12]; omega, fun kn2 kvs2 H6 e2 sm6 t6 hk6 hl6 => ?_, fun H6 e2 sm6 => qe H6 (z5 e2) ((sm.trans sm4).trans ((Sm.same s5).trans sm6))⟩
        rw [p12] at hl6
        have tt6 := (TT.same s5).trans ((t4.same s5).tt sm6)
        exact ⟨_, rfl, q _ _ _ _ _ _ (z6 _ e2) ((sm.trans sm4).trans ((Sm.same s5).trans sm6)) t6 hk6 (hvo.tt tt6) (by omega)⟩
      · refine Eq.mpr (congrArg (fun z => if z = true then _ else _) (dEqF w5)) (iteF ?_)
        refine ⟨_, rfl, rfl, _, rfl, Eq.mpr (congrArg (fun z => if z = true then _ else _) (dEqT w6)) (iteT ?_)⟩
        refine ⟨(by show 1 ≤ sizeLine; decide), fun T1 hT1 => ?_⟩
        have s4 := same_new hT1 (.tup [V.str "pair"])
        refine ⟨_, rfl, D, ys, rfl, .inl ⟨SqL.of (s4 _ _ hD'), fun l hl => ?_⟩⟩
        have s5 := s4.trans (same_new hl (.tup ys))
        have lys := hys.len
        refine ⟨T1, l, _, _, rfl, rfl, .inl (.inl ((same_new hl _) _ _ upd_same)), .inl (.inl upd_same), ?_, (fun z => nomatch z), fun _ z => ?_, fun _ _ p4 hp4 => ?_⟩
        · rw [lys]
          show 1 + 2 ≤ 16777216
          decide
        · rw [z] at lys
          cases lys
        · have s6 := s5.trans (same_new hp4 (.tup ([V.str "pair"] ++ ys)))
          exact q _ _ _ _ kvs' _ rfl (sm.trans (Sm.same s6)) (t'.same s6) (hk'.tt (TT.same s6)) (.tup (.inl upd_same) (.cons (.str _) (hys.tt (TT.same s6)))) (by omega)
      · refine Eq.mpr (congrArg (fun z => if z = true then _ else _) (dEqF w5)) (iteF ?_)
        refine ⟨_, rfl, rfl, _, rfl, Eq.mpr (congrArg (fun z => if z = true then _ else _) (dEqF w6)) (iteF ?_)⟩
        cases hys with
        | @cons va _ _ _ hva hys' =>
        cases hys' with
        | @cons vb _ _ _ hvb hys'' =>
        cases hys'' with
        | @cons vc _ _ _ hvc hnil =>
        cases hnil
        have nDp : D ≠ p := fun z => by rw [z, k1] at hD'; cases hD'
        have nDd : D ≠ d := fun z => by rw [z, k2] at hD'; cases hD'
        refine ⟨_, rfl, p, dx', _, rfl, k1, nE _, _, rfl, _, _, _, _, rfl, rfl, SqL.of hD', at0, ?_⟩
        refine ⟨p, d, kvs', kn', m', va, .ref aB, ka, kBool, r5, rfl, t', hk', hva, W.dB _, he, by rw [p12]; omega, fun kn2 kvs2 H6 e2 sm6 t6 hk6 hl6 => ?_, fun H6 e2 sm6 => qe H6 (z5 e2) (sm.trans sm6)⟩
        rw [p12] at hl6
        obtain ⟨r7, he7, z7, z8⟩ := z6 _ e2
        obtain ⟨⟨dx6, k61⟩, k62⟩ := id t6
        have tt6 := t'.tt sm6
        have hD6 := sm6 _ _ hD' nDp nDd
        refine ⟨_, rfl, p, dx6, _, rfl, k61, nE _, _, rfl, _, _, _, _, rfl, rfl, SqL.of hD6, at1, _, rfl, _, _, _, _, rfl, rfl, SqL.of hD6, at2, ?_⟩
        refine ⟨p, d, kvs2, kn2, m', vb, vc, kb, kc, r7, rfl, t6, hk6, hvb.tt tt6, hvc.tt tt6, he7, by rw [p12]; omega, fun kn3 kvs3 H7 e3 sm7 t7 hk7 hl7 => ?_, fun H7 e3 sm7 => qe H7 (z7 e3) ((sm.trans sm6).trans sm7)⟩
        rw [p12] at hl7
        have tt7 := t6.tt sm7
        have hD7 := sm7 _ _ hD6 nDp nDd
        exact ⟨_, rfl, _, _, _, _, rfl, rfl, SqL.of hD7, at1, q _ _ _ _ _ _ (z8 _ e3) ((sm.trans sm6).trans sm7) t7 hk7 ((hvb.tt tt6).tt tt7) (by omega)⟩
end
end W63
/-! a walk over a written dict's keys; renumbered; principal -/
namespace W63
open PySem L2 M63
/-- the keys of a written dict -/
def Itw (ks : List Str) : It := ⟨fun i _ => i < ks.length, fun i H x H' => H' = H ∧ ∃ k, ks[i]? = some k ∧ x = .str k, fun i _ => ks.length ≤ i⟩
structure WKeys (K : PySem.W.Frag) (d : Addr) (ks : List Str) : Prop where
  low : (d == sysModules) = false
  ob : ∃ o es ep, K.lookup d = some o ∧ o.ExactDict ∧ o.data = .dict es ep ∧ es.size = ks.length ∧ ∀ (i : Nat) k, ks[i]? = some k → ∃ en t, es[i]? = some en ∧ en.key = .str k t
theorem turn_w {P : Program} {w : World} {K : PySem.W.Frag} {tg : Expr} {d : Addr} {o : Obj} {es : Array DictEntry} {ep : Nat} {ks : List Str} (it : Addr) (hl : K.lookup d = some o) (hdt : o.data = .dict es ep) (hsz : es.size = ks.length)
    (ent : ∀ (i : Nat) k, ks[i]? = some k → ∃ en t, es[i]? = some en ∧ en.key = .str k t) : Turn P w K tg (Itw ks) [it] it (fun i h => h.IsKeyIter it d i ks.length ep) where
  mem := by simp
  obj := fun i h st b hb => by
    have e : b = it := by simpa using hb
    subst e
    obtain ⟨oi, e, c, dd⟩ := st
    exact ⟨oi, e, fun v z => by rw [dd] at z; cases z⟩
  keep := fun i h h' st k => st.at fun oi e => k it (by simp) oi e
  item := by
    intro X hP hw hK hc i pins s σ H E I hf st hg
    subst hP hw hK
    obtain ⟨f0, f1, f2, f3, f4, f5⟩ := hf it (by simp)
    have hi : i < ks.length := hg
    obtain ⟨en, t, hen, hkey⟩ := ent i ks[i] (List.getElem?_eq_getElem hi)
    have hgd := I.kIn _ _ hl
    refine next_key_item st hgd hdt hsz hen fun h' st' sb => ?_
    have I1 : Inv X pins σ H { s with heap := h' } := I.turned (t' := s.toks) (fun b ob hb e => (sb.2 b hb).trans e) f0 f1 f3 f4 f5
    obtain ⟨oi, e, c, dd⟩ := id st'
    exact ⟨en.key, rfl, go_of (s := { s with heap := h' }) e c dd (by decide) ⟨.str ks[i], H, I1, ⟨t, hkey⟩, ⟨rfl, _, List.getElem?_eq_getElem hi, rfl⟩, st', fun b hb => (hf b hb).1⟩⟩
  done := by
    intro X hP hw hK hc i pins s σ H E I hf st hg
    subst hP hw hK
    obtain ⟨f0, f1, f2, f3, f4, f5⟩ := hf it (by simp)
    have hgd := I.kIn _ _ hl
    exact next_key_end (I.ok.hd hc) st hgd hdt hsz hg fun h' eb => ⟨rfl, I.turned (t' := s.toks) (fun b ob hb e => eb b ob hb e) f0 f1 f3 f4 f5⟩
  self := fun A i s Q E st h => by
    refine wpAny_pyIter_slot st.typeIs F.slot_dict_keyiterator_iter (wpAny_call_entry F.slot_dict_keyiterator_iter st.typeIs F.entry_dict_keyiterator_iter ?_ (F.args_dict_keyiterator_iter_1 _))
    show wpAny _ _ (ret (.ref it)) _ _ s
    exact wpAny_pure ⟨_, rfl, "dict_keyiterator", _, st.typeIs, F.slot_dict_keyiterator_next.lookup, h⟩
theorem pi_w {X : Cx} {tg e : Expr} {d : Addr} {ks : List Str} (W : WKeys X.K d ks) (he : PE X e (tC (.ref d))) : PI X tg e (fun σ H R => R (Itw ks) H) := by
  obtain ⟨low, o, es, ep, hl, hx, hdt, hsz, ent⟩ := W
  refine ⟨fun pins s σ H R I h => ?_⟩
  refine thn (he.run pins s σ H (fun v H1 => v = .ref d ∧ R (Itw ks) H1) I ⟨rfl, h⟩) fun u s1 ⟨x, H1, I1, rx, ex, q⟩ => ?_
  subst ex
  obtain rfl : u = Value.ref d := rx
  refine iter_keys low (I1.kIn _ _ hl) hx hdt (pi_one (tk := s1.toks) I1 _ (turn_w _ hl hdt hsz ent) ⟨_, Heap.get?_push_size _ rfl, rfl, ?_⟩ q)
  rw [hsz] <;> rfl
theorem dc_w {ks : List Str} {g : TG} {tt : L2.TT} {tk tv : TE} {vs : List Nat} {σ : L2.St} {H1 : Hp} {D : Addr} {Qd : Hp → Prop} (Pv : Nat → Hp → Prop) (h0 : Pv 0 (upd H1 D (.dK [])))
    (hs : ∀ (i : Nat) k H, ks[i]? = some k → Pv i H → g (.str k) (wipe σ vs) H fun σ2 H2 => wipe σ2 vs = wipe σ vs ∧ tt σ2 H2 fun b H3 =>
      if b = true then tk σ2 H3 fun y H4 => tv σ2 H4 fun z H5 => ∃ kvs k, y = kV k ∧ H5 D = some (.dK kvs) ∧ kvs.length < sizeLine ∧ Pv (i + 1) (upd H5 D (.dK (putK kvs k z))) else Pv (i + 1) H3) (hd : ∀ H, Pv ks.length H → Qd H) :
    ∃ W : Nat → Nat → Hp → Prop, (∃ m, W 0 m (upd H1 D (.dK []))) ∧ ∀ i m H, W i m H →
      ((Itw ks).stop i H ∧ Qd H) ∨ ((Itw ks).go i H ∧ ∃ Nx : Hp → Prop, (∀ H', Nx H' → ∃ m', m' < m ∧ W (i + 1) m' H') ∧ ∀ x H', (Itw ks).yld i H x H' → g x (wipe σ vs) H' fun σ2 H2 => wipe σ2 vs = wipe σ vs ∧ tt σ2 H2 fun b H3 =>
        if b = true then tk σ2 H3 fun y H4 => tv σ2 H4 fun z H5 => ∃ kvs k, y = kV k ∧ H5 D = some (.dK kvs) ∧ kvs.length < sizeLine ∧ Nx (upd H5 D (.dK (putK kvs k z))) else Nx H3) := by
  refine ⟨fun i m H => m = ks.length - i ∧ i ≤ ks.length ∧ Pv i H, ⟨ks.length, by simp, Nat.zero_le _, h0⟩, ?_⟩
  rintro i m H ⟨rfl, hi, p⟩
  by_cases hlt : i < ks.length
  · refine .inr ⟨hlt, Pv (i + 1), fun H' p' => ⟨ks.length - (i + 1), by omega, rfl, hlt, p'⟩, fun x H' y => ?_⟩
    obtain ⟨rfl, k, y, rfl⟩ := y
    exact hs i k _ y p
  · have e : i = ks.length := by omega
    subst e
    exact .inl ⟨Nat.le_refl _, hd H p⟩
section
variable {X : Cx}
/-- name = {k: v for ..} on one line, the name a local -/
theorem ps_setDc {i : Nat} {y : Str} {py : Pos} {kx vx tg iter : Expr} {ifs : List Expr} {scope : Scope} {own : List (Str × Nat)} {pos spos : Pos} {wi : TI} {g : TG} {tt : L2.TT} {tk tv : TE} (hc : X.calm = true) (hN : X.N.Nodup) (hy : X.N[i]? = some y) (hyl : X.env.scope.names.lookup y = some .local)
    (hsw : swapsWith (.DictComp kx vx [⟨tg, iter, ifs, 0⟩] scope pos) (some (.Name y py)) spos.line X.env = pure true) (hi : PI X tg iter wi) (ok : BlkOk X.N X.env.scope scope own)
    (hg : ∀ (s : Shared) (H : Hp) (C : Addr) (cl : List (Str × Addr)) (fp : List Addr), PG (X.blk s H scope (compEnvC scope cl C X.env) fp) tg g) (ht : ∀ (s : Shared) (H : Hp) (C : Addr) (cl : List (Str × Addr)) (fp : List Addr), PTs (X.blk s H scope (compEnvC scope cl C X.env) fp) ifs tt)
    (hk : ∀ (s : Shared) (H : Hp) (C : Addr) (cl : List (Str × Addr)) (fp : List Addr), PE (X.blk s H scope (compEnvC scope cl C X.env) fp) kx tk)
    (he : ∀ (s : Shared) (H : Hp) (C : Addr) (cl : List (Str × Addr)) (fp : List Addr), PE (X.blk s H scope (compEnvC scope cl C X.env) fp) vx tv) (hs : ∀ x, foldedSetIterable iter X.env x = pure x := by intro _; rfl) :
    PS X (.Assign [.Name y py] (.DictComp kx vx [⟨tg, iter, ifs, 0⟩] scope pos) spos) (tAsg (tDc wi g tt tk tv (own.map (·.2))) (gName i)) := by
  refine ⟨fun pins s σ H D I h => ?_⟩
  rw [exec_Assign_Name_used _ _ _ _ hsw]
  refine wpAny_bind (wpAny_standAt (wpAny_bind ?_))
  have h : tDc wi g tt tk tv (own.map (·.2)) σ H (fun x H1 => gName i x σ H1 D.nx) := h
  refine wpAny_bind (thn (dc_core (use := some (assign (.Name y py) X.env)) (Qf := fun _ s' => SP X pins D .next s') hc hN I hi ok hg ht hk he hs h fun L C s' m H' I' q hn f => ?_) fun _ s' hq => wpAny_pure (wpAny_pure hq))
  show wpAny _ _ (assign (.Name y py) X.env (.ref L)) _ _ _
  refine wpAny_assign_Name (store_ok2 (v := V.ref L) I' hN hy (.inl hyl) rfl (fun s2 I2 ⟨a, sb, ha⟩ => ?_) (.inr hyl))
  obtain ⟨f0, f1, f2, f3, f4, f5⟩ := f
  have haC : C ≠ a := by
    rcases ha with z | z
    · rw [z]; exact f1
    · exact fun e => f4 y a z e.symm
  refine ⟨m, hn.sameBut sb haC, fun h3 sb3 => ?_⟩
  exact ⟨_, H', I2.turned (t' := s2.toks) (fun b o hb e => (sb3.2 b hb).trans e) f0 f1 f3 f4 f5, q⟩
theorem sw_trueD {kx vx : Expr} {gs : List Comprehension} {scope : Scope} {pos py : Pos} {y : Str} {l : Nat} {env : Env} (hk : env.scope.kind = .function) (hy : env.scope.names.lookup y = some .local) (hl : (py.line == pos.line) = true)
    (ha : (scope.names.any fun (n, k) => n == y && (k == .local || k == .cell)) = false) : swapsWith (.DictComp kx vx gs scope pos) (some (.Name y py)) l env = pure true := by
  have ky : env.kindOf y = some .local := hy
  have hb : env.blockKind = .function := by unfold Env.blockKind; rw [hk]; rfl
  unfold swapsWith
  simp only [hb, ky, ha, Expr.pos, hl]
  rfl
end
end W63
/-! renumbered, principal -/
namespace W63
open PySem L2 M63
abbrev sRen : Stmt := top 12
abbrev sPrin : Stmt := top 13
def spRen (K : PySem.W.Frag) : Sp := fun vs H Q _ => ∃ v k r, vs = [v] ∧ Td K H v k ∧ renum k = some r ∧ ∀ v' H', Same H H' → Td K H' v' r → Q v' H'
def spPrin (K : PySem.W.Frag) (XN : Addr) : Sp := fun vs H Q E => ∃ v k r, vs = [v] ∧ Td K H v k ∧ prin k = some r ∧ sz k ≤ 1900 ∧
  (∀ v' H' k', r = some k' → Same H H' → Td K H' v' k' → Q v' H') ∧ (∀ H', r = none → Same H H' → E (.ref XN) none H')
theorem renum_cases {k r : D} (h : renum k = some r) : ∃ vs, vars R k = some vs ∧ put R (fresh 0 vs []) k = some r := by
  unfold renum at h
  split at h
  · cases h
  · exact ⟨_, by assumption, h⟩
section
variable {P : Program} {w : World} {K : PySem.W.Frag} {mg : Str → Option Value} {base : Heap} {C XN : Addr} {f fI fP fV : Addr} {fd fdI fdP fdV : FuncData}
theorem scQ : FnScope ["kind", "numbers", "index", "number"] ["kind"] (defScope sRen) := ⟨rfl, rfl, rfl, by decide +kernel, rfl, by decide +kernel, by decide +kernel⟩
theorem ok_ren (F : Fun K "renumbered" "renumbered" sRen f fd) (T : Txt K mg C) (henum : mg "enumerate" = none) (mC : mg "Typer" = some (.ref C)) (MK : Mk K C fI) (GI : FnOk P w K mg base CX0 1 fI fdI ["self"] (spInit K C)) (bI : Binds K fdI ["self"] [])
    (MP : Mt P w K mg base CX0 C 100 "put_in" ["self", "kind", "names"] (spPut K C 100) fP fdP)
    (mV : mg "variables_of" = some (.ref fV)) (kV : PySem.W.keepIn K (.ref fV) = true) (bV : Binds K fdV ["kind"] []) (GV : FnOk P w K mg base CX0 100 fV fdV ["kind"] (spVars K 100)) :
    FnOk P w K mg base CX0 101 f fd ["kind"] (spRen K) := by
  refine F.ok scQ (fun vs H Q E h => ?_) (fun cdv A outer s H vs Q E hr h => ?_)
  · obtain ⟨_, _, _, rfl, _⟩ := h
    rfl
  obtain ⟨v, k, r, rfl, hv, e, q⟩ := h
  have hr2 := hr.mono (show 2 ≤ 100 by omega)
  refine ⟨_, pss_cons (ps_setDc (i := 1) (own := [("index", 2), ("number", 3)]) (g := gTup K 2 (gCons (gName 2) (gCons (gName 3) gNil))) (tt := tYes) rfl scQ.nd rfl rfl (sw_trueD rfl rfl rfl (by decide +kernel)) (pi_enum (by rfl) henum (pa_cons (pe_call GV hr rfl mV kV bV .nil pass0 (pa_cons (pv 0) pa_nil)) pa_nil))
      (blkOk_by (N := ["kind", "numbers", "index", "number"]) (sc := defScope sRen) (by decide +kernel)) (fun _ _ _ _ _ => pg_tup rfl (pgs_cons (pg_name (i := 2) scQ.nd rfl (Or.inl rfl)) (pgs_cons (pg_name (i := 3) scQ.nd rfl (Or.inl rfl)) pgs_nil))) (fun _ _ _ _ _ => pts_nil)
      (fun _ _ _ _ _ => pv 3) (fun _ _ _ _ _ => pe_tup (pa_cons pe_str (pa_cons (pv 2) pa_nil))))
    (pss_one (ps_ret (pe_meth (pe_make0 MK GI hr2 rfl mC bI .nil pass0) T.cl MP.m MP.ok hr MP.b .nil pass0 (pa_cons (pv 0) (pa_cons (pv 1) pa_nil)) (ht := mcall_of (abase_call (by decide +kernel)) fun ov => rfl)))), ?_⟩
  obtain ⟨vs, e1, e2⟩ := renum_cases e
  have hvl := vars_len e1
  refine ⟨_, rfl, v, k, vs, rfl, hv, e1, fun l H1 s1 hl0 hl => ?_⟩
  refine ⟨l, _, rfl, SqL.of hl, fun D hD => ?_⟩
  refine dc_enum (xs := vs.map V.int) (fun j H' => Same H1 H' ∧ ∃ es, H' D = some (.dK es) ∧ KnR K H' es (fresh 0 (vs.take j) []) ∧ es.length ≤ j) ⟨same_new hD _, [], upd_same, trivial, Nat.le_refl _⟩ (fun j H' _ z => SqL.of (z.1 _ _ hl)) (fun j x T' H' hj z hT => ?_) fun H' z => ?_
  · obtain ⟨s2, es, g1, g2, g3⟩ := z
    rw [List.getElem?_map] at hj
    cases en : vs[j]? with
    | none => rw [en] at hj; cases hj
    | some i =>
    rw [en] at hj
    cases hj
    have lj : j < vs.length := by
      by_cases h : j < vs.length
      · exact h
      · rw [List.getElem?_eq_none (by omega)] at en; cases en
    have tk : vs.take (j + 1) = vs.take j ++ [i] := by rw [List.take_succ, en]; rfl
    have s3 := same_new hT (.tup [V.int (j : Nat), V.int i])
    refine ⟨T', _, rfl, .inl (.inl upd_same), rfl, _, _, rfl, _, _, rfl, rfl, rfl, ?_⟩
    dsimp only [tYes]
    refine iteT ⟨_, rfl, _, rfl, (by show 2 ≤ sizeLine; decide), fun T2 hT2 => ?_⟩
    have s4 := s3.trans (same_new hT2 (.tup [V.str "var", V.int (j : Nat)]))
    have g4 := s4 _ _ g1
    have tt4 := TT.same s4
    have v4 : Td K (upd (upd H' T' (.tup [V.int (j : Nat), V.int i])) T2 (.tup [V.str "var", V.int (j : Nat)])) (.ref T2) (kv (j : Nat)) := Td.new hT2 (.cons (.str _) (.cons (.int _) .nil))
    generalize upd (upd H' T' (.tup [V.int (j : Nat), V.int i])) T2 (.tup [V.str "var", V.int (j : Nat)]) = H4 at s4 g4 tt4 v4
    have tu : TT H4 (upd H4 D (.dK (putK es (Sum.inl i) (.ref T2)))) := TT.upd g4 fun _ z => by cases z
    refine ⟨es, Sum.inl i, rfl, g4, (by show es.length < (16777216 : Nat); omega), same_to (s2.trans s4) hD, _, upd_same, ?_, ?_⟩
    · rw [tk, fresh_snoc, List.length_take, Nat.min_eq_left (by omega)]
      have e0 : (0 : Int) + (j : Nat) = (j : Nat) := by omega
      rw [e0]
      exact TabR.put (e := (Sum.inl : Int → Key)) inj_l (v4.tt tu) ((g2.tt tt4).tt tu)
    · have := length_putK es (Sum.inl i) (V.ref T2)
      omega
  · obtain ⟨s2, es, g1, g2, g3⟩ := z
    rw [List.length_map, List.take_length] at g2
    have s3 := s1.trans s2
    intro x dx nx ndx nex
    refine ⟨x, dx, rfl, upd_same, fun d H3 hd hsk t => ⟨rfl, ?_⟩⟩
    obtain ⟨⟨dx', k1⟩, k2⟩ := id t
    have s4 : Same H' H3 := fun b o hb => hsk b o (by rw [upd_ne (ne_of_none hb nx), upd_ne (ne_of_none hb ndx)]; exact hb) (ne_of_none hb nx)
    refine ⟨x, dx', _, rfl, k1, flds_no _ _ (by decide +kernel) (by decide +kernel), _, rfl, _, rfl, ?_⟩
    exact ⟨x, dx', _, D, es, _, v, k, r, rfl, k1, flds_no _ _ (by decide +kernel) (by decide +kernel), s4 _ _ g1, g2.tt (TT.same s4), hv.tt (TT.same (s3.trans s4)), e2, fun v' H5 s5 hv' => q v' H5 ((s3.trans s4).trans s5) hv'⟩
end
end W63
/-! principal -/
namespace W63
open PySem L2 M63
abbrev nms : List Str := ["add", "less", "not", "fst", "snd"]
structure WrB (K : PySem.W.Frag) (w : World) (mg : Str → Option Value) (dB : Addr) : Prop where
  blt : mg "BUILTIN" = some (.ref dB)
  keys : WKeys K dB nms
  get : ∀ (i : Nat) x s, scope0[i]? = some (x, s) → ∃ a ns k, KDct K w dB x (.ref a) ∧ s = scheme ns k ∧ (∀ H, Td K H (.ref a) k) ∧ vars R k = some ns
theorem prin_cases {k : D} {r : Option D} (h : prin k = some r) : ∃ r1, inf N k scope0 60 [] 2 = some r1 ∧ (r1 = none → r = none) ∧ ∀ k1 kn m', r1 = some (k1, kn, m') → ∃ k2 k3, res R kn k1 = some k2 ∧ renum k2 = some k3 ∧ r = some k3 := by
  unfold prin at h
  split at h
  · cases h
  · cases h
    exact ⟨none, by assumption, fun _ => rfl, (by intro _ _ _ z; cases z)⟩
  · split at h
    · cases h
    · rw [Option.map_eq_some_iff] at h
      obtain ⟨k3, h1, rfl⟩ := h
      refine ⟨some (_, _, _), by assumption, (by intro z; cases z), ?_⟩
      intro _ _ _ z
      cases z
      exact ⟨_, k3, by assumption, h1, rfl⟩
theorem pk_snoc {sc : Sc} {x : Str} {s : D} (n : Nd (sc ++ [(x, s)])) : pk sc x s = sc ++ [(x, s)] := by
  unfold pk
  rw [if_neg fun z => ?_]
  obtain ⟨q, q1, q2⟩ := List.any_eq_true.mp z
  have q2 := of_decide_eq_true q2
  have n' : ((sc ++ [(x, s)]).map (·.1)).Nodup := n
  rw [List.map_append, List.nodup_append] at n'
  exact n'.2.2 q.1 (List.mem_map.mpr ⟨q, q1, rfl⟩) x (by simp) q2
theorem nd0 : Nd scope0 := by
  show (["add", "less", "not", "fst", "snd"] : List Str).Nodup
  decide +kernel
theorem ScR.updD {K : PySem.W.Frag} {H : Hp} {D : Addr} {es : List (Key × V)} {o : HO} {kvs : List (Key × V)} {sc : Sc} (h : ScR K H kvs sc) (hD : H D = some (.dK es)) : ScR K (upd H D o) kvs sc :=
  TabR.imp (fun _ _ x => x.mono (TT.upd hD fun _ z => by cases z) fun b xs q => by
    rw [upd_ne fun z => ?_]
    · exact q
    · rw [z, hD] at q
      cases q) h
section
variable {P : Program} {w : World} {K : PySem.W.Frag} {mg : Str → Option Value} {base : Heap} {C XN dB : Addr} {f fI fR fN fV fQ : Addr} {fd fdI fdR fdN fdV fdQ : FuncData} {tD : Nat}
theorem scP2 : FnScope ["program", "typer", "scope", "name"] ["program"] (defScope sPrin) := ⟨rfl, rfl, rfl, by decide +kernel, rfl, by decide +kernel, by decide +kernel⟩
theorem ok_prin (F : Fun K "principal" "principal" sPrin f fd) (T : Txt K mg C) (W : WrB K w mg dB) (hdep : mg "MOST_DEPTH" = some (.int 60 tD)) (mC : mg "Typer" = some (.ref C)) (MK : Mk K C fI) (GI : FnOk P w K mg base CX0 1 fI fdI ["self"] (spInit K C)) (bI : Binds K fdI ["self"] [])
    (MR : Mt P w K mg base CX0 C 100 "resolved" ["self", "kind"] (spRes K C 100) fR fdR) (MN : Mt P w K mg base (L2.CX P w) C 152 "infer" ["self", "program", "scope", "left"] (spInf K C XN 40) fN fdN)
    (mV : mg "variables_of" = some (.ref fV)) (kV : PySem.W.keepIn K (.ref fV) = true) (bV : Binds K fdV ["kind"] []) (GV : FnOk P w K mg base CX0 100 fV fdV ["kind"] (spVars K 100))
    (mQ : mg "renumbered" = some (.ref fQ)) (kQ : PySem.W.keepIn K (.ref fQ) = true) (bQ : Binds K fdQ ["kind"] []) (GQ : FnOk P w K mg base CX0 101 fQ fdQ ["kind"] (spRen K)) :
    FnOk P w K mg base (L2.CX P w) 153 f fd ["program"] (spPrin K XN) := by
  refine F.okX scP2 (fun vs H Q E h => ?_) (fun cdv A outer s H vs Q E hr h => ?_)
  · obtain ⟨_, _, _, rfl, _⟩ := h
    rfl
  obtain ⟨v, k, r, rfl, hv, e, hz, q, qe⟩ := h
  have hr2 := hr.mono (show 2 ≤ 152 by omega)
  have hr100 := hr.mono (show 100 ≤ 152 by omega)
  have hr101 := hr.mono (show 101 ≤ 152 by omega)
  refine ⟨_, pss_cons (ps_set (i := 1) scP2.nd rfl (Or.inl rfl) (pe_make0 MK GI hr2 rfl mC bI .nil pass0))
    (pss_cons (ps_setDc (i := 2) (own := [("name", 3)]) (g := gName 3) (tt := tYes) rfl scP2.nd rfl rfl (sw_trueD rfl rfl rfl (by decide +kernel)) (pi_w W.keys (pe_glob (v := V.ref dB) rfl W.blt rfl))
      (blkOk_by (N := ["program", "typer", "scope", "name"]) (sc := defScope sPrin) (by decide +kernel)) (fun _ _ _ _ _ => pg_name (i := 3) scP2.nd rfl (Or.inl rfl)) (fun _ _ _ _ _ => pts_nil) (fun _ _ _ _ _ => pv 3)
      (fun _ _ _ _ _ => pe_tup (pa_cons (pe_call GV hr100 rfl mV kV bV .nil pass0 (pa_cons (pe_ix (r := rIxD K w) ix_kdict (pe_glob (v := V.ref dB) rfl W.blt rfl) (pv 3) (fun _ _ => rfl)) pa_nil)) (pa_cons (pe_ix (r := rIxD K w) ix_kdict (pe_glob (v := V.ref dB) rfl W.blt rfl) (pv 3) (fun _ _ => rfl)) pa_nil))))
    (pss_one (ps_ret (pe_call GQ hr101 rfl mQ kQ bQ .nil pass0 (pa_cons (pe_meth (pv 1) T.cl MR.m MR.ok hr100 MR.b .nil pass0
      (pa_cons (pe_meth (pv 1) T.cl MN.m MN.ok hr MN.b .nil (passes_call (takes_of rfl rfl rfl rfl) fun _ _ _ _ h => h) (pa_cons (pv 0) (pa_cons (pv 2) (pa_cons (pe_glob (v := V.int 60) rfl hdep ⟨_, rfl⟩) pa_nil)))) pa_nil)) pa_nil))))), ?_⟩
  obtain ⟨r1, e1, z1, z2⟩ := prin_cases e
  intro x dx nx ndx nex
  refine ⟨x, dx, rfl, upd_same, fun d H1 hd hsk t => ⟨rfl, ?_⟩⟩
  obtain ⟨⟨dx', k1⟩, k2⟩ := id t
  have s1 : Same H H1 := fun b o hb => hsk b o (by rw [upd_ne (ne_of_none hb nx), upd_ne (ne_of_none hb ndx)]; exact hb) (ne_of_none hb nx)
  have nd' : H d = none := by
    cases e' : H d with
    | none => rfl
    | some o =>
      rw [upd_ne (ne_of_none e' nx), upd_ne (ne_of_none e' ndx), e'] at hd
      cases hd
  have toS : ∀ {H'}, Sm x d H1 H' → Same H H' := fun sm b o hb => sm _ _ (s1 _ _ hb) (ne_of_none hb nx) (ne_of_none hb nd')
  intro D hD
  refine dc_w (ks := nms) (fun j H' => Same H1 H' ∧ ∃ es, H' D = some (.dK es) ∧ ScR K H' es (scope0.take j) ∧ es.length ≤ j) ⟨same_new hD _, [], upd_same, trivial, Nat.le_refl _⟩ (fun j kx H' hj z => ?_) fun H' z => ?_
  · obtain ⟨s2, es, g1, g2, g3⟩ := z
    have hj5 : j < 5 := by
      by_cases h : j < 5
      · exact h
      · rw [List.getElem?_eq_none (by show 5 ≤ j; omega)] at hj; cases hj
    obtain ⟨s0, hs0⟩ : ∃ s0, scope0[j]? = some (kx, s0) := by
      have : nms = scope0.map (·.1) := rfl
      rw [this, List.getElem?_map] at hj
      cases e' : scope0[j]? with
      | none => rw [e'] at hj; cases hj
      | some q' =>
        rw [e'] at hj
        cases hj
        exact ⟨q'.2, rfl⟩
    obtain ⟨a, ns, ko, b1, rfl, b3, b4⟩ := W.get j kx s0 hs0
    refine ⟨rfl, ?_⟩
    dsimp only [tYes]
    refine iteT ⟨_, rfl, _, rfl, dB, kx, .ref a, rfl, rfl, b1, .ref a, ko, ns, rfl, b3 _, b4, fun l H2 s3 hl0 hl => ⟨_, rfl, dB, kx, .ref a, rfl, rfl, b1, (by show 2 ≤ sizeLine; decide), fun T' hT => ?_⟩⟩
    have s4 := s3.trans (same_new hT (.tup [V.ref l, V.ref a]))
    have hl4 := (same_new hT (.tup [V.ref l, V.ref a])) _ _ hl
    have hT4 := upd_same (H := H2) (a := T') (o := .tup [V.ref l, V.ref a])
    generalize upd H2 T' (.tup [V.ref l, V.ref a]) = H4 at s4 hl4 hT4
    have g4 := s4 _ _ g1
    have sch : SchR K H4 (.ref T') (scheme ns ko) := ⟨T', l, .ref a, ns, ko, rfl, rfl, .inl hT4, hl4, vars_len b4, b3 _⟩
    refine ⟨es, Sum.inr kx, rfl, g4, (by show es.length < (16777216 : Nat); omega), same_to (s2.trans s4) hD, _, upd_same, ?_, ?_⟩
    · have tk : scope0.take (j + 1) = scope0.take j ++ [(kx, scheme ns ko)] := by rw [List.take_succ, hs0]; rfl
      have ndj : Nd (scope0.take j ++ [(kx, scheme ns ko)]) := by
        rw [← tk]
        unfold Nd
        rw [List.map_take]
        exact List.Nodup.sublist (List.take_sublist _ _) nd0
      rw [tk, ← pk_snoc ndj]
      refine ScR.updD ?_ g4
      exact TabR.put (e := (Sum.inr : Str → Key)) inj_r sch (g2.same s4)
    · have := length_putK es (Sum.inr kx) (V.ref T')
      omega
  · obtain ⟨s2, es, g1, g2, g3⟩ := z
    have g2 : ScR K H' es scope0 := g2
    have s3 := s1.trans s2
    have t' := t.same s2
    have nDd : D ≠ d := fun z => by rw [z, k2] at hD; cases hD
    refine ⟨_, rfl, x, dx', _, rfl, s2 _ _ k1, flds_no _ _ (by decide +kernel) (by decide +kernel), _, rfl, x, dx', _, rfl, s2 _ _ k1, flds_no _ _ (by decide +kernel) (by decide +kernel), _, rfl, _, rfl, ?_⟩
    refine ⟨x, d, [], [], 2, v, D, es, scope0, 60, k, r1, rfl, t', trivial, hv.tt (TT.same s3), g1, g2, nDd, by show 5 + 40 ≤ 1000; decide, nd0, e1, ?_, fun ki kn m' vi kvs H5 e5 sm5 t5 hk5 hv5 _ => ?_, fun H5 e5 sm5 => qe H5 (z1 e5) (toS ((Sm.same s2).trans sm5))⟩
    · show 0 + 8192 * sz k ≤ 16000000
      omega
    · obtain ⟨k3, k4, e6, e7, rfl⟩ := z2 _ _ _ e5
      obtain ⟨⟨dx5, k51⟩, k52⟩ := id t5
      refine ⟨x, d, kvs, kn, m', vi, ki, k3, rfl, t5, hk5, hv5, e6, fun v6 H6 s6 hv6 => ?_⟩
      exact ⟨v6, k3, k4, rfl, hv6, e7, fun v7 H7 s7 hv7 => q v7 H7 k4 rfl ((toS ((Sm.same s2).trans sm5)).trans (s6.trans s7)) hv7⟩
end
end W63
/-! the tape -/
namespace W63
open PySem L2 M63
abbrev sTape : Stmt := top 15
abbrev sTake : Stmt := top 16
abbrev kC : Key := Sum.inr "cells"
abbrev kA : Key := Sum.inr "at"
abbrev kL : Key := Sum.inr "left"
abbrev kS : Key := Sum.inr "seed"
abbrev kT : Key := Sum.inr "salt"
theorem ne_keys : kC ≠ kA ∧ kC ≠ kL ∧ kC ≠ kS ∧ kC ≠ kT ∧ kA ≠ kL ∧ kA ≠ kS ∧ kA ≠ kT ∧ kL ≠ kS ∧ kL ≠ kT ∧ kS ≠ kT := by
  refine ⟨?_, ?_, ?_, ?_, ?_, ?_, ?_, ?_, ?_, ?_⟩ <;> exact fun z => absurd (Sum.inr.inj z) (by decide +kernel)
/-- a tape's dict, n the calls at most so far -/
structure TapeK (H : Hp) (kvs : List (Key × V)) (n : Nat) : Prop where
  cells : ∃ (cl : Addr) (ns : List Int), valV kvs kC = some (.ref cl) ∧ H cl = some (.lst (ns.map V.int)) ∧ ns.length ≤ 63
  at_ : ∃ i : Nat, valV kvs kA = some (.int (i : Nat))
  left : ∃ i : Int, valV kvs kL = some (.int i)
  seed : ∃ i : Int, valV kvs kS = some (.int i) ∧ 0 ≤ i ∧ i < 2147483647
  salt : ∃ i : Int, valV kvs kT = some (.int i) ∧ 0 ≤ i ∧ i ≤ n
  few : kvs.length ≤ 5
theorem putK_len {kvs : List (Key × V)} {k : Key} {u v : V} (h : valV kvs k = some u) : (putK kvs k v).length = kvs.length := by
  unfold putK
  rw [valV_any, h]
  simp
/-- the tape at t; all else stays -/
def Tape (H : Hp) (t : Addr) (n : Nat) : Prop := ∃ kvs, H t = some (.dK kvs) ∧ TapeK H kvs n
theorem TapeK.same {H H' : Hp} {kvs : List (Key × V)} {n : Nat} (h : TapeK H kvs n) (e : Same H H') : TapeK H' kvs n :=
  ⟨let ⟨cl, ns, a, b, c⟩ := h.cells; ⟨cl, ns, a, e _ _ b, c⟩, h.at_, h.left, h.seed, h.salt, h.few⟩
theorem Tape.same {H H' : Hp} {t : Addr} {n : Nat} (h : Tape H t n) (e : Same H H') : Tape H' t n := let ⟨kvs, a, b⟩ := h; ⟨kvs, e _ _ a, b.same e⟩
theorem TapeK.upd {H : Hp} {t : Addr} {kvs k2 : List (Key × V)} {o : HO} {n : Nat} (h : TapeK H kvs n) (ht : H t = some (.dK k2)) : TapeK (upd H t o) kvs n :=
  ⟨let ⟨cl, ns, a, b, c⟩ := h.cells; ⟨cl, ns, a, by rw [upd_ne fun z => by rw [z, ht] at b; cases b]; exact b, c⟩, h.at_, h.left, h.seed, h.salt, h.few⟩
theorem TapeK.putL {H : Hp} {kvs : List (Key × V)} {n : Nat} (h : TapeK H kvs n) (i : Int) : TapeK H (putK kvs kL (.int i)) n := by
  obtain ⟨n1, n2, n3, n4, n5, n6, n7, n8, n9, n10⟩ := ne_keys
  obtain ⟨u, hu⟩ := h.left
  refine ⟨?_, ?_, ⟨i, by rw [valV_put, if_pos rfl]⟩, ?_, ?_, by rw [putK_len hu]; exact h.few⟩
  · rw [valV_put, if_neg n2]; exact h.cells
  · rw [valV_put, if_neg n5]; exact h.at_
  · rw [valV_put, if_neg (Ne.symm n8)]; exact h.seed
  · rw [valV_put, if_neg (Ne.symm n9)]; exact h.salt
theorem TapeK.putA {H : Hp} {kvs : List (Key × V)} {n : Nat} (h : TapeK H kvs n) (i : Nat) : TapeK H (putK kvs kA (.int (i : Nat))) n := by
  obtain ⟨n1, n2, n3, n4, n5, n6, n7, n8, n9, n10⟩ := ne_keys
  obtain ⟨u, hu⟩ := h.at_
  refine ⟨?_, ⟨i, by rw [valV_put, if_pos rfl]⟩, ?_, ?_, ?_, by rw [putK_len hu]; exact h.few⟩
  · rw [valV_put, if_neg n1]; exact h.cells
  · rw [valV_put, if_neg (Ne.symm n5)]; exact h.left
  · rw [valV_put, if_neg (Ne.symm n6)]; exact h.seed
  · rw [valV_put, if_neg (Ne.symm n7)]; exact h.salt
theorem TapeK.putT {H : Hp} {kvs : List (Key × V)} {n m : Nat} (h : TapeK H kvs n) (i : Int) (h0 : 0 ≤ i) (h1 : i ≤ m) : TapeK H (putK kvs kT (.int i)) m := by
  obtain ⟨n1, n2, n3, n4, n5, n6, n7, n8, n9, n10⟩ := ne_keys
  obtain ⟨u, hu, _⟩ := h.salt
  refine ⟨?_, ?_, ?_, ?_, ⟨i, by rw [valV_put, if_pos rfl], h0, h1⟩, by rw [putK_len hu]; exact h.few⟩
  · rw [valV_put, if_neg n4]; exact h.cells
  · rw [valV_put, if_neg n7]; exact h.at_
  · rw [valV_put, if_neg n9]; exact h.left
  · rw [valV_put, if_neg n10]; exact h.seed
theorem TapeK.more {H : Hp} {kvs : List (Key × V)} {n m : Nat} (h : TapeK H kvs n) (hm : n ≤ m) : TapeK H kvs m :=
  ⟨h.cells, h.at_, h.left, h.seed, let ⟨i, a, b, c⟩ := h.salt; ⟨i, a, b, by omega⟩, h.few⟩
def spTape (K : PySem.W.Frag) : Sp := fun vs H Q _ => ∃ (a : Addr) (ns : List Int), vs = [.ref a] ∧ SqL K H a (ns.map V.int) ∧ ns.length ≤ 63 ∧ ∀ t H', Same H H' → Tape H' t 0 → Q (.ref t) H'
def spTake : Sp := fun vs H Q _ => ∃ (t : Addr) (many : Int) (n : Nat), vs = [.ref t, .int many] ∧ 1 ≤ many ∧ many ≤ 1000 ∧ Tape H t n ∧ n ≤ 1000 ∧ ∀ r H', 0 ≤ r → r < many → Sk t H H' → Tape H' t (n + 1) → Q (.int r) H'
structure TxtL (mg : Str → Option Value) : Prop where
  abs : mg "abs" = none
  int : mg "int" = none
  len : mg "len" = none
  range : mg "range" = none
section
variable {P : Program} {w : World} {K : PySem.W.Frag} {mg : Str → Option Value} {base : Heap} {f : Addr} {fd : FuncData}
theorem scT : FnScope ["script", "cells", "seed", "cell"] ["script"] (defScope sTape) := ⟨rfl, rfl, rfl, by decide +kernel, rfl, by decide +kernel, by decide +kernel⟩
theorem ok_tape (F : Fun K "_law_tape" "_law_tape" sTape f fd) (T : TxtL mg) : FnOk P w K mg base CX0 1 f fd ["script"] (spTape K) := by
  refine F.ok scT (fun vs H Q E h => ?_) (fun cdv A outer s H vs Q E hr h => ?_)
  · obtain ⟨_, _, rfl, _⟩ := h
    rfl
  obtain ⟨a, ns, rfl, hs, hl, q⟩ := h
  refine ⟨_, pss_cons (ps_setLc (i := 1) (own := [("cell", 3)]) (g := gName 3) (tt := tYes) rfl scT.nd rfl rfl (sw_true rfl rfl rfl (by decide +kernel)) (pi_list (pv 0)) (blkOk_by (N := ["script", "cells", "seed", "cell"]) (sc := defScope sTape) (by decide +kernel))
      (fun _ _ _ _ _ => pg_name (i := 3) scT.nd rfl (Or.inl rfl)) (fun _ _ _ _ _ => pts_nil) (fun _ _ _ _ _ => pe_callB call_abs (by rfl) T.abs (by decide +kernel) (pa_cons (pe_callTy call_int1 (by rfl) T.int (by decide +kernel) (pa_cons (pv 3) pa_nil)) pa_nil)))
    (pss_cons (ps_set (i := 2) scT.nd rfl (Or.inl rfl) pe_int)
    (pss_cons (ps_for PassesOwn.never rfl (pi_list (pv 1)) (pg_name (i := 3) scT.nd rfl (Or.inl rfl))
      (pss_one (ps_set (i := 2) scT.nd rfl (Or.inl rfl) (pe_op op_mod (pe_callTy call_int1 (by rfl) T.int (by decide +kernel) (pa_cons (pe_op op_add (pe_op op_mul (pv 2) pe_int) (pv 3)) pa_nil)) pe_int))))
    (pss_one (ps_ret (pe_disp (pps_cons pe_str (pv 1) (pps_cons pe_str pe_int (pps_cons pe_str pe_int (pps_cons pe_str (pv 2) (pps_cons pe_str pe_int pps_nil))))) (by rfl) (by rfl) (fun z => by cases z) (by decide)))))), ?_⟩
  refine ⟨_, rfl, a, rfl, ⟨_, hs⟩, fun D hD => ?_⟩
  refine lc_list (xs := ns.map V.int) (fun j H' => Same H H' ∧ ∃ ys : List Int, H' D = some (.lst (ys.map V.int)) ∧ ys.length = j) ⟨same_new hD _, [], upd_same, rfl⟩ (fun j H' _ z => ?_) (fun j x H' hj z => ?_) fun H' z => ?_
  · exact hs.imp (fun hh => hh.imp (fun e => z.1 _ _ e) fun ⟨o, e⟩ => ⟨o, z.1 _ _ e⟩) id
  · obtain ⟨s1, ys, h1, h2⟩ := z
    rw [List.getElem?_map] at hj
    cases en : ns[j]? with
    | none => rw [en] at hj; cases hj
    | some i =>
    rw [en] at hj
    cases hj
    have lj : j < ns.length := by
      by_cases h : j < ns.length
      · exact h
      · rw [List.getElem?_eq_none (by omega)] at en; cases en
    refine ⟨rfl, ?_⟩
    dsimp only [tYes]
    refine iteT ⟨_, rfl, .inl ⟨i, rfl, _, rfl, _, h1, ?_, same_to s1 hD, ys ++ [if i < 0 then -i else i], ?_, ?_⟩⟩
    · rw [List.length_map]
      show ys.length < (16777216 : Nat)
      omega
    · rw [upd_same, List.map_append]
      rfl
    · rw [List.length_append, h2]
      rfl
  · obtain ⟨s1, ys, h1, h2⟩ := z
    rw [List.length_map] at h2
    refine ⟨_, rfl, D, rfl, ⟨_, SqL.of h1⟩, ?_⟩
    refine for_list (xs := ys.map V.int) (fun j σ H2 => H2 = H' ∧ ∃ sd o, 0 ≤ sd ∧ sd < 2147483647 ∧ σ = [some (V.ref a), some (V.ref D), some (V.int sd), o]) ⟨rfl, 7, none, by decide, by decide, rfl⟩ (fun j σ H2 _ z => ?_) (fun j x σ H2 hj z => ?_) fun σ H2 z => ?_
    · obtain ⟨rfl, _⟩ := z
      exact SqL.of h1
    · obtain ⟨rfl, sd, o, b1, b2, rfl⟩ := z
      rw [List.getElem?_map] at hj
      cases en : ys[j]? with
      | none => rw [en] at hj; cases hj
      | some i =>
      rw [en] at hj
      cases hj
      refine ⟨_, rfl, _, _, rfl, rfl, .inl ⟨by omega, by omega⟩, _, rfl, _, _, rfl, rfl, .inl ⟨_, rfl, _, _, rfl, rfl, (by show (0 : Int) < 2147483647; decide), ?_⟩⟩
      exact ⟨rfl, _, _, Int.emod_nonneg _ (by decide), Int.emod_lt_of_pos _ (by decide), rfl⟩
    · obtain ⟨rfl, sd, o, b1, b2, rfl⟩ := z
      intro t ht
      refine ⟨_, rfl, _, rfl, upd_same, [(kC, .ref D), (kA, .int 0), (kL, .int 0), (kS, .int sd), (kT, .int 0)], rfl, (by show 5 ≤ 15; decide), ?_⟩
      have hD2 : upd (upd H2 t (.dK [])) t (.dK (mergeK [] [(kC, .ref D), (kA, .int 0), (kL, .int 0), (kS, .int sd), (kT, .int 0)])) D = some (.lst (ys.map V.int)) := by
        rw [upd_ne (ne_of_none h1 ht), upd_ne (ne_of_none h1 ht)]
        exact h1
      refine q t _ (s1.trans (same_to (same_new ht _) ht)) ⟨_, upd_same, ?_⟩
      obtain ⟨n1, n2, n3, n4, n5, n6, n7, n8, n9, n10⟩ := ne_keys
      have em : mergeK [] [(kC, V.ref D), (kA, .int 0), (kL, .int 0), (kS, .int sd), (kT, .int 0)] = putK (putK (putK (putK (putK [] kC (V.ref D)) kA (.int 0)) kL (.int 0)) kS (.int sd)) kT (.int 0) := rfl
      have lm := length_mergeK [(kC, V.ref D), (kA, .int 0), (kL, .int 0), (kS, .int sd), (kT, .int 0)] []
      refine ⟨⟨D, ys, ?_, hD2, by omega⟩, ⟨0, ?_⟩, ⟨0, ?_⟩, ⟨sd, ?_, b1, b2⟩, ⟨0, ?_, by decide, by decide⟩, lm⟩
      · rw [em, valV_put, if_neg n4, valV_put, if_neg n3, valV_put, if_neg n2, valV_put, if_neg n1, valV_put, if_pos rfl]
      · rw [em, valV_put, if_neg n7, valV_put, if_neg n6, valV_put, if_neg n5, valV_put, if_pos rfl]
        rfl
      · rw [em, valV_put, if_neg n9, valV_put, if_neg n8, valV_put, if_pos rfl]
      · rw [em, valV_put, if_neg n10, valV_put, if_pos rfl]
      · rw [em, valV_put, if_pos rfl]
section
variable {X : Cx}
/-- between two statements: what is known there -/
def tMid (t : TS) : TS := fun D σ H => ∃ J : L2.St → Hp → Prop, t { D with nx := J } σ H ∧ ∀ σ' H', J σ' H' → D.nx σ' H'
theorem ps_mid {st : Stmt} {t : TS} (h : PS X st t) : PS X st (tMid t) := by
  refine ⟨fun pins s σ H D I hw => ?_⟩
  obtain ⟨J, h1, h2⟩ := hw
  refine thn (h.run pins s σ H _ I h1) fun f s1 q => ?_
  cases f with
  | next => obtain ⟨σ', H', I', j⟩ := q; exact ⟨σ', H', I', h2 _ _ j⟩
  | brk => exact q
  | cont => exact q
  | ret u => exact q
end
theorem dg {H : Hp} {t : Addr} {kvs : List (Key × V)} {k : Key} {v : V} (e : valV kvs k = some v) (h : H t = some (.dK kvs)) : DGet H t (kV k) (some v) := e ▸ DGet.k h
theorem scK : FnScope ["tape", "many", "drawn", "mixed"] ["tape", "many"] (defScope sTake) := ⟨rfl, rfl, rfl, by decide +kernel, rfl, by decide +kernel, by decide +kernel⟩
theorem ok_take (F : Fun K "_law_take" "_law_take" sTake f fd) (T : TxtL mg) : FnOk P w K mg base CX0 1 f fd ["tape", "many"] spTake := by
  refine F.ok scK (fun vs H Q E h => ?_) (fun cdv A outer s H vs Q E hr h => ?_)
  · obtain ⟨_, _, _, rfl, _⟩ := h
    rfl
  obtain ⟨t, many, n, rfl, m1, m2, ⟨kvs, ht, tp⟩, hn, q⟩ := h
  have hu := hu_of hr
  refine ⟨_, pss_cons (ps_mid (ps_if (PW.pt (pw_and (pt_cmpR op_eq (pe_dget hu (pv 0) pe_str (fun _ _ => rfl)) pe_int (nomark _)) (pw_and1 (pt_cmpR op_lt (pe_dget hu (pv 0) pe_str (fun _ _ => rfl)) (pe_callB call_len_seq (by rfl) T.len PySem.boot_len (pa_cons (pe_dget hu (pv 0) pe_str (fun _ _ => rfl)) pa_nil)) (nomark _)))))
      (pss_cons (ps_dput hu (pv 0) pe_str (pe_ix ix_list (pe_dget hu (pv 0) pe_str (fun _ _ => rfl)) (pe_dget hu (pv 0) pe_str (fun _ _ => rfl)) (fun _ _ => rfl)) rfl)
      (pss_one (ps_dput hu (pv 0) pe_str (pe_op op_add (pe_dget hu (pv 0) pe_str (fun _ _ => rfl)) pe_int) rfl))) pss_nil))
    (pss_cons (ps_if (pt_cmpR op_gt (pe_dget hu (pv 0) pe_str (fun _ _ => rfl)) pe_int (nomark _))
      (pss_cons (ps_set (i := 2) scK.nd rfl (Or.inl rfl) (pe_op op_mod (pe_callTy call_int1 (by rfl) T.int (by decide +kernel) (pa_cons (pe_dget hu (pv 0) pe_str (fun _ _ => rfl)) pa_nil)) (pv 1)))
      (pss_cons (ps_dput hu (pv 0) pe_str (pe_op op_fdivN (pe_dget hu (pv 0) pe_str (fun _ _ => rfl)) (pv 1)) rfl)
      (pss_one (ps_ret (pv 2))))) pss_nil)
    (pss_cons (ps_dput hu (pv 0) pe_str (pe_op op_add (pe_dget hu (pv 0) pe_str (fun _ _ => rfl)) pe_int) rfl)
    (pss_cons (ps_set (i := 3) scK.nd rfl (Or.inl rfl) (pe_op op_mod (pe_callTy call_int1 (by rfl) T.int (by decide +kernel) (pa_cons (pe_op op_add (pe_op op_mul (pe_dget hu (pv 0) pe_str (fun _ _ => rfl)) pe_int) (pe_op op_mul (pe_dget hu (pv 0) pe_str (fun _ _ => rfl)) pe_int)) pa_nil)) pe_int))
    (pss_cons (ps_set (i := 3) scK.nd rfl (Or.inl rfl) (pe_op op_mod (pe_callTy call_int1 (by rfl) T.int (by decide +kernel) (pa_cons (pe_op op_add (pe_op op_add (pe_op op_mul (pv 3) (pv 3)) (pe_op op_mul (pe_dget hu (pv 0) pe_str (fun _ _ => rfl)) pe_int)) pe_int) pa_nil)) pe_int))
    (pss_one (ps_ret (pe_op op_mod (pe_callTy call_int1 (by rfl) T.int (by decide +kernel) (pa_cons (pv 3) pa_nil)) (pv 1)))))))), ?_⟩
  obtain ⟨cl, ns, hC, hcl, hns⟩ := id tp.cells
  obtain ⟨at0', hA⟩ := id tp.at_
  obtain ⟨lf, hL⟩ := id tp.left
  have few := tp.few
  refine ⟨fun σ H' => σ = [some (V.ref t), some (V.int many), none, none] ∧ Sk t H H' ∧ ∃ kvs', H' t = some (.dK kvs') ∧ TapeK H' kvs' n, ?_, fun σ H' z => ?_⟩
  · refine ⟨_, rfl, t, _, rfl, dg hL ht, rfl, _, rfl, ?_⟩
    by_cases h0 : lf = 0
    · refine Eq.mpr (congrArg (fun z => if z = true then _ else _) (decide_eq_true (congrArg V.int h0))) (iteT ?_)
      refine ⟨_, rfl, t, _, rfl, dg hA ht, _, rfl, t, _, rfl, dg hC ht, cl, _, rfl, .inl (SqL.of hcl), _, _, rfl, rfl, _, rfl, ?_⟩
      by_cases h1 : ((at0' : Nat) : Int) < ((ns.map V.int).length : Nat)
      · refine Eq.mpr (congrArg (fun z => if z = true then _ else _) (decide_eq_true h1)) (iteT ?_)
        have lt : at0' < ns.length := by
          rw [List.length_map] at h1
          omega
        have hv : atI (ns.map V.int) ((at0' : Nat) : Int) = some (.int ns[at0']) := atI_nat (by rw [List.getElem?_map, List.getElem?_eq_getElem lt]; rfl)
        refine ⟨_, rfl, t, _, rfl, dg hC ht, _, rfl, t, _, rfl, dg hA ht, cl, _, _, _, rfl, rfl, SqL.of hcl, hv, _, rfl, t, _, rfl, DPut.k (k := kL) ht (by show kvs.length < (16777216 : Nat); omega), ?_⟩
        have t2 := (tp.putL ns[at0']).upd (o := .dK (putK kvs kL (.int ns[at0']))) ht
        obtain ⟨at1', hA2⟩ := id t2.at_
        have e2 : (at1' : Int) = at0' := by
          obtain ⟨n1, n2, n3, n4, n5, n6, n7, n8, n9, n10⟩ := ne_keys
          rw [valV_put, if_neg n5, hA] at hA2
          cases hA2
          rfl
        refine ⟨_, rfl, t, _, rfl, dg hA2 upd_same, _, _, rfl, rfl, _, rfl, t, _, rfl, DPut.k (k := kA) upd_same (by have := t2.few; show _ < (16777216 : Nat); omega), ?_⟩
        have t3 := (t2.putA (at1' + 1)).upd (o := .dK (putK (putK kvs kL (.int ns[at0'])) kA (.int ((at1' + 1 : Nat) : Int)))) upd_same
        refine ⟨rfl, fun b o e hb => ?_, _, upd_same, t3⟩
        rw [upd_ne hb, upd_ne hb]
        exact e
      · refine Eq.mpr (congrArg (fun z => if z = true then _ else _) (decide_eq_false h1)) (iteF ?_)
        exact ⟨rfl, fun _ _ e _ => e, kvs, ht, tp⟩
    · refine Eq.mpr (congrArg (fun z => if z = true then _ else _) (decide_eq_false fun z => h0 (by cases z; rfl))) (iteF ?_)
      exact ⟨rfl, fun _ _ e _ => e, kvs, ht, tp⟩
  obtain ⟨rfl, sk, kv2, ht2, tp2⟩ := z
  obtain ⟨lf2, hL2⟩ := id tp2.left
  obtain ⟨sd, hS, sd0, sd1⟩ := id tp2.seed
  obtain ⟨sl, hT, sl0, sl1⟩ := id tp2.salt
  have few2 := tp2.few
  refine ⟨_, rfl, t, _, rfl, dg hL2 ht2, _, _, rfl, rfl, _, rfl, ?_⟩
  by_cases h1 : lf2 > 0
  · refine Eq.mpr (congrArg (fun z => if z = true then _ else _) (decide_eq_true h1)) (iteT ?_)
    refine ⟨_, rfl, t, _, rfl, dg hL2 ht2, .inl ⟨_, rfl, _, rfl, _, _, rfl, rfl, (by show (0 : Int) < many; omega), ?_⟩⟩
    refine ⟨_, rfl, t, _, rfl, dg hL2 ht2, _, rfl, _, _, rfl, rfl, ⟨by omega, by omega⟩, _, rfl, t, _, rfl, DPut.k (k := kL) ht2 (by show _ < (16777216 : Nat); omega), ?_⟩
    refine ⟨_, rfl, q _ _ (Int.emod_nonneg _ (by omega)) (Int.emod_lt_of_pos _ (by omega)) (fun b o e hb => ?_) ⟨_, upd_same, ((tp2.putL _).upd ht2).more (Nat.le_succ _)⟩⟩
    rw [upd_ne hb]
    exact sk b o e hb
  · refine Eq.mpr (congrArg (fun z => if z = true then _ else _) (decide_eq_false h1)) (iteF ?_)
    refine ⟨_, rfl, t, _, rfl, dg hT ht2, _, _, rfl, rfl, _, rfl, t, _, rfl, DPut.k (k := kT) ht2 (by show _ < (16777216 : Nat); omega), ?_⟩
    have t3 := (tp2.putT (m := n + 1) (sl + 1) (by omega) (by omega)).upd (o := .dK (putK kv2 kT (.int (sl + 1)))) ht2
    obtain ⟨n1, n2, n3, n4, n5, n6, n7, n8, n9, n10⟩ := ne_keys
    have hS3 : valV (putK kv2 kT (.int (sl + 1))) kS = some (.int sd) := by rw [valV_put, if_neg n10]; exact hS
    have hT3 : valV (putK kv2 kT (.int (sl + 1))) kT = some (.int (sl + 1)) := by rw [valV_put, if_pos rfl]
    refine ⟨_, rfl, t, _, rfl, dg hS3 upd_same, _, _, rfl, rfl, .inl ⟨by omega, by omega⟩, _, rfl, t, _, rfl, dg hT3 upd_same, _, _, rfl, rfl, .inl ⟨by omega, by omega⟩, _, _, rfl, rfl, .inl ⟨_, rfl, _, _, rfl, rfl, (by show (0 : Int) < 2147483647; decide), ?_⟩⟩
    have m0 := Int.emod_nonneg (sd * 48271 + (sl + 1) * 69621) (show (2147483647 : Int) ≠ 0 by decide)
    have m9 := Int.emod_lt_of_pos (sd * 48271 + (sl + 1) * 69621) (show (0 : Int) < 2147483647 by decide)
    generalize (sd * 48271 + (sl + 1) * 69621) % 2147483647 = mx at m0 m9
    refine ⟨_, rfl, _, rfl, _, _, rfl, rfl, .inl ⟨by omega, by omega⟩, _, rfl, t, _, rfl, dg hT3 upd_same, _, _, rfl, rfl, .inl ⟨by omega, by omega⟩, _, _, rfl, rfl, _, _, rfl, rfl, .inl ⟨_, rfl, _, _, rfl, rfl, (by show (0 : Int) < 2147483399; decide), ?_⟩⟩
    refine ⟨_, rfl, .inl ⟨_, rfl, _, rfl, _, _, rfl, rfl, (by show (0 : Int) < many; omega), ?_⟩⟩
    refine q _ _ (Int.emod_nonneg _ (by omega)) (Int.emod_lt_of_pos _ (by omega)) (fun b o e hb => ?_) ⟨_, upd_same, t3⟩
    rw [upd_ne hb]
    exact sk b o e hb
end
end W63
/-! data made in place; wrapped, told -/
namespace W63
open PySem L2 M63
/-! ### expressions that make data -/
def Mk1 (K : PySem.W.Frag) (σ : L2.St) (H0 : Hp) (te : TE) (k : D) : Prop := ∀ H Q, Same H0 H → (∀ v H', Same H H' → Td K H' v k → Q v H') → te σ H Q
def MkA (K : PySem.W.Frag) (σ : L2.St) (H0 : Hp) (t : TA) (ks : List D) : Prop := ∀ H Q, Same H0 H → (∀ vs H', Same H H' → TdA K H' vs ks → Q vs H') → t σ H Q
section
variable {K : PySem.W.Frag} {σ : L2.St} {H0 : Hp}
theorem mk_str {x : Str} : Mk1 K σ H0 (tC (.str x)) (.str x) := fun H Q _ q => q _ _ (Same.refl _) (.str _)
theorem mk_int {i : Int} : Mk1 K σ H0 (tC (.int i)) (.int i) := fun H Q _ q => q _ _ (Same.refl _) (.int _)
theorem mk_bl {b : Bool} : Mk1 K σ H0 (tC (.bl b)) (.bool b) := fun H Q _ q => q _ _ (Same.refl _) (.bl _)
theorem mk_var {i : Nat} {v : V} {k : D} (h : σ[i]? = some (some v)) (hv : Td K H0 v k) : Mk1 K σ H0 (tVar i) k := fun H Q e q => ⟨v, h, q _ _ (Same.refl _) (hv.tt (TT.same e))⟩
theorem mk_nil : MkA K σ H0 tNil [] := fun H Q _ q => q _ _ (Same.refl _) .nil
theorem mk_cons {te : TE} {t : TA} {k : D} {ks : List D} (h1 : Mk1 K σ H0 te k) (h2 : MkA K σ H0 t ks) : MkA K σ H0 (tCons te t) (k :: ks) := fun H Q e q =>
  h1 H _ e fun v H1 e1 hv => h2 H1 _ (e.trans e1) fun vs H2 e2 hvs => q _ _ (e1.trans e2) (.cons (hv.tt (TT.same e2)) hvs)
theorem mk_tup {t : TA} {ks : List D} (h : MkA K σ H0 t ks) (hl : ks.length ≤ 100) : Mk1 K σ H0 (tTup t) (.tuple ks) := fun H Q e q =>
  h H _ e fun vs H1 e1 hvs => ⟨by have := hvs.len; show vs.length ≤ (16777216 : Nat); omega, fun p hp => q _ _ (e1.trans (same_new hp _)) (Td.new hp hvs)⟩
end
abbrev sWrap : Stmt := top 20
abbrev sTold : Stmt := top 21
/-- the wrapped program, how it was wrapped -/
def spWrap (K : PySem.W.Frag) : Sp := fun vs H Q _ => ∃ (t : Addr) (v : V) (k : D) (many : Int) (n : Nat), vs = [.ref t, v, .int many] ∧ Td K H v k ∧ 0 ≤ many ∧ many ≤ 10 ∧ Tape H t n ∧ n + 10 ≤ 1000 ∧
  ∀ v' hs H', Sk t H H' → Tape H' t (n + 10) → hs.length = many.toNat → Td K H' v' (wrap k hs) → Q v' H'
def spTold (K : PySem.W.Frag) : Sp := fun vs H Q _ => ∃ v k r, vs = [v] ∧ Td K H v k ∧ prin k = some r ∧ sz k ≤ 1900 ∧ (∀ v' H' k', r = some k' → Same H H' → Td K H' v' k' → Q v' H') ∧ (∀ H', r = none → Same H H' → Q .non H')
theorem Sk.trans {g : Addr} {H H1 H2 : Hp} (a : Sk g H H1) (b : Sk g H1 H2) : Sk g H H2 := fun c o h n => b c o (a c o h n) n
theorem Sk.of {g : Addr} {H H' : Hp} (e : Same H H') : Sk g H H' := fun b o h _ => e b o h
theorem Sk.tt {g : Addr} {H H' : Hp} {n : Nat} (t : Tape H g n) (e : Sk g H H') : TT H H' := fun b xs h => e b _ h fun z => by
  obtain ⟨kvs, h', _⟩ := t
  rw [z, h'] at h
  cases h
section
variable {P : Program} {w : World} {K : PySem.W.Frag} {mg : Str → Option Value} {base : Heap} {XN : Addr} {f fT fP : Addr} {fd fdT fdP : FuncData}
theorem scWr : FnScope ["tape", "p", "many", "k", "how"] ["tape", "p", "many"] (defScope sWrap) := ⟨rfl, rfl, rfl, by decide +kernel, rfl, by decide +kernel, by decide +kernel⟩
theorem ok_wrap (F : Fun K "_law_wrapped" "_law_wrapped" sWrap f fd) (T : TxtL mg) (mT : mg "_law_take" = some (.ref fT)) (kT : PySem.W.keepIn K (.ref fT) = true) (bT : Binds K fdT ["tape", "many"] []) (GT : FnOk P w K mg base CX0 1 fT fdT ["tape", "many"] spTake) :
    FnOk P w K mg base CX0 2 f fd ["tape", "p", "many"] (spWrap K) := by
  refine F.ok scWr (fun vs H Q E h => ?_) (fun cdv A outer s H vs Q E hr h => ?_)
  · obtain ⟨_, _, _, _, _, rfl, _⟩ := h
    rfl
  obtain ⟨t, v, k, many, n, rfl, hv, m0, m1, tp, hn, q⟩ := h
  refine ⟨_, pss_cons (ps_for PassesOwn.never rfl (pi_range1 (by rfl) T.range (pa_cons (pv 2) pa_nil)) (pg_name (i := 3) scWr.nd rfl (Or.inl rfl))
      (pss_cons (ps_set (i := 4) scWr.nd rfl (Or.inl rfl) (pe_call GT hr rfl mT kT bT .nil pass0 (pa_cons (pv 0) (pa_cons pe_int pa_nil))))
      (pss_one (ps_if (pt_cmpR op_eq (pv 4) pe_int (nomark _)) (pss_one (ps_set (i := 1) scWr.nd rfl (Or.inl rfl) (pe_tup (pa_cons pe_str (pa_cons (pe_tup (pa_cons pe_str (pa_cons pe_str (pa_cons (pe_tup (pa_cons pe_str (pa_cons pe_str pa_nil))) pa_nil)))) (pa_cons (pv 1) pa_nil)))))) (pss_one (ps_if (pt_cmpR op_eq (pv 4) pe_int (nomark _)) (pss_one (ps_set (i := 1) scWr.nd rfl (Or.inl rfl) (pe_tup (pa_cons pe_str (pa_cons (pe_tup (pa_cons pe_str (pa_cons (pe_tup (pa_cons pe_str (pa_cons pe_str (pa_cons (pe_tup (pa_cons pe_str (pa_cons pe_str (pa_cons (pe_tup (pa_cons pe_str (pa_cons pe_str pa_nil))) pa_nil)))) pa_nil)))) (pa_cons (pe_tup (pa_cons pe_str (pa_cons pe_int pa_nil))) pa_nil)))) (pa_cons (pv 1) pa_nil)))))) (pss_one (ps_if (pt_cmpR op_eq (pv 4) pe_int (nomark _)) (pss_one (ps_set (i := 1) scWr.nd rfl (Or.inl rfl) (pe_tup (pa_cons pe_str (pa_cons (pe_tup (pa_cons pe_str (pa_cons pe_str pa_nil))) (pa_cons (pe_tup (pa_cons pe_str (pa_cons (pv 1) (pa_cons (pe_tup (pa_cons pe_str (pa_cons pe_bl pa_nil))) pa_nil)))) pa_nil)))))) (pss_one (ps_if (pt_cmpR op_eq (pv 4) pe_int (nomark _)) (pss_one (ps_set (i := 1) scWr.nd rfl (Or.inl rfl) (pe_tup (pa_cons pe_str (pa_cons (pe_tup (pa_cons pe_str (pa_cons pe_str pa_nil))) (pa_cons (pe_tup (pa_cons pe_str (pa_cons (pe_tup (pa_cons pe_str (pa_cons pe_int pa_nil))) (pa_cons (pv 1) pa_nil)))) pa_nil)))))) (pss_one (ps_if (pt_cmpR op_eq (pv 4) pe_int (nomark _)) (pss_one (ps_set (i := 1) scWr.nd rfl (Or.inl rfl) (pe_tup (pa_cons pe_str (pa_cons pe_str (pa_cons (pe_tup (pa_cons pe_str (pa_cons pe_int pa_nil))) (pa_cons (pv 1) pa_nil))))))) (pss_one (ps_set (i := 1) scWr.nd rfl (Or.inl rfl) (pe_tup (pa_cons pe_str (pa_cons (pe_tup (pa_cons pe_str (pa_cons pe_bl pa_nil))) (pa_cons (pv 1) (pa_cons (pe_tup (pa_cons pe_str (pa_cons pe_str (pa_cons (pe_tup (pa_cons pe_str (pa_cons pe_str pa_nil))) pa_nil)))) pa_nil)))))))))))))))))))
    (pss_one (ps_ret (pv 1))), ?_⟩
  refine ⟨_, rfl, _, rfl, by omega, by omega, ?_⟩
  refine for_range (n := many.toNat) (fun j σ H' => ∃ v' hs o3 o4, σ = [some (V.ref t), some v', some (V.int many), o3, o4] ∧ Sk t H H' ∧ Tape H' t (n + j) ∧ hs.length = j ∧ Td K H' v' (wrap k hs)) ⟨v, [], none, none, rfl, fun _ _ e _ => e, tp, rfl, hv⟩ (fun j σ H' hj z => ?_) fun σ H' z => ?_
  · obtain ⟨v', hs, o3, o4, rfl, sk, tp', hl, hv'⟩ := z
    refine ⟨_, rfl, t, 6, n + j, rfl, by decide, by decide, tp', by omega, fun r H2 r0 r6 sk2 tp2 => ?_⟩
    have hv2 := hv'.tt (sk2.tt tp')
    have ew : wrap k (hs ++ [r]) = M63.step r (wrap k hs) := by simp [wrap]
    have hl2 : (hs ++ [r]).length = j + 1 := by rw [List.length_append, hl]; rfl
    have fin : ∀ v2 H3, Same H2 H3 → Td K H3 v2 (M63.step r (wrap k hs)) → ∃ v' hs o3 o4, [some (V.ref t), some v2, some (V.int many), some (V.int (0 + (j : Int))), some (V.int r)] = [some (V.ref t), some v', some (V.int many), o3, o4] ∧ Sk t H H3 ∧ Tape H3 t (n + (j + 1)) ∧ hs.length = j + 1 ∧ Td K H3 v' (wrap k hs) := fun v2 H3 e3 hd => ⟨v2, hs ++ [r], _, _, rfl, sk.trans (sk2.trans (Sk.of e3)), Tape.same tp2 e3, hl2, by rw [ew]; exact hd⟩
    refine ⟨_, rfl, rfl, _, rfl, ?_⟩
    by_cases h0 : r = 0
    · refine Eq.mpr (congrArg (fun z => if z = true then _ else _) (decide_eq_true (congrArg V.int h0))) (iteT ?_)
      have es : M63.step r (wrap k hs) = M63.step 0 (wrap k hs) := by rw [h0]
      exact (mk_tup (mk_cons mk_str (mk_cons (mk_tup (mk_cons mk_str (mk_cons mk_str (mk_cons (mk_tup (mk_cons mk_str (mk_cons mk_str mk_nil)) (by show 2 ≤ 100; decide)) mk_nil))) (by show 3 ≤ 100; decide)) (mk_cons (mk_var rfl hv2) mk_nil))) (by show 3 ≤ 100; decide)) H2 _ (Same.refl _) fun v2 H3 e3 hd => fin v2 H3 e3 (by rw [es]; exact hd)
    refine Eq.mpr (congrArg (fun z => if z = true then _ else _) (decide_eq_false fun z => h0 (by cases z; rfl))) (iteF ?_)
    refine ⟨_, rfl, rfl, _, rfl, ?_⟩
    by_cases h1 : r = 1
    · refine Eq.mpr (congrArg (fun z => if z = true then _ else _) (decide_eq_true (congrArg V.int h1))) (iteT ?_)
      have es : M63.step r (wrap k hs) = M63.step 1 (wrap k hs) := by rw [h1]
      exact (mk_tup (mk_cons mk_str (mk_cons (mk_tup (mk_cons mk_str (mk_cons (mk_tup (mk_cons mk_str (mk_cons mk_str (mk_cons (mk_tup (mk_cons mk_str (mk_cons mk_str (mk_cons (mk_tup (mk_cons mk_str (mk_cons mk_str mk_nil)) (by show 2 ≤ 100; decide)) mk_nil))) (by show 3 ≤ 100; decide)) mk_nil))) (by show 3 ≤ 100; decide)) (mk_cons (mk_tup (mk_cons mk_str (mk_cons mk_int mk_nil)) (by show 2 ≤ 100; decide)) mk_nil))) (by show 3 ≤ 100; decide)) (mk_cons (mk_var rfl hv2) mk_nil))) (by show 3 ≤ 100; decide)) H2 _ (Same.refl _) fun v2 H3 e3 hd => fin v2 H3 e3 (by rw [es]; exact hd)
    refine Eq.mpr (congrArg (fun z => if z = true then _ else _) (decide_eq_false fun z => h1 (by cases z; rfl))) (iteF ?_)
    refine ⟨_, rfl, rfl, _, rfl, ?_⟩
    by_cases h2 : r = 2
    · refine Eq.mpr (congrArg (fun z => if z = true then _ else _) (decide_eq_true (congrArg V.int h2))) (iteT ?_)
      have es : M63.step r (wrap k hs) = M63.step 2 (wrap k hs) := by rw [h2]
      exact (mk_tup (mk_cons mk_str (mk_cons (mk_tup (mk_cons mk_str (mk_cons mk_str mk_nil)) (by show 2 ≤ 100; decide)) (mk_cons (mk_tup (mk_cons mk_str (mk_cons (mk_var rfl hv2) (mk_cons (mk_tup (mk_cons mk_str (mk_cons mk_bl mk_nil)) (by show 2 ≤ 100; decide)) mk_nil))) (by show 3 ≤ 100; decide)) mk_nil))) (by show 3 ≤ 100; decide)) H2 _ (Same.refl _) fun v2 H3 e3 hd => fin v2 H3 e3 (by rw [es]; exact hd)
    refine Eq.mpr (congrArg (fun z => if z = true then _ else _) (decide_eq_false fun z => h2 (by cases z; rfl))) (iteF ?_)
    refine ⟨_, rfl, rfl, _, rfl, ?_⟩
    by_cases h3 : r = 3
    · refine Eq.mpr (congrArg (fun z => if z = true then _ else _) (decide_eq_true (congrArg V.int h3))) (iteT ?_)
      have es : M63.step r (wrap k hs) = M63.step 3 (wrap k hs) := by rw [h3]
      exact (mk_tup (mk_cons mk_str (mk_cons (mk_tup (mk_cons mk_str (mk_cons mk_str mk_nil)) (by show 2 ≤ 100; decide)) (mk_cons (mk_tup (mk_cons mk_str (mk_cons (mk_tup (mk_cons mk_str (mk_cons mk_int mk_nil)) (by show 2 ≤ 100; decide)) (mk_cons (mk_var rfl hv2) mk_nil))) (by show 3 ≤ 100; decide)) mk_nil))) (by show 3 ≤ 100; decide)) H2 _ (Same.refl _) fun v2 H3 e3 hd => fin v2 H3 e3 (by rw [es]; exact hd)
    refine Eq.mpr (congrArg (fun z => if z = true then _ else _) (decide_eq_false fun z => h3 (by cases z; rfl))) (iteF ?_)
    refine ⟨_, rfl, rfl, _, rfl, ?_⟩
    by_cases h4 : r = 4
    · refine Eq.mpr (congrArg (fun z => if z = true then _ else _) (decide_eq_true (congrArg V.int h4))) (iteT ?_)
      have es : M63.step r (wrap k hs) = M63.step 4 (wrap k hs) := by rw [h4]
      exact (mk_tup (mk_cons mk_str (mk_cons mk_str (mk_cons (mk_tup (mk_cons mk_str (mk_cons mk_int mk_nil)) (by show 2 ≤ 100; decide)) (mk_cons (mk_var rfl hv2) mk_nil)))) (by show 4 ≤ 100; decide)) H2 _ (Same.refl _) fun v2 H3 e3 hd => fin v2 H3 e3 (by rw [es]; exact hd)
    refine Eq.mpr (congrArg (fun z => if z = true then _ else _) (decide_eq_false fun z => h4 (by cases z; rfl))) (iteF ?_)
    have es : M63.step r (wrap k hs) = pIf (pTrue true) (wrap k hs) (pFun "e" (pName "e")) := by
      unfold M63.step
      rw [if_neg h0, if_neg h1, if_neg h2, if_neg h3, if_neg h4]
    exact (mk_tup (mk_cons mk_str (mk_cons (mk_tup (mk_cons mk_str (mk_cons mk_bl mk_nil)) (by show 2 ≤ 100; decide)) (mk_cons (mk_var rfl hv2) (mk_cons (mk_tup (mk_cons mk_str (mk_cons mk_str (mk_cons (mk_tup (mk_cons mk_str (mk_cons mk_str mk_nil)) (by show 2 ≤ 100; decide)) mk_nil))) (by show 3 ≤ 100; decide)) mk_nil)))) (by show 4 ≤ 100; decide)) H2 _ (Same.refl _) fun v2 H3 e3 hd => fin v2 H3 e3 (by rw [es]; exact hd)
  · obtain ⟨v', hs, o3, o4, rfl, sk, tp', hl, hv'⟩ := z
    have le : n + many.toNat ≤ n + 10 := by omega
    obtain ⟨kvs, h1, h2⟩ := tp'
    exact ⟨_, rfl, q v' hs H' sk ⟨kvs, h1, h2.more le⟩ hl hv'⟩
end
end W63
/-! told -/
namespace W63
open PySem L2 M63
structure NoFX (K : PySem.W.Frag) (mg : Str → Option Value) (XN : Addr) : Prop extends NoF K mg XN where
  i : PySem.W.isClsIn K XN = true
  s : PySem.W.subIn K (.ref XN) (.ref XN) = some true
theorem exm_own {K : PySem.W.Frag} {mg : Str → Option Value} {XN : Addr} (N : NoFX K mg XN) : PySem.W.exmOne K (.ref XN) (.ref XN) = some true := by
  unfold PySem.W.exmOne
  rw [if_pos (by rw [N.b]; rfl)]
  show (if ((PySem.W.clsIn K XN).isSome && PySem.W.typeIn K (.ref XN) == some (.type "type")) = true then PySem.W.subIn K (.ref XN) (.ref XN) else none) = _
  have h : (PySem.W.clsIn K XN).isSome = true := N.i
  rw [if_pos (by rw [h, N.t]; rfl)]
  exact N.s
section
variable {P : Program} {w : World} {K : PySem.W.Frag} {mg : Str → Option Value} {base : Heap} {XN : Addr} {f fP : Addr} {fd fdP : FuncData}
theorem scTo : FnScope ["p"] ["p"] (defScope sTold) := ⟨rfl, rfl, rfl, by decide +kernel, rfl, by decide +kernel, by decide +kernel⟩
theorem ok_told (F : Fun K "_law_told" "_law_told" sTold f fd) (N : NoFX K mg XN) (mP : mg "principal" = some (.ref fP)) (kP : PySem.W.keepIn K (.ref fP) = true) (bP : Binds K fdP ["program"] []) (GP : FnOk P w K mg base (L2.CX P w) 153 fP fdP ["program"] (spPrin K XN)) :
    FnOk P w K mg base CX0 154 f fd ["p"] (spTold K) := by
  refine F.ok scTo (fun vs H Q E h => ?_) (fun cdv A outer s H vs Q E hr h => ?_)
  · obtain ⟨_, _, _, rfl, _⟩ := h
    rfl
  obtain ⟨v, k, r, rfl, hv, e, hz, q, qe⟩ := h
  refine ⟨_, pss_one (ps_try_only rfl rfl ⟨rfl, by decide, .inl N.g⟩ takes0 (fun W pn xe tk _ => pss_one (ps_ret (pe_callS GP hr rfl mP kP bP (fun σ => passAt tk σ) (pa_cons (pv 0) pa_nil)))) (fun a oe cls d pn _ _ => pss_one (ps_ret pe_non))), ?_⟩
  refine ⟨_, rfl, v, k, r, rfl, hv, e, hz, fun v' H' k' er s1 hv' => q v' H' k' er s1 hv', fun H' er s1 => ?_⟩
  exact ⟨true, exm_own N, (fun _ a ha => qe H' er s1), (fun q => nomatch q)⟩
end
end W63
/-! law (this text is printed by gen_s.py) -/
namespace W63
open PySem L2 M63
theorem wrap_R (hs : List Int) : wrap idw hs = wrapR hs.reverse := by
  unfold wrap
  rw [List.foldl_eq_foldr_reverse]
  generalize hs.reverse = l
  induction l with
  | nil => rfl
  | cons a r ih =>
    show M63.step a _ = M63.step a (wrapR r)
    rw [← ih]
theorem szT {ds : List D} : sz (.tuple ds) = 1 + szL ds := rfl
theorem szC {d : D} {r : List D} : szL (d :: r) = sz d + szL r := rfl
theorem szN : szL [] = 0 := rfl
theorem szS {x : Str} : sz (.str x) = 1 := rfl
theorem szI {i : Int} : sz (.int i) = 1 := rfl
theorem szB {b : Bool} : sz (.bool b) = 1 := rfl
theorem sz_step (h : Int) (p : D) : sz (M63.step h p) ≤ 40 + sz p := by
  unfold M63.step
  repeat' split
  all_goals (simp only [szT, szC, szN, szS, szI, szB]; omega)
theorem sz_wrapR : ∀ hs : List Int, sz (wrapR hs) ≤ 10 + 40 * hs.length
  | [] => by
    show sz idw ≤ _
    unfold idw
    simp only [szT, szC, szN, szS]
    omega
  | a :: r => by
    have h1 := sz_step a (wrapR r)
    have h2 := sz_wrapR r
    show sz (M63.step a (wrapR r)) ≤ _
    rw [List.length_cons]
    omega
section
variable {K : PySem.W.Frag} {σ : L2.St} {H : Hp}
theorem Mk1.same {H' : Hp} {te : TE} {k : D} (h : Mk1 K σ H te k) (e : Same H H') : Mk1 K σ H' te k := fun H2 Q e2 q => h H2 Q (e.trans e2) q
/-- a test that says no -/
def TF (tt : L2.TT) (σ : L2.St) (H : Hp) : Prop := ∀ Q : Bool → Hp → Prop, (∀ H', Same H H' → Q false H') → tt σ H Q
theorem told_ne {te te2 : TE} {k k2 : D} (h1 : Mk1 K σ H te k) (hp : prin k = some (some k2)) (hz : sz k ≤ 1900) (h2 : Mk1 K σ H te2 k2) (hs : SeqAt.shaped k2 = true) (he : PyData.eqv k2 k2 = true) :
    TF (tTest (tOp (rNeD K) (tCall (spTold K) [] E0 (tCons te tNil)) te2)) σ H := fun Qt hQ =>
  h1 H _ (Same.refl _) fun v H1 e1 hv => ⟨v, k, _, rfl, hv, hp, hz, fun v' H2 k' ek e2 hv' => by
    cases ek
    exact h2 H2 _ (e1.trans e2) fun u H3 e3 hu => ⟨k2, k2, (hv'.tt (TT.same e3)).dp, hu.dp, hs, hs, _, rfl, by rw [he]; exact hQ H3 ((e1.trans e2).trans e3)⟩, fun H2 ek => (nomatch ek)⟩
theorem told_no {te : TE} {k : D} (h1 : Mk1 K σ H te k) (hp : prin k = some none) (hz : sz k ≤ 1900) :
    TF (tTest (tOp (fun x y H Q => y = .non ∧ Q (.bl (!decide (x = .non))) H) (tCall (spTold K) [] E0 (tCons te tNil)) (tC .non))) σ H := fun Qt hQ =>
  h1 H _ (Same.refl _) fun v H1 e1 hv => ⟨v, k, _, rfl, hv, hp, hz, fun v' H2 k' ek => (nomatch ek), fun H2 ek e2 => ⟨rfl, _, rfl, hQ H2 (e1.trans e2)⟩⟩
theorem tf_or {t u : L2.TT} (h : TF t σ H) (g : ∀ H', Same H H' → TF u σ H') : TF (tOr t u) σ H := fun Q hQ => h _ fun H1 e1 => iteF (g H1 e1 Q fun H2 e2 => hQ H2 (e1.trans e2))
theorem if_no {tt : L2.TT} {ta t : TS} {D : Ends} (h : TF tt σ H) (hQ : ∀ H', Same H H' → t D σ H') : tSeq (tIfS tt ta tNext) t D σ H := h _ fun H' e => iteF (hQ H' e)
theorem if_last {tt : L2.TT} {ta : TS} {D : Ends} (h : TF tt σ H) (hQ : ∀ H', Same H H' → D.nx σ H') : tIfS tt ta tNext D σ H := h _ fun H' e => iteF (hQ H' e)
theorem set_mk {te : TE} {k : D} {i : Nat} {t : TS} {D : Ends} (h : Mk1 K σ H te k) (hQ : ∀ v H', Same H H' → Td K H' v k → t D (σ.set i (some v)) H') : tSeq (tAsg te (gName i)) t D σ H := h H _ (Same.refl _) hQ
theorem set_any {te : TE} {i : Nat} {t : TS} {D : Ends} (h : te σ H fun v H' => t D (σ.set i (some v)) H') : tSeq (tAsg te (gName i)) t D σ H := h
theorem set_wrap {te : TE} {i : Nat} {t : TS} {D : Ends} {tp : Addr} {n : Nat} {c : Int} (hσ : σ[1]? = some (some (.ref tp))) (ht : Tape H tp n) (hn : n + 20 ≤ 1000) (h : Mk1 K σ H te idw) (c1 : 1 ≤ c) (c2 : c ≤ 10)
    (hQ : ∀ v hs H', TT H H' → Tape H' tp (n + 11) → (hs.length : Int) < c → Td K H' v (wrapR hs) → t D (σ.set i (some v)) H') :
    tSeq (tAsg (tCall (spWrap K) [] E0 (tCons (tVar 1) (tCons te (tCons (tCall spTake [] E0 (tCons (tVar 1) (tCons (tC (.int c)) tNil))) tNil)))) (gName i)) t D σ H := by
  refine ⟨_, hσ, h H _ (Same.refl _) fun w1 H3 s3 hw1 => ?_⟩
  refine ⟨_, hσ, tp, c, n, rfl, c1, by omega, Tape.same ht s3, by omega, fun r1 H4 r10 r16 k4 tp4 => ?_⟩
  have tq3 := Tape.same ht s3
  refine ⟨tp, w1, idw, r1, n + 1, rfl, hw1.tt (k4.tt tq3), r10, by omega, tp4, by omega, fun vo hs1 H5 k5 tp5 l5 ho => ?_⟩
  rw [wrap_R] at ho
  have e : n + 1 + 10 = n + 11 := by omega
  rw [e] at tp5
  refine hQ vo hs1.reverse H5 (((TT.same s3).trans (k4.tt tq3)).trans (k5.tt tp4)) tp5 ?_ ho
  rw [List.length_reverse, l5]
  omega
end
abbrev sLaw : Stmt := top 22
def spLaw (K : PySem.W.Frag) : Sp := fun vs H Q _ => ∃ (a : Addr) (ns : List Int), vs = [.ref a] ∧ SqL K H a (ns.map V.int) ∧ ns.length ≤ 63 ∧ ∀ H', Q (.bl true) H'
section
variable {P : Program} {w : World} {K : PySem.W.Frag} {mg : Str → Option Value} {base : Heap} {f fA fK fW fT : Addr} {fd fdA fdK fdW fdT : FuncData}
theorem scL : FnScope ["script", "tape", "both", "turn", "own", "more", "kept", "first", "second"] ["script"] (defScope sLaw) := ⟨rfl, rfl, rfl, by decide +kernel, rfl, by decide +kernel, by decide +kernel⟩
theorem ok_law (F : Fun K "law" "law" sLaw f fd) (TL : TxtL mg) (mA : mg "_law_tape" = some (.ref fA)) (kA : PySem.W.keepIn K (.ref fA) = true) (bA : Binds K fdA ["script"] []) (GA : FnOk P w K mg base CX0 1 fA fdA ["script"] (spTape K))
    (mK : mg "_law_take" = some (.ref fK)) (kK : PySem.W.keepIn K (.ref fK) = true) (bK : Binds K fdK ["tape", "many"] []) (GK : FnOk P w K mg base CX0 1 fK fdK ["tape", "many"] spTake)
    (mW : mg "_law_wrapped" = some (.ref fW)) (kW : PySem.W.keepIn K (.ref fW) = true) (bW : Binds K fdW ["tape", "p", "many"] []) (GW : FnOk P w K mg base CX0 2 fW fdW ["tape", "p", "many"] (spWrap K))
    (mT : mg "_law_told" = some (.ref fT)) (kT : PySem.W.keepIn K (.ref fT) = true) (bT : Binds K fdT ["p"] []) (GT : FnOk P w K mg base CX0 154 fT fdT ["p"] (spTold K)) : FnOk P w K mg base CX0 155 f fd ["script"] (spLaw K) := by
  refine F.ok scL (fun vs H Q E h => ?_) (fun cdv A outer s H vs Q E hr h => ?_)
  · obtain ⟨_, _, rfl, _⟩ := h
    rfl
  obtain ⟨a, ns, rfl, hs, hl, q⟩ := h
  have hr1 := hr.mono (show 1 ≤ 154 by omega)
  have hr2 := hr.mono (show 2 ≤ 154 by omega)
  refine ⟨_, pss_cons (ps_set (i := 1) scL.nd rfl (Or.inl rfl) (pe_call GA hr1 rfl mA kA bA .nil pass0 (pa_cons (pv 0) pa_nil)))
    (pss_cons (ps_set (i := 2) scL.nd rfl (Or.inl rfl) (pe_tup (pa_cons pe_str (pa_cons (pe_tup (pa_cons pe_str (pa_cons (pe_tup (pa_cons pe_str (pa_cons pe_str pa_nil))) (pa_cons (pe_tup (pa_cons pe_str (pa_cons pe_int pa_nil))) pa_nil)))) (pa_cons (pe_tup (pa_cons pe_str (pa_cons (pe_tup (pa_cons pe_str (pa_cons pe_str pa_nil))) (pa_cons (pe_tup (pa_cons pe_str (pa_cons pe_bl pa_nil))) pa_nil)))) pa_nil)))))
    (pss_cons (ps_for PassesOwn.never rfl (pi_range1 (by rfl) TL.range (pa_cons pe_int pa_nil)) (pg_name (i := 3) scL.nd rfl (Or.inl rfl))
      (pss_cons (ps_set (i := 4) scL.nd rfl (Or.inl rfl) (pe_call GW hr2 rfl mW kW bW .nil pass0 (pa_cons (pv 1) (pa_cons (pe_tup (pa_cons pe_str (pa_cons pe_str (pa_cons (pe_tup (pa_cons pe_str (pa_cons pe_str pa_nil))) pa_nil)))) (pa_cons (pe_call GK hr1 rfl mK kK bK .nil pass0 (pa_cons (pv 1) (pa_cons pe_int pa_nil))) pa_nil)))))
      (pss_cons (ps_set (i := 5) scL.nd rfl (Or.inl rfl) (pe_call GW hr2 rfl mW kW bW .nil pass0 (pa_cons (pv 1) (pa_cons (pe_tup (pa_cons pe_str (pa_cons pe_str (pa_cons (pe_tup (pa_cons pe_str (pa_cons pe_str pa_nil))) pa_nil)))) (pa_cons (pe_call GK hr1 rfl mK kK bK .nil pass0 (pa_cons (pv 1) (pa_cons pe_int pa_nil))) pa_nil)))))
      (pss_cons (ps_if (PW.pt (pw_or (pt_cmpR (op_neD hr.units) (pe_call GT hr rfl mT kT bT .nil pass0 (pa_cons (pe_tup (pa_cons pe_str (pa_cons pe_str (pa_cons (pv 4) (pa_cons (pv 2) pa_nil))))) pa_nil)) (pe_tup (pa_cons pe_str (pa_cons (pe_tup (pa_cons pe_str pa_nil)) (pa_cons (pe_tup (pa_cons pe_str pa_nil)) pa_nil)))) (nomark _)) (pw_or1 (pt_cmpR (op_neD hr.units) (pe_call GT hr rfl mT kT bT .nil pass0 (pa_cons (pv 4) pa_nil)) (pe_tup (pa_cons pe_str (pa_cons (pe_tup (pa_cons pe_str (pa_cons pe_int pa_nil))) (pa_cons (pe_tup (pa_cons pe_str (pa_cons pe_int pa_nil))) pa_nil)))) (nomark _))))) (pss_one (ps_ret pe_bl)) pss_nil)
      (pss_cons (ps_if (pt_cmpR (op_neD hr.units) (pe_call GT hr rfl mT kT bT .nil pass0 (pa_cons (pe_tup (pa_cons pe_str (pa_cons pe_str (pa_cons (pv 5) (pa_cons (pe_tup (pa_cons pe_str (pa_cons pe_str (pa_cons (pe_tup (pa_cons pe_str (pa_cons (pe_tup (pa_cons pe_str (pa_cons pe_str pa_nil))) (pa_cons (pv 4) pa_nil)))) (pa_cons (pv 2) pa_nil))))) pa_nil))))) pa_nil)) (pe_tup (pa_cons pe_str (pa_cons (pe_tup (pa_cons pe_str pa_nil)) (pa_cons (pe_tup (pa_cons pe_str pa_nil)) pa_nil)))) (nomark _)) (pss_one (ps_ret pe_bl)) pss_nil)
      (pss_cons (ps_if (PW.pt (pw_or (pt_cmpR op_notN (pe_call GT hr rfl mT kT bT .nil pass0 (pa_cons (pe_tup (pa_cons pe_str (pa_cons (pe_tup (pa_cons pe_str (pa_cons pe_str (pa_cons (pv 2) pa_nil)))) (pa_cons (pv 4) pa_nil)))) pa_nil)) pe_non (nomark _)) (pw_or1 (pt_cmpR op_notN (pe_call GT hr rfl mT kT bT .nil pass0 (pa_cons (pe_tup (pa_cons pe_str (pa_cons pe_str (pa_cons (pe_tup (pa_cons pe_str (pa_cons pe_str (pa_cons (pe_tup (pa_cons pe_str (pa_cons (pv 4) (pa_cons (pe_tup (pa_cons pe_str (pa_cons pe_str pa_nil))) pa_nil)))) (pa_cons (pv 2) pa_nil))))) pa_nil)))) pa_nil)) pe_non (nomark _))))) (pss_one (ps_ret pe_bl)) pss_nil)
      (pss_cons (ps_set (i := 6) scL.nd rfl (Or.inl rfl) (pe_tup (pa_cons pe_str (pa_cons pe_str (pa_cons (pe_tup (pa_cons pe_str (pa_cons pe_str (pa_cons (pe_tup (pa_cons pe_str (pa_cons (pv 4) (pa_cons (pe_tup (pa_cons pe_str (pa_cons pe_str (pa_cons (pe_tup (pa_cons pe_str (pa_cons pe_str pa_nil))) pa_nil)))) pa_nil)))) (pa_cons (pv 2) pa_nil))))) pa_nil)))))
      (pss_cons (ps_if (pt_cmpR (op_neD hr.units) (pe_call GT hr rfl mT kT bT .nil pass0 (pa_cons (pv 6) pa_nil)) (pe_tup (pa_cons pe_str (pa_cons (pe_tup (pa_cons pe_str (pa_cons pe_int pa_nil))) (pa_cons (pe_tup (pa_cons pe_str (pa_cons (pe_tup (pa_cons pe_str (pa_cons pe_int pa_nil))) (pa_cons (pe_tup (pa_cons pe_str (pa_cons pe_int pa_nil))) pa_nil)))) pa_nil)))) (nomark _)) (pss_one (ps_ret pe_bl)) pss_nil)
      (pss_cons (ps_set (i := 7) scL.nd rfl (Or.inl rfl) (pe_tup (pa_cons pe_str (pa_cons (pe_tup (pa_cons pe_str (pa_cons pe_str pa_nil))) (pa_cons (pe_tup (pa_cons pe_str (pa_cons (pe_tup (pa_cons pe_str (pa_cons pe_int pa_nil))) (pa_cons (pe_tup (pa_cons pe_str (pa_cons pe_bl pa_nil))) pa_nil)))) pa_nil)))))
      (pss_cons (ps_set (i := 8) scL.nd rfl (Or.inl rfl) (pe_tup (pa_cons pe_str (pa_cons (pe_tup (pa_cons pe_str (pa_cons pe_str pa_nil))) (pa_cons (pe_tup (pa_cons pe_str (pa_cons (pe_tup (pa_cons pe_str (pa_cons pe_bl pa_nil))) (pa_cons (pe_tup (pa_cons pe_str (pa_cons pe_int pa_nil))) pa_nil)))) pa_nil)))))
      (pss_one (ps_if (pt_cmpR (op_neD hr.units) (pe_call GT hr rfl mT kT bT .nil pass0 (pa_cons (pe_tup (pa_cons pe_str (pa_cons pe_str (pa_cons (pe_tup (pa_cons pe_str (pa_cons (pv 4) (pa_cons (pe_tup (pa_cons pe_str (pa_cons pe_str pa_nil))) pa_nil)))) (pa_cons (pe_tup (pa_cons pe_str (pa_cons (pv 7) (pa_cons (pv 8) pa_nil)))) pa_nil))))) pa_nil)) (pe_tup (pa_cons pe_str (pa_cons (pe_tup (pa_cons pe_str pa_nil)) (pa_cons (pe_tup (pa_cons pe_str pa_nil)) pa_nil)))) (nomark _)) (pss_one (ps_ret pe_bl)) pss_nil))))))))))))
    (pss_one (ps_ret pe_bl)))), ?_⟩
  refine set_any ?_
  refine ⟨_, rfl, a, ns, rfl, hs, hl, fun t H1 s1 tp => ?_⟩
  refine set_mk (K := K) (k := both) (mk_tup (mk_cons mk_str (mk_cons (mk_tup (mk_cons mk_str (mk_cons (mk_tup (mk_cons mk_str (mk_cons mk_str mk_nil)) (by show 2 ≤ 100; decide)) (mk_cons (mk_tup (mk_cons mk_str (mk_cons mk_int mk_nil)) (by show 2 ≤ 100; decide)) mk_nil))) (by show 3 ≤ 100; decide)) (mk_cons (mk_tup (mk_cons mk_str (mk_cons (mk_tup (mk_cons mk_str (mk_cons mk_str mk_nil)) (by show 2 ≤ 100; decide)) (mk_cons (mk_tup (mk_cons mk_str (mk_cons mk_bl mk_nil)) (by show 2 ≤ 100; decide)) mk_nil))) (by show 3 ≤ 100; decide)) mk_nil))) (by show 3 ≤ 100; decide)) fun vb H2 s2 hvb => ?_
  have tp2 := Tape.same tp s2
  refine ⟨4, rfl, by decide, by decide, ?_⟩
  refine for_range (n := 4) (fun j σ H' => ∃ o3 o4 o5 o6 o7 o8, σ = [some (V.ref a), some (V.ref t), some vb, o3, o4, o5, o6, o7, o8] ∧ Tape H' t (22 * j) ∧ Td K H' vb both) ⟨none, none, none, none, none, none, rfl, tp2, hvb⟩ (fun j σ H' hj z => ?_) fun σ H' z => q _
  obtain ⟨o3, o4, o5, o6, o7, o8, rfl, tp3, hb⟩ := z
  refine set_wrap (K := K) rfl tp3 (by omega) (mk_tup (mk_cons mk_str (mk_cons mk_str (mk_cons (mk_tup (mk_cons mk_str (mk_cons mk_str mk_nil)) (by show 2 ≤ 100; decide)) mk_nil))) (by show 3 ≤ 100; decide)) (by decide) (by decide) fun vo hs H' e tp l5 ho => ?_
  have hb := hb.tt e
  clear e tp3
  refine set_wrap (K := K) rfl tp (by omega) (mk_tup (mk_cons mk_str (mk_cons mk_str (mk_cons (mk_tup (mk_cons mk_str (mk_cons mk_str mk_nil)) (by show 2 ≤ 100; decide)) mk_nil))) (by show 3 ≤ 100; decide)) (by decide) (by decide) fun vm ms H' e tp l3 hm => ?_
  have hb := hb.tt e
  have ho := ho.tt e
  clear e
  have hl5 : hs.length ≤ 5 := by omega
  have hl3 : ms.length ≤ 3 := by omega
  have z1 := sz_wrapR hs
  have z2 := sz_wrapR ms
  refine if_no (tf_or (told_ne (K := K) (k := pLet "h" (wrapR hs) both) (mk_tup (mk_cons mk_str (mk_cons mk_str (mk_cons (mk_var rfl ho) (mk_cons (mk_var rfl hb) mk_nil)))) (by show 4 ≤ 100; decide)) (law1 hl5) (by simp only [szT, szC, szN, szS, szI, szB, both, first, second]; omega) (mk_tup (mk_cons mk_str (mk_cons (mk_tup (mk_cons mk_str mk_nil) (by show 1 ≤ 100; decide)) (mk_cons (mk_tup (mk_cons mk_str mk_nil) (by show 1 ≤ 100; decide)) mk_nil))) (by show 3 ≤ 100; decide)) ((sd_pair (n := 1) sd_int sd_bool).ok (by decide)) (by decide +kernel)) fun H' e => by
    have hb := hb.tt (TT.same e)
    have ho := ho.tt (TT.same e)
    exact (told_ne (K := K) (k := wrapR hs) (mk_var rfl ho) (law2 hl5) (by omega) (mk_tup (mk_cons mk_str (mk_cons (mk_tup (mk_cons mk_str (mk_cons mk_int mk_nil)) (by show 2 ≤ 100; decide)) (mk_cons (mk_tup (mk_cons mk_str (mk_cons mk_int mk_nil)) (by show 2 ≤ 100; decide)) mk_nil))) (by show 3 ≤ 100; decide)) saa (by decide +kernel))) fun H' e => ?_
  have hb := hb.tt (TT.same e)
  have ho := ho.tt (TT.same e)
  have hm := hm.tt (TT.same e)
  have tp := Tape.same tp e
  clear e
  refine if_no (told_ne (K := K) (k := pLet "g" (wrapR ms) (pLet "h" (pCall (pName "g") (wrapR hs)) both)) (mk_tup (mk_cons mk_str (mk_cons mk_str (mk_cons (mk_var rfl hm) (mk_cons (mk_tup (mk_cons mk_str (mk_cons mk_str (mk_cons (mk_tup (mk_cons mk_str (mk_cons (mk_tup (mk_cons mk_str (mk_cons mk_str mk_nil)) (by show 2 ≤ 100; decide)) (mk_cons (mk_var rfl ho) mk_nil))) (by show 3 ≤ 100; decide)) (mk_cons (mk_var rfl hb) mk_nil)))) (by show 4 ≤ 100; decide)) mk_nil)))) (by show 4 ≤ 100; decide)) (law3 hl5 hl3) (by simp only [szT, szC, szN, szS, szI, szB, both, first, second]; omega) (mk_tup (mk_cons mk_str (mk_cons (mk_tup (mk_cons mk_str mk_nil) (by show 1 ≤ 100; decide)) (mk_cons (mk_tup (mk_cons mk_str mk_nil) (by show 1 ≤ 100; decide)) mk_nil))) (by show 3 ≤ 100; decide)) ((sd_pair (n := 1) sd_int sd_bool).ok (by decide)) (by decide +kernel)) fun H' e => ?_
  have hb := hb.tt (TT.same e)
  have ho := ho.tt (TT.same e)
  have hm := hm.tt (TT.same e)
  have tp := Tape.same tp e
  clear e
  refine if_no (tf_or (told_no (K := K) (k := pCall (pFun "h" both) (wrapR hs)) (mk_tup (mk_cons mk_str (mk_cons (mk_tup (mk_cons mk_str (mk_cons mk_str (mk_cons (mk_var rfl hb) mk_nil))) (by show 3 ≤ 100; decide)) (mk_cons (mk_var rfl ho) mk_nil))) (by show 3 ≤ 100; decide)) law4 (by simp only [szT, szC, szN, szS, szI, szB, both, first, second]; omega)) fun H' e => by
    have hb := hb.tt (TT.same e)
    have ho := ho.tt (TT.same e)
    exact (told_no (K := K) (k := pFun "x" (pLet "h" (pCall (wrapR hs) (pName "x")) both)) (mk_tup (mk_cons mk_str (mk_cons mk_str (mk_cons (mk_tup (mk_cons mk_str (mk_cons mk_str (mk_cons (mk_tup (mk_cons mk_str (mk_cons (mk_var rfl ho) (mk_cons (mk_tup (mk_cons mk_str (mk_cons mk_str mk_nil)) (by show 2 ≤ 100; decide)) mk_nil))) (by show 3 ≤ 100; decide)) (mk_cons (mk_var rfl hb) mk_nil)))) (by show 4 ≤ 100; decide)) mk_nil))) (by show 3 ≤ 100; decide)) (law5 hl5) (by simp only [szT, szC, szN, szS, szI, szB, both, first, second]; omega))) fun H' e => ?_
  have hb := hb.tt (TT.same e)
  have ho := ho.tt (TT.same e)
  have hm := hm.tt (TT.same e)
  have tp := Tape.same tp e
  clear e
  refine set_mk (K := K) (k := pFun "x" (pLet "h" (pCall (wrapR hs) (pFun "b" (pName "x"))) both)) (mk_tup (mk_cons mk_str (mk_cons mk_str (mk_cons (mk_tup (mk_cons mk_str (mk_cons mk_str (mk_cons (mk_tup (mk_cons mk_str (mk_cons (mk_var rfl ho) (mk_cons (mk_tup (mk_cons mk_str (mk_cons mk_str (mk_cons (mk_tup (mk_cons mk_str (mk_cons mk_str mk_nil)) (by show 2 ≤ 100; decide)) mk_nil))) (by show 3 ≤ 100; decide)) mk_nil))) (by show 3 ≤ 100; decide)) (mk_cons (mk_var rfl hb) mk_nil)))) (by show 4 ≤ 100; decide)) mk_nil))) (by show 3 ≤ 100; decide)) fun vk H' e hk => ?_
  have hb := hb.tt (TT.same e)
  have ho := ho.tt (TT.same e)
  have hm := hm.tt (TT.same e)
  have tp := Tape.same tp e
  clear e
  refine if_no (told_ne (K := K) (k := pFun "x" (pLet "h" (pCall (wrapR hs) (pFun "b" (pName "x"))) both)) (mk_var rfl hk) (law6 hl5) (by simp only [szT, szC, szN, szS, szI, szB, both, first, second]; omega) (mk_tup (mk_cons mk_str (mk_cons (mk_tup (mk_cons mk_str (mk_cons mk_int mk_nil)) (by show 2 ≤ 100; decide)) (mk_cons (mk_tup (mk_cons mk_str (mk_cons (mk_tup (mk_cons mk_str (mk_cons mk_int mk_nil)) (by show 2 ≤ 100; decide)) (mk_cons (mk_tup (mk_cons mk_str (mk_cons mk_int mk_nil)) (by show 2 ≤ 100; decide)) mk_nil))) (by show 3 ≤ 100; decide)) mk_nil))) (by show 3 ≤ 100; decide)) ((sd_arr (n := 2) sd_v (sd_pair sd_v sd_v)).ok (by decide)) (by decide +kernel)) fun H' e => ?_
  have hb := hb.tt (TT.same e)
  have ho := ho.tt (TT.same e)
  have hm := hm.tt (TT.same e)
  have tp := Tape.same tp e
  clear e
  refine set_mk (K := K) (k := first) (mk_tup (mk_cons mk_str (mk_cons (mk_tup (mk_cons mk_str (mk_cons mk_str mk_nil)) (by show 2 ≤ 100; decide)) (mk_cons (mk_tup (mk_cons mk_str (mk_cons (mk_tup (mk_cons mk_str (mk_cons mk_int mk_nil)) (by show 2 ≤ 100; decide)) (mk_cons (mk_tup (mk_cons mk_str (mk_cons mk_bl mk_nil)) (by show 2 ≤ 100; decide)) mk_nil))) (by show 3 ≤ 100; decide)) mk_nil))) (by show 3 ≤ 100; decide)) fun v1 H' e h1 => ?_
  have hb := hb.tt (TT.same e)
  have ho := ho.tt (TT.same e)
  have hm := hm.tt (TT.same e)
  have tp := Tape.same tp e
  clear e
  refine set_mk (K := K) (k := second) (mk_tup (mk_cons mk_str (mk_cons (mk_tup (mk_cons mk_str (mk_cons mk_str mk_nil)) (by show 2 ≤ 100; decide)) (mk_cons (mk_tup (mk_cons mk_str (mk_cons (mk_tup (mk_cons mk_str (mk_cons mk_bl mk_nil)) (by show 2 ≤ 100; decide)) (mk_cons (mk_tup (mk_cons mk_str (mk_cons mk_int mk_nil)) (by show 2 ≤ 100; decide)) mk_nil))) (by show 3 ≤ 100; decide)) mk_nil))) (by show 3 ≤ 100; decide)) fun v2 H' e h2 => ?_
  have hb := hb.tt (TT.same e)
  have ho := ho.tt (TT.same e)
  have hm := hm.tt (TT.same e)
  have h1 := h1.tt (TT.same e)
  have tp := Tape.same tp e
  clear e
  refine if_last (told_ne (K := K) (k := pLet "f" (pCall (wrapR hs) (pName "fst")) (pPair first second)) (mk_tup (mk_cons mk_str (mk_cons mk_str (mk_cons (mk_tup (mk_cons mk_str (mk_cons (mk_var rfl ho) (mk_cons (mk_tup (mk_cons mk_str (mk_cons mk_str mk_nil)) (by show 2 ≤ 100; decide)) mk_nil))) (by show 3 ≤ 100; decide)) (mk_cons (mk_tup (mk_cons mk_str (mk_cons (mk_var rfl h1) (mk_cons (mk_var rfl h2) mk_nil))) (by show 3 ≤ 100; decide)) mk_nil)))) (by show 4 ≤ 100; decide)) (law7 hl5) (by simp only [szT, szC, szN, szS, szI, szB, both, first, second]; omega) (mk_tup (mk_cons mk_str (mk_cons (mk_tup (mk_cons mk_str mk_nil) (by show 1 ≤ 100; decide)) (mk_cons (mk_tup (mk_cons mk_str mk_nil) (by show 1 ≤ 100; decide)) mk_nil))) (by show 3 ≤ 100; decide)) ((sd_pair (n := 1) sd_int sd_bool).ok (by decide)) (by decide +kernel)) fun H' e => ?_
  have hb := hb.tt (TT.same e)
  have ho := ho.tt (TT.same e)
  have hm := hm.tt (TT.same e)
  have tp := Tape.same tp e
  clear e
  exact ⟨_, _, _, _, _, _, rfl, (by rw [show 22 * (j + 1) = 22 * j + 11 + 11 by omega]; exact tp), hb⟩
end
end W63
/-! the end (printed by gen_end.py) -/
namespace W63
open PySem L2 M63
theorem tupW {K : PySem.W.Frag} {a : Addr} {od : Option Addr} {its : Array Value} {n : Nat} {sl : Array (Option Value)} {xs : List V} (l : K.lookup a = some ⟨.type "tuple", od, .seq its n, sl⟩) (v : L2.Vals xs its.toList) (z : its.size ≤ 100) : SqT K (fun _ => none) a xs :=
  .inr ⟨_, its, n, l, rfl, rfl, Nat.le_trans z (by decide), v⟩
theorem all_mk {l : PySem.W.OpenLaw} {w : World} {K : PySem.W.Frag} {h : Heap} {mg : Str → Option Value} {fa C XN dS dB f0 f1 f2 f3 f4 f5 f6 f7 f8 f9 g0 g1 g2 g3 g4 g5 g6 g7 tI tB t1 t2 t3 t4 t5 t6 t7 t8 t9 t10 t11 t12 t13 t14 t15 : Addr}
    {odm0 anm0 odm1 anm1 odm2 anm2 odm3 anm3 odm4 anm4 odm5 anm5 odm6 anm6 odm7 anm7 odm8 anm8 odm9 anm9 odg0 ang0 odg1 ang1 odg2 ang2 odg3 ang3 odg4 ang4 odg5 ang5 odg6 ang6 odg7 ang7 : Option Addr} {slm0 slm1 slm2 slm3 slm4 slm5 slm6 slm7 slm8 slm9 slg0 slg1 slg2 slg3 slg4 slg5 slg6 slg7 : Array (Option Value)} {ocm0 kVm0 dcm0 pmm0 cdm0 ctm0 ocm1 kVm1 dcm1 pmm1 cdm1 ctm1 ocm2 kVm2 dcm2 pmm2 cdm2 ctm2 ocm3 kVm3 dcm3 pmm3 cdm3 ctm3 ocm4 kVm4 dcm4 pmm4 cdm4 ctm4 ocm5 kVm5 dcm5 pmm5 cdm5 ctm5 ocm6 kVm6 dcm6 pmm6 cdm6 ctm6 ocm7 kVm7 dcm7 pmm7 cdm7 ctm7 ocm8 kVm8 dcm8 pmm8 cdm8 ctm8 ocm9 kVm9 dcm9 pmm9 cdm9 ctm9 ocg0 kVg0 dcg0 pmg0 cdg0 ctg0 ocg1 kVg1 dcg1 pmg1 cdg1 ctg1 ocg2 kVg2 dcg2 pmg2 cdg2 ctg2 ocg3 kVg3 dcg3 pmg3 cdg3 ctg3 ocg4 kVg4 dcg4 pmg4 cdg4 ctg4 ocg5 kVg5 dcg5 pmg5 cdg5 ctg5 ocg6 kVg6 dcg6 pmg6 cdg6 ctg6 ocg7 kVg7 dcg7 pmg7 cdg7 ctg7 : Value}
    {tD tV ts_name ts_number ts_truth ts_fun ts_call ts_let ts_if ts_pair ts_fix : Tok} {esS esB : Array DictEntry} {nS nB ntI ntB nt1 nt2 nt3 nt4 nt5 nt6 nt7 nt8 nt9 nt10 nt11 nt12 nt13 nt14 nt15 : Nat} {itI itB it1 it2 it3 it4 it5 it6 it7 it8 it9 it10 it11 it12 it13 it14 it15 : Array Value} {odtI odtB odt1 odt2 odt3 odt4 odt5 odt6 odt7 odt8 odt9 odt10 odt11 odt12 odt13 odt14 odt15 : Option Addr} {sltI sltB slt1 slt2 slt3 slt4 slt5 slt6 slt7 slt8 slt9 slt10 slt11 slt12 slt13 slt14 slt15 : Array (Option Value)} (X : K.In h) (G : h.Ns mainGlobals mg) (hfa : mg "law" = some (.ref fa))
    (aC : PySem.W.nsIn K mainGlobals "Typer" = some (some (.ref C)))
    (a0 : PySem.W.findIn K (.ref C) "__init__" = some (some (.ref f0)))
    (i0 : PySem.W.isFn K (.ref f0) = true)
    (l0 : K.lookup f0 = some ⟨ocm0, odm0, .func (PySem.W.fnOf "__init__" "Typer.__init__" (defArgs (sMeth 0)) (defBody (sMeth 0)) (defScope (sMeth 0)) .none kVm0 dcm0 pmm0 anm0 cdm0 ctm0), slm0⟩)
    (c0 : PySem.W.codeIn K cdm0 "Typer.__init__" = true)
    (k0 : PySem.W.keepIn K (.ref f0) = true)
    (a1 : PySem.W.findIn K (.ref C) "fresh" = some (some (.ref f1)))
    (i1 : PySem.W.isFn K (.ref f1) = true)
    (l1 : K.lookup f1 = some ⟨ocm1, odm1, .func (PySem.W.fnOf "fresh" "Typer.fresh" (defArgs (sMeth 1)) (defBody (sMeth 1)) (defScope (sMeth 1)) .none kVm1 dcm1 pmm1 anm1 cdm1 ctm1), slm1⟩)
    (c1 : PySem.W.codeIn K cdm1 "Typer.fresh" = true)
    (k1 : PySem.W.keepIn K (.ref f1) = true)
    (a2 : PySem.W.findIn K (.ref C) "resolved" = some (some (.ref f2)))
    (i2 : PySem.W.isFn K (.ref f2) = true)
    (l2 : K.lookup f2 = some ⟨ocm2, odm2, .func (PySem.W.fnOf "resolved" "Typer.resolved" (defArgs (sMeth 2)) (defBody (sMeth 2)) (defScope (sMeth 2)) .none kVm2 dcm2 pmm2 anm2 cdm2 ctm2), slm2⟩)
    (c2 : PySem.W.codeIn K cdm2 "Typer.resolved" = true)
    (k2 : PySem.W.keepIn K (.ref f2) = true)
    (a3 : PySem.W.findIn K (.ref C) "has" = some (some (.ref f3)))
    (i3 : PySem.W.isFn K (.ref f3) = true)
    (l3 : K.lookup f3 = some ⟨ocm3, odm3, .func (PySem.W.fnOf "has" "Typer.has" (defArgs (sMeth 3)) (defBody (sMeth 3)) (defScope (sMeth 3)) .none kVm3 dcm3 pmm3 anm3 cdm3 ctm3), slm3⟩)
    (c3 : PySem.W.codeIn K cdm3 "Typer.has" = true)
    (k3 : PySem.W.keepIn K (.ref f3) = true)
    (a4 : PySem.W.findIn K (.ref C) "make_equal" = some (some (.ref f4)))
    (i4 : PySem.W.isFn K (.ref f4) = true)
    (l4 : K.lookup f4 = some ⟨ocm4, odm4, .func (PySem.W.fnOf "make_equal" "Typer.make_equal" (defArgs (sMeth 4)) (defBody (sMeth 4)) (defScope (sMeth 4)) .none kVm4 dcm4 pmm4 anm4 cdm4 ctm4), slm4⟩)
    (c4 : PySem.W.codeIn K cdm4 "Typer.make_equal" = true)
    (k4 : PySem.W.keepIn K (.ref f4) = true)
    (a5 : PySem.W.findIn K (.ref C) "opened" = some (some (.ref f5)))
    (i5 : PySem.W.isFn K (.ref f5) = true)
    (l5 : K.lookup f5 = some ⟨ocm5, odm5, .func (PySem.W.fnOf "opened" "Typer.opened" (defArgs (sMeth 5)) (defBody (sMeth 5)) (defScope (sMeth 5)) .none kVm5 dcm5 pmm5 anm5 cdm5 ctm5), slm5⟩)
    (c5 : PySem.W.codeIn K cdm5 "Typer.opened" = true)
    (k5 : PySem.W.keepIn K (.ref f5) = true)
    (a6 : PySem.W.findIn K (.ref C) "put_in" = some (some (.ref f6)))
    (i6 : PySem.W.isFn K (.ref f6) = true)
    (l6 : K.lookup f6 = some ⟨ocm6, odm6, .func (PySem.W.fnOf "put_in" "Typer.put_in" (defArgs (sMeth 6)) (defBody (sMeth 6)) (defScope (sMeth 6)) .none kVm6 dcm6 pmm6 anm6 cdm6 ctm6), slm6⟩)
    (c6 : PySem.W.codeIn K cdm6 "Typer.put_in" = true)
    (k6 : PySem.W.keepIn K (.ref f6) = true)
    (a7 : PySem.W.findIn K (.ref C) "closed" = some (some (.ref f7)))
    (i7 : PySem.W.isFn K (.ref f7) = true)
    (l7 : K.lookup f7 = some ⟨ocm7, odm7, .func (PySem.W.fnOf "closed" "Typer.closed" (defArgs (sMeth 7)) (defBody (sMeth 7)) (defScope (sMeth 7)) .none kVm7 dcm7 pmm7 anm7 cdm7 ctm7), slm7⟩)
    (c7 : PySem.W.codeIn K cdm7 "Typer.closed" = true)
    (k7 : PySem.W.keepIn K (.ref f7) = true)
    (a8 : PySem.W.findIn K (.ref C) "infer" = some (some (.ref f8)))
    (i8 : PySem.W.isFn K (.ref f8) = true)
    (l8 : K.lookup f8 = some ⟨ocm8, odm8, .func (PySem.W.fnOf "infer" "Typer.infer" (defArgs (sMeth 8)) (defBody (sMeth 8)) (defScope (sMeth 8)) .none kVm8 dcm8 pmm8 anm8 cdm8 ctm8), slm8⟩)
    (c8 : PySem.W.codeIn K cdm8 "Typer.infer" = true)
    (k8 : PySem.W.keepIn K (.ref f8) = true)
    (a9 : PySem.W.findIn K (.ref C) "with_name" = some (some (.ref f9)))
    (i9 : PySem.W.isFn K (.ref f9) = true)
    (l9 : K.lookup f9 = some ⟨ocm9, odm9, .func (PySem.W.fnOf "with_name" "Typer.with_name" (defArgs (sMeth 9)) (defBody (sMeth 9)) (defScope (sMeth 9)) .none kVm9 dcm9 pmm9 anm9 cdm9 ctm9), slm9⟩)
    (c9 : PySem.W.codeIn K cdm9 "Typer.with_name" = true)
    (k9 : PySem.W.keepIn K (.ref f9) = true)
    (ga0 : PySem.W.nsIn K mainGlobals "variables_of" = some (some (.ref g0)))
    (gl0 : K.lookup g0 = some ⟨ocg0, odg0, .func (PySem.W.fnOf "variables_of" "variables_of" (defArgs (top 11)) (defBody (top 11)) (defScope (top 11)) .none kVg0 dcg0 pmg0 ang0 cdg0 ctg0), slg0⟩)
    (gc0 : PySem.W.codeIn K cdg0 "variables_of" = true)
    (gk0 : PySem.W.keepIn K (.ref g0) = true)
    (ga1 : PySem.W.nsIn K mainGlobals "renumbered" = some (some (.ref g1)))
    (gl1 : K.lookup g1 = some ⟨ocg1, odg1, .func (PySem.W.fnOf "renumbered" "renumbered" (defArgs (top 12)) (defBody (top 12)) (defScope (top 12)) .none kVg1 dcg1 pmg1 ang1 cdg1 ctg1), slg1⟩)
    (gc1 : PySem.W.codeIn K cdg1 "renumbered" = true)
    (gk1 : PySem.W.keepIn K (.ref g1) = true)
    (ga2 : PySem.W.nsIn K mainGlobals "principal" = some (some (.ref g2)))
    (gl2 : K.lookup g2 = some ⟨ocg2, odg2, .func (PySem.W.fnOf "principal" "principal" (defArgs (top 13)) (defBody (top 13)) (defScope (top 13)) .none kVg2 dcg2 pmg2 ang2 cdg2 ctg2), slg2⟩)
    (gc2 : PySem.W.codeIn K cdg2 "principal" = true)
    (gk2 : PySem.W.keepIn K (.ref g2) = true)
    (ga3 : PySem.W.nsIn K mainGlobals "_law_tape" = some (some (.ref g3)))
    (gl3 : K.lookup g3 = some ⟨ocg3, odg3, .func (PySem.W.fnOf "_law_tape" "_law_tape" (defArgs (top 15)) (defBody (top 15)) (defScope (top 15)) .none kVg3 dcg3 pmg3 ang3 cdg3 ctg3), slg3⟩)
    (gc3 : PySem.W.codeIn K cdg3 "_law_tape" = true)
    (gk3 : PySem.W.keepIn K (.ref g3) = true)
    (ga4 : PySem.W.nsIn K mainGlobals "_law_take" = some (some (.ref g4)))
    (gl4 : K.lookup g4 = some ⟨ocg4, odg4, .func (PySem.W.fnOf "_law_take" "_law_take" (defArgs (top 16)) (defBody (top 16)) (defScope (top 16)) .none kVg4 dcg4 pmg4 ang4 cdg4 ctg4), slg4⟩)
    (gc4 : PySem.W.codeIn K cdg4 "_law_take" = true)
    (gk4 : PySem.W.keepIn K (.ref g4) = true)
    (ga5 : PySem.W.nsIn K mainGlobals "_law_wrapped" = some (some (.ref g5)))
    (gl5 : K.lookup g5 = some ⟨ocg5, odg5, .func (PySem.W.fnOf "_law_wrapped" "_law_wrapped" (defArgs (top 20)) (defBody (top 20)) (defScope (top 20)) .none kVg5 dcg5 pmg5 ang5 cdg5 ctg5), slg5⟩)
    (gc5 : PySem.W.codeIn K cdg5 "_law_wrapped" = true)
    (gk5 : PySem.W.keepIn K (.ref g5) = true)
    (ga6 : PySem.W.nsIn K mainGlobals "_law_told" = some (some (.ref g6)))
    (gl6 : K.lookup g6 = some ⟨ocg6, odg6, .func (PySem.W.fnOf "_law_told" "_law_told" (defArgs (top 21)) (defBody (top 21)) (defScope (top 21)) .none kVg6 dcg6 pmg6 ang6 cdg6 ctg6), slg6⟩)
    (gc6 : PySem.W.codeIn K cdg6 "_law_told" = true)
    (gk6 : PySem.W.keepIn K (.ref g6) = true)
    (ga7 : PySem.W.nsIn K mainGlobals "law" = some (some (.ref g7)))
    (gl7 : K.lookup g7 = some ⟨ocg7, odg7, .func (PySem.W.fnOf "law" "law" (defArgs (top 22)) (defBody (top 22)) (defScope (top 22)) .none kVg7 dcg7 pmg7 ang7 cdg7 ctg7), slg7⟩)
    (gc7 : PySem.W.codeIn K cdg7 "law" = true)
    (gk7 : PySem.W.keepIn K (.ref g7) = true)
    (pg : PySem.W.plainGet K C Str.empty = true)
    (hd : PySem.W.hasDictIn K C = true)
    (po : PySem.W.plainOver K C = true)
    (sa : PySem.W.findIn K (.ref C) "__setattr__" = some (some (.builtin "object.__setattr__")))
    (mk : PySem.W.makesIn K C = true)
    (kc : PySem.W.keepIn K (.ref C) = true)
    (nK : PySem.W.findIn K (.ref C) "known" = some none)
    (nM : PySem.W.findIn K (.ref C) "made" = some none)
    (z_tuple : PySem.W.nsIn K mainGlobals "tuple" = some none)
    (z_any : PySem.W.nsIn K mainGlobals "any" = some none)
    (z_len : PySem.W.nsIn K mainGlobals "len" = some none)
    (z_zip : PySem.W.nsIn K mainGlobals "zip" = some none)
    (z_dict : PySem.W.nsIn K mainGlobals "dict" = some none)
    (z_enumerate : PySem.W.nsIn K mainGlobals "enumerate" = some none)
    (z_abs : PySem.W.nsIn K mainGlobals "abs" = some none)
    (z_int : PySem.W.nsIn K mainGlobals "int" = some none)
    (z_range : PySem.W.nsIn K mainGlobals "range" = some none)
    (aN : PySem.W.nsIn K mainGlobals "NoFormula" = some (some (.ref XN)))
    (kN : PySem.W.keepIn K (.ref XN) = true)
    (xN : PySem.W.excIn K XN [.type "ValueError", .type "Exception", .type "BaseException", .type "object"] "ValueError.__new__" = true)
    (bN : PySem.W.subIn K (.ref XN) (.type "BaseException") = some true)
    (tN : PySem.W.typeIn K (.ref XN) = some (.type "type"))
    (iN : PySem.W.isClsIn K XN = true)
    (sN : PySem.W.subIn K (.ref XN) (.ref XN) = some true)
    (vD : PySem.W.nsIn K mainGlobals "MOST_DEPTH" = some (some (.int 60 tD)))
    (vV : PySem.W.nsIn K mainGlobals "BUILTIN_VARIABLES" = some (some (.int 2 tV)))
    (aI : PySem.W.nsIn K mainGlobals "INT" = some (some (.ref tI)))
    (aB : PySem.W.nsIn K mainGlobals "BOOL" = some (some (.ref tB)))
    (aS : PySem.W.nsIn K mainGlobals "SHAPES" = some (some (.ref dS)))
    (lS : K.lookup dS = some ⟨.type "dict", none, .dict esS nS, #[]⟩)
    (kS : PySem.W.KeysLit w.params esS.toList)
    (wS : (dS == sysModules) = false)
    (s_name : PySem.W.nsIn K dS "name" = some (some (.int 2 ts_name)))
    (s_number : PySem.W.nsIn K dS "number" = some (some (.int 2 ts_number)))
    (s_truth : PySem.W.nsIn K dS "truth" = some (some (.int 2 ts_truth)))
    (s_fun : PySem.W.nsIn K dS "fun" = some (some (.int 3 ts_fun)))
    (s_call : PySem.W.nsIn K dS "call" = some (some (.int 3 ts_call)))
    (s_let : PySem.W.nsIn K dS "let" = some (some (.int 4 ts_let)))
    (s_if : PySem.W.nsIn K dS "if" = some (some (.int 4 ts_if)))
    (s_pair : PySem.W.nsIn K dS "pair" = some (some (.int 3 ts_pair)))
    (s_fix : PySem.W.nsIn K dS "fix" = some (some (.int 3 ts_fix)))
    (aBt : PySem.W.nsIn K mainGlobals "BUILTIN" = some (some (.ref dB)))
    (lBt : K.lookup dB = some ⟨.type "dict", none, .dict esB nB, #[]⟩)
    (kBt : PySem.W.KeysLit w.params esB.toList)
    (wB : (dB == sysModules) = false)
    (zB : esB.size = 5)
    (e_add : ∃ en t, esB[0]? = some en ∧ en.key = Value.str "add" t)
    (e_less : ∃ en t, esB[1]? = some en ∧ en.key = Value.str "less" t)
    (e_not : ∃ en t, esB[2]? = some en ∧ en.key = Value.str "not" t)
    (e_fst : ∃ en t, esB[3]? = some en ∧ en.key = Value.str "fst" t)
    (e_snd : ∃ en t, esB[4]? = some en ∧ en.key = Value.str "snd" t)
    (b_add : PySem.W.nsIn K dB "add" = some (some (.ref t1)))
    (b_less : PySem.W.nsIn K dB "less" = some (some (.ref t3)))
    (b_not : PySem.W.nsIn K dB "not" = some (some (.ref t5)))
    (b_fst : PySem.W.nsIn K dB "fst" = some (some (.ref t6)))
    (b_snd : PySem.W.nsIn K dB "snd" = some (some (.ref t11)))
    (ltI : K.lookup tI = some ⟨.type "tuple", odtI, .seq itI ntI, sltI⟩)
    (vtI : L2.Vals [.str "Int"] itI.toList)
    (ztI : itI.size ≤ 100)
    (ltB : K.lookup tB = some ⟨.type "tuple", odtB, .seq itB ntB, sltB⟩)
    (vtB : L2.Vals [.str "Bool"] itB.toList)
    (ztB : itB.size ≤ 100)
    (lt1 : K.lookup t1 = some ⟨.type "tuple", odt1, .seq it1 nt1, slt1⟩)
    (vt1 : L2.Vals [.str "arrow", .ref tI, .ref t2] it1.toList)
    (zt1 : it1.size ≤ 100)
    (lt2 : K.lookup t2 = some ⟨.type "tuple", odt2, .seq it2 nt2, slt2⟩)
    (vt2 : L2.Vals [.str "arrow", .ref tI, .ref tI] it2.toList)
    (zt2 : it2.size ≤ 100)
    (lt3 : K.lookup t3 = some ⟨.type "tuple", odt3, .seq it3 nt3, slt3⟩)
    (vt3 : L2.Vals [.str "arrow", .ref tI, .ref t4] it3.toList)
    (zt3 : it3.size ≤ 100)
    (lt4 : K.lookup t4 = some ⟨.type "tuple", odt4, .seq it4 nt4, slt4⟩)
    (vt4 : L2.Vals [.str "arrow", .ref tI, .ref tB] it4.toList)
    (zt4 : it4.size ≤ 100)
    (lt5 : K.lookup t5 = some ⟨.type "tuple", odt5, .seq it5 nt5, slt5⟩)
    (vt5 : L2.Vals [.str "arrow", .ref tB, .ref tB] it5.toList)
    (zt5 : it5.size ≤ 100)
    (lt6 : K.lookup t6 = some ⟨.type "tuple", odt6, .seq it6 nt6, slt6⟩)
    (vt6 : L2.Vals [.str "arrow", .ref t7, .ref t8] it6.toList)
    (zt6 : it6.size ≤ 100)
    (lt7 : K.lookup t7 = some ⟨.type "tuple", odt7, .seq it7 nt7, slt7⟩)
    (vt7 : L2.Vals [.str "pair", .ref t9, .ref t10] it7.toList)
    (zt7 : it7.size ≤ 100)
    (lt8 : K.lookup t8 = some ⟨.type "tuple", odt8, .seq it8 nt8, slt8⟩)
    (vt8 : L2.Vals [.str "var", .int 0] it8.toList)
    (zt8 : it8.size ≤ 100)
    (lt9 : K.lookup t9 = some ⟨.type "tuple", odt9, .seq it9 nt9, slt9⟩)
    (vt9 : L2.Vals [.str "var", .int 0] it9.toList)
    (zt9 : it9.size ≤ 100)
    (lt10 : K.lookup t10 = some ⟨.type "tuple", odt10, .seq it10 nt10, slt10⟩)
    (vt10 : L2.Vals [.str "var", .int 1] it10.toList)
    (zt10 : it10.size ≤ 100)
    (lt11 : K.lookup t11 = some ⟨.type "tuple", odt11, .seq it11 nt11, slt11⟩)
    (vt11 : L2.Vals [.str "arrow", .ref t12, .ref t13] it11.toList)
    (zt11 : it11.size ≤ 100)
    (lt12 : K.lookup t12 = some ⟨.type "tuple", odt12, .seq it12 nt12, slt12⟩)
    (vt12 : L2.Vals [.str "pair", .ref t14, .ref t15] it12.toList)
    (zt12 : it12.size ≤ 100)
    (lt13 : K.lookup t13 = some ⟨.type "tuple", odt13, .seq it13 nt13, slt13⟩)
    (vt13 : L2.Vals [.str "var", .int 1] it13.toList)
    (zt13 : it13.size ≤ 100)
    (lt14 : K.lookup t14 = some ⟨.type "tuple", odt14, .seq it14 nt14, slt14⟩)
    (vt14 : L2.Vals [.str "var", .int 0] it14.toList)
    (zt14 : it14.size ≤ 100)
    (lt15 : K.lookup t15 = some ⟨.type "tuple", odt15, .seq it15 nt15, slt15⟩)
    (vt15 : L2.Vals [.str "var", .int 1] it15.toList)
    (zt15 : it15.size ≤ 100) :
    ∃ fd : FuncData, (∀ (s : Shared) (v : Value), BindsTo s fd ⟨[v], []⟩ [("script", v)]) ∧ ∀ base : Heap, K.In base → base.Ns mainGlobals mg → FnOk l.prog w K mg base CX0 155 fa fd ["script"] (spLaw K) := by
  have e := hfa.symm.trans (PySem.W.mg_of X G ga7)
  cases e
  have F0 := fun_mk (st := sMeth 0) l0 c0 k0
  have B0 := F0.binds (ps := ["self"]) fun _ _ _ _ _ _ us hl => match us, hl with | [_], _ => rfl
  have F1 := fun_mk (st := sMeth 1) l1 c1 k1
  have B1 := F1.binds (ps := ["self"]) fun _ _ _ _ _ _ us hl => match us, hl with | [_], _ => rfl
  have F2 := fun_mk (st := sMeth 2) l2 c2 k2
  have B2 := F2.binds (ps := ["self", "kind"]) fun _ _ _ _ _ _ us hl => match us, hl with | [_, _], _ => rfl
  have F3 := fun_mk (st := sMeth 3) l3 c3 k3
  have B3 := F3.binds (ps := ["self", "kind", "number"]) fun _ _ _ _ _ _ us hl => match us, hl with | [_, _, _], _ => rfl
  have F4 := fun_mk (st := sMeth 4) l4 c4 k4
  have B4 := F4.binds (ps := ["self", "first", "second"]) fun _ _ _ _ _ _ us hl => match us, hl with | [_, _, _], _ => rfl
  have F5 := fun_mk (st := sMeth 5) l5 c5 k5
  have B5 := F5.binds (ps := ["self", "scheme"]) fun _ _ _ _ _ _ us hl => match us, hl with | [_, _], _ => rfl
  have F6 := fun_mk (st := sMeth 6) l6 c6 k6
  have B6 := F6.binds (ps := ["self", "kind", "names"]) fun _ _ _ _ _ _ us hl => match us, hl with | [_, _, _], _ => rfl
  have F7 := fun_mk (st := sMeth 7) l7 c7 k7
  have B7 := F7.binds (ps := ["self", "kind", "scope"]) fun _ _ _ _ _ _ us hl => match us, hl with | [_, _, _], _ => rfl
  have F8 := fun_mk (st := sMeth 8) l8 c8 k8
  have B8 := F8.binds (ps := ["self", "program", "scope", "left"]) fun _ _ _ _ _ _ us hl => match us, hl with | [_, _, _, _], _ => rfl
  have F9 := fun_mk (st := sMeth 9) l9 c9 k9
  have B9 := F9.binds (ps := ["self", "scope", "name", "scheme"]) fun _ _ _ _ _ _ us hl => match us, hl with | [_, _, _, _], _ => rfl
  have H0 := fun_mk (st := top 11) gl0 gc0 gk0
  have D0 := H0.binds (ps := ["kind"]) fun _ _ _ _ _ _ us hl => match us, hl with | [_], _ => rfl
  have H1 := fun_mk (st := top 12) gl1 gc1 gk1
  have D1 := H1.binds (ps := ["kind"]) fun _ _ _ _ _ _ us hl => match us, hl with | [_], _ => rfl
  have H2 := fun_mk (st := top 13) gl2 gc2 gk2
  have D2 := H2.binds (ps := ["program"]) fun _ _ _ _ _ _ us hl => match us, hl with | [_], _ => rfl
  have H3 := fun_mk (st := top 15) gl3 gc3 gk3
  have D3 := H3.binds (ps := ["script"]) fun _ _ _ _ _ _ us hl => match us, hl with | [_], _ => rfl
  have H4 := fun_mk (st := top 16) gl4 gc4 gk4
  have D4 := H4.binds (ps := ["tape", "many"]) fun _ _ _ _ _ _ us hl => match us, hl with | [_, _], _ => rfl
  have H5 := fun_mk (st := top 20) gl5 gc5 gk5
  have D5 := H5.binds (ps := ["tape", "p", "many"]) fun _ _ _ _ _ _ us hl => match us, hl with | [_, _, _], _ => rfl
  have H6 := fun_mk (st := top 21) gl6 gc6 gk6
  have D6 := H6.binds (ps := ["p"]) fun _ _ _ _ _ _ us hl => match us, hl with | [_], _ => rfl
  have H7 := fun_mk (st := top 22) gl7 gc7 gk7
  have D7 := H7.binds (ps := ["script"]) fun _ _ _ _ _ _ us hl => match us, hl with | [_], _ => rfl
  have T : Txt K mg C := ⟨⟨pg, hd, po, sa⟩, nK, nM, (PySem.W.mg_none_of X G z_tuple), (PySem.W.mg_none_of X G z_any)⟩
  have N : NoFX K mg XN := ⟨⟨(PySem.W.mg_of X G aN), kN, xN, bN, tN⟩, iN, sN⟩
  have TL : TxtL mg := ⟨(PySem.W.mg_none_of X G z_abs), (PySem.W.mg_none_of X G z_int), (PySem.W.mg_none_of X G z_len), (PySem.W.mg_none_of X G z_range)⟩
  have qI := tupW ltI vtI ztI
  have qB := tupW ltB vtB ztB
  have q1 := tupW lt1 vt1 zt1
  have q2 := tupW lt2 vt2 zt2
  have q3 := tupW lt3 vt3 zt3
  have q4 := tupW lt4 vt4 zt4
  have q5 := tupW lt5 vt5 zt5
  have q6 := tupW lt6 vt6 zt6
  have q7 := tupW lt7 vt7 zt7
  have q8 := tupW lt8 vt8 zt8
  have q9 := tupW lt9 vt9 zt9
  have q10 := tupW lt10 vt10 zt10
  have q11 := tupW lt11 vt11 zt11
  have q12 := tupW lt12 vt12 zt12
  have q13 := tupW lt13 vt13 zt13
  have q14 := tupW lt14 vt14 zt14
  have q15 := tupW lt15 vt15 zt15
  have W : WrS K w mg tI tB dS := by
    refine ⟨(PySem.W.mg_of X G aI), (PySem.W.mg_of X G aB), qI, qB, (PySem.W.mg_of X G aS), wS, ⟨_, lS, rfl, rfl⟩, fun x j hx => ?_⟩
    have hh : ∀ {y : Str} {i : Int} {t : Tok}, PySem.W.nsIn K dS y = some (some (.int i t)) → KDct K w dS y (.int i) := fun h => ⟨esS, nS, _, lS, kS, h, ⟨_, rfl⟩⟩
    unfold shape at hx
    by_cases h_name : x = "name"
    · rw [if_pos h_name] at hx
      cases hx
      rw [h_name]
      exact hh s_name
    rw [if_neg h_name] at hx
    by_cases h_number : x = "number"
    · rw [if_pos h_number] at hx
      cases hx
      rw [h_number]
      exact hh s_number
    rw [if_neg h_number] at hx
    by_cases h_truth : x = "truth"
    · rw [if_pos h_truth] at hx
      cases hx
      rw [h_truth]
      exact hh s_truth
    rw [if_neg h_truth] at hx
    by_cases h_fun : x = "fun"
    · rw [if_pos h_fun] at hx
      cases hx
      rw [h_fun]
      exact hh s_fun
    rw [if_neg h_fun] at hx
    by_cases h_call : x = "call"
    · rw [if_pos h_call] at hx
      cases hx
      rw [h_call]
      exact hh s_call
    rw [if_neg h_call] at hx
    by_cases h_let : x = "let"
    · rw [if_pos h_let] at hx
      cases hx
      rw [h_let]
      exact hh s_let
    rw [if_neg h_let] at hx
    by_cases h_if : x = "if"
    · rw [if_pos h_if] at hx
      cases hx
      rw [h_if]
      exact hh s_if
    rw [if_neg h_if] at hx
    by_cases h_pair : x = "pair"
    · rw [if_pos h_pair] at hx
      cases hx
      rw [h_pair]
      exact hh s_pair
    rw [if_neg h_pair] at hx
    by_cases h_fix : x = "fix"
    · rw [if_pos h_fix] at hx
      cases hx
      rw [h_fix]
      exact hh s_fix
    rw [if_neg h_fix] at hx
    cases hx
  have WB : WrB K w mg dB := by
    refine ⟨(PySem.W.mg_of X G aBt), ⟨wB, _, esB, nB, lBt, ⟨rfl, rfl, rfl⟩, rfl, zB, fun i k hk => ?_⟩, fun i x s hx => ?_⟩
    · match i, hk with
      | 0, h => cases h; exact e_add
      | 1, h => cases h; exact e_less
      | 2, h => cases h; exact e_not
      | 3, h => cases h; exact e_fst
      | 4, h => cases h; exact e_snd
      | i + 5, h => simp at h
    · have hh : ∀ {y : Str} {b : Addr}, PySem.W.nsIn K dB y = some (some (.ref b)) → KDct K w dB y (.ref b) := fun h => ⟨esB, nB, _, lBt, kBt, h, rfl⟩
      match i, hx with
      | 0, h => cases h; exact ⟨t1, _, _, hh b_add, rfl, fun H => .tup (.inr q1) (.cons (.str _) (.cons (.tup (.inr qI) (.cons (.str _) .nil)) (.cons (.tup (.inr q2) (.cons (.str _) (.cons (.tup (.inr qI) (.cons (.str _) .nil)) (.cons (.tup (.inr qI) (.cons (.str _) .nil)) .nil)))) .nil))), w0i⟩
      | 1, h => cases h; exact ⟨t3, _, _, hh b_less, rfl, fun H => .tup (.inr q3) (.cons (.str _) (.cons (.tup (.inr qI) (.cons (.str _) .nil)) (.cons (.tup (.inr q4) (.cons (.str _) (.cons (.tup (.inr qI) (.cons (.str _) .nil)) (.cons (.tup (.inr qB) (.cons (.str _) .nil)) .nil)))) .nil))), w0b⟩
      | 2, h => cases h; exact ⟨t5, _, _, hh b_not, rfl, fun H => .tup (.inr q5) (.cons (.str _) (.cons (.tup (.inr qB) (.cons (.str _) .nil)) (.cons (.tup (.inr qB) (.cons (.str _) .nil)) .nil))), w0n⟩
      | 3, h => cases h; exact ⟨t6, _, _, hh b_fst, rfl, fun H => .tup (.inr q6) (.cons (.str _) (.cons (.tup (.inr q7) (.cons (.str _) (.cons (.tup (.inr q9) (.cons (.str _) (.cons (.int _) .nil))) (.cons (.tup (.inr q10) (.cons (.str _) (.cons (.int _) .nil))) .nil)))) (.cons (.tup (.inr q8) (.cons (.str _) (.cons (.int _) .nil))) .nil))), w0f⟩
      | 4, h => cases h; exact ⟨t11, _, _, hh b_snd, rfl, fun H => .tup (.inr q11) (.cons (.str _) (.cons (.tup (.inr q12) (.cons (.str _) (.cons (.tup (.inr q14) (.cons (.str _) (.cons (.int _) .nil))) (.cons (.tup (.inr q15) (.cons (.str _) (.cons (.int _) .nil))) .nil)))) (.cons (.tup (.inr q13) (.cons (.str _) (.cons (.int _) .nil))) .nil))), w0s⟩
      | i + 5, h => simp [scope0] at h
  refine ⟨PySem.W.fnOf "law" "law" (defArgs (top 22)) (defBody (top 22)) (defScope (top 22)) .none kVg7 dcg7 pmg7 ang7 cdg7 ctg7, fun s v => .of_eq rfl, fun base _ _ => ?_⟩
  have MR : Mt l.prog w K mg base CX0 C 100 "resolved" ["self", "kind"] (spRes K C 100) f2 _ := ⟨⟨a2, i2, k2⟩, B2, ok_res F2 T ⟨a2, i2, k2⟩ B2 100⟩
  have MH : Mt l.prog w K mg base CX0 C 100 "has" ["self", "kind", "number"] (spHas K C 100) f3 _ := ⟨⟨a3, i3, k3⟩, B3, ok_has F3 T ⟨a3, i3, k3⟩ B3 100⟩
  have MP : Mt l.prog w K mg base CX0 C 100 "put_in" ["self", "kind", "names"] (spPut K C 100) f6 _ := ⟨⟨a6, i6, k6⟩, B6, ok_put F6 T ⟨a6, i6, k6⟩ B6 100⟩
  have MF : Mt l.prog w K mg base CX0 C 1 "fresh" ["self"] (spFresh K C) f1 _ := ⟨⟨a1, i1, k1⟩, B1, ok_fresh F1 T⟩
  have GV : FnOk l.prog w K mg base CX0 100 g0 _ ["kind"] (spVars K 100) := ok_vars H0 (PySem.W.mg_of X G ga0) gk0 D0 100
  have ME : Mt l.prog w K mg base (L2.CX l.prog w) C 112 "make_equal" ["self", "first", "second"] (spEq K C XN 12) f4 _ := ⟨⟨a4, i4, k4⟩, B4, ok_eq F4 T N.toNoF (PySem.W.mg_none_of X G z_zip) ⟨a4, i4, k4⟩ B4 MR MH 12⟩
  have MO : Mt l.prog w K mg base CX0 C 101 "opened" ["self", "scheme"] (spOpn K C) f5 _ := ⟨⟨a5, i5, k5⟩, B5, ok_opn F5 T MF MP⟩
  have MC : Mt l.prog w K mg base CX0 C 101 "closed" ["self", "kind", "scope"] (spClsN K C) f7 _ := ⟨⟨a7, i7, k7⟩, B7, ok_cls F7 T MR (PySem.W.mg_of X G ga0) gk0 D0 GV⟩
  have MW : Mt l.prog w K mg base CX0 C 1 "with_name" ["self", "scope", "name", "scheme"] (spWith K) f9 _ := ⟨⟨a9, i9, k9⟩, B9, ok_with F9 (PySem.W.mg_none_of X G z_dict)⟩
  have MN : Mt l.prog w K mg base (L2.CX l.prog w) C 152 "infer" ["self", "program", "scope", "left"] (spInf K C XN 40) f8 _ := ⟨⟨a8, i8, k8⟩, B8, ok_inf F8 T N.toNoF W (PySem.W.mg_none_of X G z_len) ⟨a8, i8, k8⟩ B8 ME MO MC MF MW 40⟩
  have GI : FnOk l.prog w K mg base CX0 1 f0 _ ["self"] (spInit K C) := ok_init F0 T (PySem.W.mg_of X G vV)
  have MK : Mk K C f0 := ⟨mk, a0, i0, kc⟩
  have GR := ok_ren (P := l.prog) (w := w) (base := base) H1 T (PySem.W.mg_none_of X G z_enumerate) (PySem.W.mg_of X G aC) MK GI B0 MP (PySem.W.mg_of X G ga0) gk0 D0 GV
  have GP := ok_prin (P := l.prog) (w := w) (base := base) H2 T WB (PySem.W.mg_of X G vD) (PySem.W.mg_of X G aC) MK GI B0 MR MN (PySem.W.mg_of X G ga0) gk0 D0 GV (PySem.W.mg_of X G ga1) gk1 D1 GR
  have GK := ok_take (P := l.prog) (w := w) (K := K) (base := base) H4 TL
  exact ok_law H7 TL (PySem.W.mg_of X G ga3) gk3 D3 (ok_tape H3 TL) (PySem.W.mg_of X G ga4) gk4 D4 GK (PySem.W.mg_of X G ga5) gk5 D5 (ok_wrap H5 TL (PySem.W.mg_of X G ga4) gk4 D4 GK) (PySem.W.mg_of X G ga6) gk6 D6 (ok_told H6 N (PySem.W.mg_of X G ga2) gk2 D2 GP)
theorem walk {l : PySem.W.OpenLaw} {q : Program} {loose : List Str} {XP : (Str → Option Value) → Heap → Prop} {YP : World → Heap → Prop} {d : DefRec} {K : Params → PySem.W.Frag} (hn : l.most = some 63) (hdf : d.params.defaults = [])
    (hY : ∀ (w : World) (h : Heap), YP w h → (K w.params).In h)
    (F : ∀ (w : World) (mg : Str → Option Value) (fa : Addr) (h : Heap), (K w.params).In h → h.Ns mainGlobals mg → mg d.name = some (.ref fa) →
      ∃ fd : FuncData, (∀ (s : Shared) (u : Value), BindsTo s fd ⟨[u], []⟩ [("script", u)]) ∧ ∀ base : Heap, (K w.params).In base → base.Ns mainGlobals mg → FnOk l.prog w (K w.params) mg base CX0 155 fa fd ["script"] (spLaw (K w.params))) :
    PySem.W.WalkO q loose XP YP l.row.toRowW d [] (fun f vs => PySem.call f vs) :=
  L2.walk_of (n := 63) (k := 155) (x := "script") (CX := fun _ => CX0) (sp := fun w => spLaw (K w.params)) hn (by decide) hdf ⟨rfl, by decide, by decide⟩ hY F (fun _ _ a ns hl _ hS => ⟨a, ns, rfl, hS, hl, fun _ => rfl⟩) fun _ _ _ _ _ z => z
end W63
open PySem PySem.W PyProof.Rows
set_option maxRecDepth 100000 in
set_option maxHeartbeats 0 in
theorem PySem.Challenge.cw_proofhouse_k63_whole_lets_stand_for_all_holds : PySem.Challenge.rw_proofhouse_k63_whole_lets_stand_for_all.Holds := by
  w_on; o_law; k_head; (case hw => w_witness2)
  k_fill
  refine W63.walk (l := PySem.Challenge.rw_proofhouse_k63_whole_lets_stand_for_all) rfl rfl (fun w h Y => PySem.W.kIn_of Y) ?F
  case F =>
    intro w mg fa h KX G hmg
    refine' W63.all_mk KX G hmg ?aC ?a0 ?i0 ?l0 ?c0 ?k0 ?a1 ?i1 ?l1 ?c1 ?k1 ?a2 ?i2 ?l2 ?c2 ?k2 ?a3 ?i3 ?l3 ?c3 ?k3 ?a4 ?i4 ?l4 ?c4 ?k4 ?a5 ?i5 ?l5 ?c5 ?k5 ?a6 ?i6 ?l6 ?c6 ?k6 ?a7 ?i7 ?l7 ?c7 ?k7 ?a8 ?i8 ?l8 ?c8 ?k8 ?a9 ?i9 ?l9 ?c9 ?k9 ?ga0 ?gl0 ?gc0 ?gk0 ?ga1 ?gl1 ?gc1 ?gk1 ?ga2 ?gl2 ?gc2 ?gk2 ?ga3 ?gl3 ?gc3 ?gk3 ?ga4 ?gl4 ?gc4 ?gk4 ?ga5 ?gl5 ?gc5 ?gk5 ?ga6 ?gl6 ?gc6 ?gk6 ?ga7 ?gl7 ?gc7 ?gk7 ?pg ?hd ?po ?sa ?mk ?kc ?nK ?nM ?z_tuple ?z_any ?z_len ?z_zip ?z_dict ?z_enumerate ?z_abs ?z_int ?z_range ?aN ?kN ?xN ?bN ?tN ?iN ?sN ?vD ?vV ?aI ?aB ?aS ?lS ?kS ?wS ?s_name ?s_number ?s_truth ?s_fun ?s_call ?s_let ?s_if ?s_pair ?s_fix ?aBt ?lBt ?kBt ?wB ?zB ?e_add ?e_less ?e_not ?e_fst ?e_snd ?b_add ?b_less ?b_not ?b_fst ?b_snd ?ltI ?vtI ?ztI ?ltB ?vtB ?ztB ?lt1 ?vt1 ?zt1 ?lt2 ?vt2 ?zt2 ?lt3 ?vt3 ?zt3 ?lt4 ?vt4 ?zt4 ?lt5 ?vt5 ?zt5 ?lt6 ?vt6 ?zt6 ?lt7 ?vt7 ?zt7 ?lt8 ?vt8 ?zt8 ?lt9 ?vt9 ?zt9 ?lt10 ?vt10 ?zt10 ?lt11 ?vt11 ?zt11 ?lt12 ?vt12 ?zt12 ?lt13 ?vt13 ?zt13 ?lt14 ?vt14 ?zt14 ?lt15 ?vt15 ?zt15
    (case aC => k_is)
    (case a0 => k_is)
    (case i0 => k_is)
    (case l0 => k_is)
    (case c0 => k_is)
    (case k0 => k_is)
    (case a1 => k_is)
    (case i1 => k_is)
    (case l1 => k_is)
    (case c1 => k_is)
    (case k1 => k_is)
    (case a2 => k_is)
    (case i2 => k_is)
    (case l2 => k_is)
    (case c2 => k_is)
    (case k2 => k_is)
    (case a3 => k_is)
    (case i3 => k_is)
    (case l3 => k_is)
    (case c3 => k_is)
    (case k3 => k_is)
    (case a4 => k_is)
    (case i4 => k_is)
    (case l4 => k_is)
    (case c4 => k_is)
    (case k4 => k_is)
    (case a5 => k_is)
    (case i5 => k_is)
    (case l5 => k_is)
    (case c5 => k_is)
    (case k5 => k_is)
    (case a6 => k_is)
    (case i6 => k_is)
    (case l6 => k_is)
    (case c6 => k_is)
    (case k6 => k_is)
    (case a7 => k_is)
    (case i7 => k_is)
    (case l7 => k_is)
    (case c7 => k_is)
    (case k7 => k_is)
    (case a8 => k_is)
    (case i8 => k_is)
    (case l8 => k_is)
    (case c8 => k_is)
    (case k8 => k_is)
    (case a9 => k_is)
    (case i9 => k_is)
    (case l9 => k_is)
    (case c9 => k_is)
    (case k9 => k_is)
    (case ga0 => k_is)
    (case gl0 => k_is)
    (case gc0 => k_is)
    (case gk0 => k_is)
    (case ga1 => k_is)
    (case gl1 => k_is)
    (case gc1 => k_is)
    (case gk1 => k_is)
    (case ga2 => k_is)
    (case gl2 => k_is)
    (case gc2 => k_is)
    (case gk2 => k_is)
    (case ga3 => k_is)
    (case gl3 => k_is)
    (case gc3 => k_is)
    (case gk3 => k_is)
    (case ga4 => k_is)
    (case gl4 => k_is)
    (case gc4 => k_is)
    (case gk4 => k_is)
    (case ga5 => k_is)
    (case gl5 => k_is)
    (case gc5 => k_is)
    (case gk5 => k_is)
    (case ga6 => k_is)
    (case gl6 => k_is)
    (case gc6 => k_is)
    (case gk6 => k_is)
    (case ga7 => k_is)
    (case gl7 => k_is)
    (case gc7 => k_is)
    (case gk7 => k_is)
    (case pg => k_is)
    (case hd => k_is)
    (case po => k_is)
    (case sa => k_is)
    (case mk => k_is)
    (case kc => k_is)
    (case nK => k_is)
    (case nM => k_is)
    (case z_tuple => k_is)
    (case z_any => k_is)
    (case z_len => k_is)
    (case z_zip => k_is)
    (case z_dict => k_is)
    (case z_enumerate => k_is)
    (case z_abs => k_is)
    (case z_int => k_is)
    (case z_range => k_is)
    (case aN => k_is)
    (case kN => k_is)
    (case xN => first | k_exc | k_is)
    (case bN => k_is)
    (case tN => k_is)
    (case iN => k_is)
    (case sN => k_is)
    (case vD => k_is)
    (case vV => k_is)
    (case aI => k_is)
    (case aB => k_is)
    (case aS => k_is)
    (case lS => k_is)
    (case kS => exact ⟨⟨_, _, rfl, rfl⟩, ⟨_, _, rfl, rfl⟩, ⟨_, _, rfl, rfl⟩, ⟨_, _, rfl, rfl⟩, ⟨_, _, rfl, rfl⟩, ⟨_, _, rfl, rfl⟩, ⟨_, _, rfl, rfl⟩, ⟨_, _, rfl, rfl⟩, ⟨_, _, rfl, rfl⟩, trivial⟩)
    (case wS => decide)
    (case s_name => k_is)
    (case s_number => k_is)
    (case s_truth => k_is)
    (case s_fun => k_is)
    (case s_call => k_is)
    (case s_let => k_is)
    (case s_if => k_is)
    (case s_pair => k_is)
    (case s_fix => k_is)
    (case aBt => k_is)
    (case lBt => k_is)
    (case kBt => exact ⟨⟨_, _, rfl, rfl⟩, ⟨_, _, rfl, rfl⟩, ⟨_, _, rfl, rfl⟩, ⟨_, _, rfl, rfl⟩, ⟨_, _, rfl, rfl⟩, trivial⟩)
    (case wB => decide)
    (case zB => rfl)
    (case e_add => exact ⟨_, _, rfl, rfl⟩)
    (case e_less => exact ⟨_, _, rfl, rfl⟩)
    (case e_not => exact ⟨_, _, rfl, rfl⟩)
    (case e_fst => exact ⟨_, _, rfl, rfl⟩)
    (case e_snd => exact ⟨_, _, rfl, rfl⟩)
    (case b_add => k_is)
    (case b_less => k_is)
    (case b_not => k_is)
    (case b_fst => k_is)
    (case b_snd => k_is)
    (case ltI => k_is)
    (case vtI => exact .cons ⟨_, rfl⟩ .nil)
    (case ztI => decide)
    (case ltB => k_is)
    (case vtB => exact .cons ⟨_, rfl⟩ .nil)
    (case ztB => decide)
    (case lt1 => k_is)
    (case vt1 => exact .cons ⟨_, rfl⟩ (.cons rfl (.cons rfl .nil)))
    (case zt1 => decide)
    (case lt2 => k_is)
    (case vt2 => exact .cons ⟨_, rfl⟩ (.cons rfl (.cons rfl .nil)))
    (case zt2 => decide)
    (case lt3 => k_is)
    (case vt3 => exact .cons ⟨_, rfl⟩ (.cons rfl (.cons rfl .nil)))
    (case zt3 => decide)
    (case lt4 => k_is)
    (case vt4 => exact .cons ⟨_, rfl⟩ (.cons rfl (.cons rfl .nil)))
    (case zt4 => decide)
    (case lt5 => k_is)
    (case vt5 => exact .cons ⟨_, rfl⟩ (.cons rfl (.cons rfl .nil)))
    (case zt5 => decide)
    (case lt6 => k_is)
    (case vt6 => exact .cons ⟨_, rfl⟩ (.cons rfl (.cons rfl .nil)))
    (case zt6 => decide)
    (case lt7 => k_is)
    (case vt7 => exact .cons ⟨_, rfl⟩ (.cons rfl (.cons rfl .nil)))
    (case zt7 => decide)
    (case lt8 => k_is)
    (case vt8 => exact .cons ⟨_, rfl⟩ (.cons ⟨_, rfl⟩ .nil))
    (case zt8 => decide)
    (case lt9 => k_is)
    (case vt9 => exact .cons ⟨_, rfl⟩ (.cons ⟨_, rfl⟩ .nil))
    (case zt9 => decide)
    (case lt10 => k_is)
    (case vt10 => exact .cons ⟨_, rfl⟩ (.cons ⟨_, rfl⟩ .nil))
    (case zt10 => decide)
    (case lt11 => k_is)
    (case vt11 => exact .cons ⟨_, rfl⟩ (.cons rfl (.cons rfl .nil)))
    (case zt11 => decide)
    (case lt12 => k_is)
    (case vt12 => exact .cons ⟨_, rfl⟩ (.cons rfl (.cons rfl .nil)))
    (case zt12 => decide)
    (case lt13 => k_is)
    (case vt13 => exact .cons ⟨_, rfl⟩ (.cons ⟨_, rfl⟩ .nil))
    (case zt13 => decide)
    (case lt14 => k_is)
    (case vt14 => exact .cons ⟨_, rfl⟩ (.cons ⟨_, rfl⟩ .nil))
    (case zt14 => decide)
    (case lt15 => k_is)
    (case vt15 => exact .cons ⟨_, rfl⟩ (.cons ⟨_, rfl⟩ .nil))
    (case zt15 => decide)
