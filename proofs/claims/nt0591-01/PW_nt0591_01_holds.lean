import PyProof.Rows.All
import Wide.All
import OpenK.AllK
import Wide.FinOn
import Lean
import PySem.Challenge.RW_nt0591_01
set_option Elab.async false
set_option linter.all false

section
set_option genSizeOf false
set_option maxRecDepth 100000
namespace Nt

/-- values of the small language: tuples, and lists that nobody changes, are values -/
inductive V where
  | none | bool (b : Bool) | int (i : Int) | str (s : List Nat) | tup (vs : List V) | lst (vs : List V) | ref (n : Nat)

inductive O where
  | list (vs : List V) | dict (kvs : List (List Nat × V))

structure St where
  loc : List (Option V)
  heap : List O

inductive Op2 where
  | add | sub | mod | fdiv
inductive Cmp where
  | eq | ne | lt | le | gt | ge | isIn | notIn

set_option genInjectivity false in
inductive E where
  | loc (i : Nat)
  | none
  | bool (b : Bool)
  | int (i : Nat)
  | neg (i : Nat)
  | str (s : List Nat)
  | op (o : Op2) (a b : E)
  | cmp (c : Cmp) (a b : E)
  | between (a b c : E)
  | and (a b : E)
  | or (a b : E)
  | ifx (c a b : E)
  | nil
  | cons (a b : E)
  | tup (es : E)
  | list (es : E)
  | flist (es : E)
  | dict (ks : List (List Nat)) (es : E)
  | call (f : Nat) (es : E)
  | len (a : E)
  | ord (a : E)
  | idx (a i : E)
  | slice (a lo hi : E)
  | sliceFrom (a lo : E)
  | sliceTo (a hi : E)
  | append (a x : E)
  | pop (a : E)
  | endswith (a x : E)
  | replace (a : E) (x y : List Nat)

set_option genInjectivity false in
inductive S where
  | skip
  | cont
  | seq (a b : S)
  | assign (i : Nat) (e : E)
  | unpack (is : List Nat) (e : E)
  | aug (i : Nat) (e : E)
  | setItem (o k e : E)
  | expr (e : E)
  | ret (e : E)
  | raise (w : List Nat)
  | ite (c : E) (a b : S)
  | while (c : E) (b : S)
  | forRange (i : Nat) (e : E) (b : S)
  | forList (i : Nat) (e : E) (b : S)

inductive Fl where
  | next | cont | ret (v : V)

noncomputable abbrev Res (α : Type) := Option (Except (List Nat) α × St)
noncomputable abbrev CRes := Option (Except (List Nat) V × List O)
noncomputable abbrev Calls := Nat → List V → List O → CRes

noncomputable def bd {α β : Type} (m : Res α) (f : α → St → Res β) : Res β :=
  match m with
  | some (.ok a, st) => f a st
  | some (.error w, st) => some (.error w, st)
  | Option.none => Option.none

noncomputable def ok {α : Type} (a : α) (st : St) : Res α := some (.ok a, st)

noncomputable def St.put (st : St) (i : Nat) (v : V) : St := ⟨st.loc.set i (some v), st.heap⟩
noncomputable def St.putAll (st : St) : List Nat → List V → St
  | i :: is, v :: vs => (st.put i v).putAll is vs
  | _, _ => st

noncomputable def lim : Nat := 16777216

noncomputable def pick {α : Type} (xs : List α) (k : Int) : Option α :=
  if 0 ≤ k then xs[k.toNat]? else if -(xs.length : Int) ≤ k then xs[(k + xs.length).toNat]? else Option.none

noncomputable def lexLe : List Nat → List Nat → Bool
  | [], _ => true
  | _ :: _, [] => false
  | a :: as, b :: bs => if a < b then true else if b < a then false else lexLe as bs

noncomputable def strsOf : List V → Option (List (List Nat))
  | [] => some []
  | .str s :: r => (strsOf r).map (s :: ·)
  | _ => Option.none
noncomputable def intsOf : List V → Option (List Int)
  | [] => some []
  | .int s :: r => (intsOf r).map (s :: ·)
  | _ => Option.none

/-- the same data, read through the heap; false says nothing -/
noncomputable def sameAll (f : V → V → Bool) : List V → List V → Bool
  | [], [] => true
  | a :: as, b :: bs => f a b && sameAll f as bs
  | _, _ => false
noncomputable def sameF (h : List O) : Nat → V → V → Bool
  | 0, _, _ => false
  | n + 1, a, b => match a, b with
    | .none, .none => true
    | .str a, .str b => a == b
    | .int a, .int b => a == b
    | .tup as, .tup bs => sameAll (sameF h n) as bs
    | .ref i, .ref j => match h[i]?, h[j]? with
      | some (.list as), some (.list bs) => sameAll (sameF h n) as bs
      | _, _ => false
    | _, _ => false
noncomputable def same (h : List O) : Nat → V → V → Bool
  | 0, _, _ => false
  | n + 1, a, b => match a, b with
    | .none, .none => true
    | .str a, .str b => a == b
    | .int a, .int b => a == b
    | .tup as, .tup bs => sameAll (same h n) as bs
    | .ref i, .ref j => match h[i]?, h[j]? with
      | some (.list as), some (.list bs) => sameAll (same h n) as bs
      | some (.dict as), some (.dict bs) => as.map (·.1) == bs.map (·.1) && sameAll (sameF h n) (as.map (·.2)) (bs.map (·.2))
      | _, _ => false
    | _, _ => false

noncomputable def eqV (h : List O) (a b : V) : Option Bool :=
  match a, b with
  | .str a, .str b => some (a == b)
  | .int a, .int b => some (a == b)
  | .lst as, .lst bs => match intsOf as, intsOf bs with
    | some as, some bs => some (as == bs)
    | _, _ => Option.none
  | .ref i, .ref j => match h[i]?, h[j]? with
    | some (.list as), some (.list bs) => if sameAll (same h 12) as bs then some true else Option.none
    | _, _ => Option.none
  | _, _ => Option.none

noncomputable def inV (a b : V) : Option Bool :=
  match a, b with
  | .str a, .tup vs => (strsOf vs).map (·.contains a)
  | .str a, .lst vs => (strsOf vs).map (·.contains a)
  | .str [c], .str s => some (s.contains c)
  | _, _ => Option.none

noncomputable def cmpV (h : List O) (c : Cmp) (a b : V) : Option Bool :=
  match c with
  | .eq => eqV h a b
  | .ne => (eqV h a b).map (!·)
  | .isIn => inV a b
  | .notIn => (inV a b).map (!·)
  | .lt => match a, b with
    | .int a, .int b => some (decide (a < b))
    | _, _ => Option.none
  | .le => match a, b with
    | .str a, .str b => some (lexLe a b)
    | _, _ => Option.none
  | .gt => match a, b with
    | .int a, .int b => some (decide (b < a))
    | _, _ => Option.none
  | .ge => match a, b with
    | .int a, .int b => some (decide (b ≤ a))
    | _, _ => Option.none

noncomputable def opV (o : Op2) (a b : V) : Option V :=
  match o, a, b with
  | .add, .int a, .int b => some (.int (a + b))
  | .add, .str a, .str b => if a.length + b.length ≤ lim then some (.str (a ++ b)) else Option.none
  | .add, .lst a, .lst b => if a.length + b.length ≤ lim then some (.lst (a ++ b)) else Option.none
  | .sub, .int a, .int b => some (.int (a - b))
  | .mod, .int a, .int b => if b = 0 then Option.none else some (.int (Int.fmod a b))
  | .fdiv, .int a, .int b => if 0 < b ∧ b < 1000000 then some (.int (Int.fdiv a b)) else Option.none
  | _, _, _ => Option.none

noncomputable def idxV (h : List O) (a i : V) : Option V :=
  match a, i with
  | .tup vs, .int k => pick vs k
  | .lst vs, .int k => pick vs k
  | .str s, .int k => if 0 ≤ k then (s[k.toNat]?).map fun c => .str [c] else Option.none
  | .ref n, .int k => match h[n]? with
    | some (.list vs) => pick vs k
    | _ => Option.none
  | .ref n, .str x => match h[n]? with
    | some (.dict kvs) => kvs.lookup x
    | _ => Option.none
  | _, _ => Option.none

noncomputable def clamp (n : Nat) (k : Int) : Nat := if k < 0 then (k + n).toNat else min k.toNat n
noncomputable def cut (s : List Nat) (lo hi : Nat) : List Nat := (s.take hi).drop lo
noncomputable def sliceV (s : List Nat) (lo hi : Int) : List Nat := cut s (clamp s.length lo) (clamp s.length hi)

noncomputable def putKey : List (List Nat × V) → List Nat → V → List (List Nat × V)
  | [], k, v => [(k, v)]
  | (k', v') :: r, k, v => if k' == k then (k', v) :: r else (k', v') :: putKey r k v

noncomputable def storeV (h : List O) (o k v : V) : Option (List O) :=
  match o, k with
  | .ref n, .int i => match h[n]? with
    | some (.list vs) => if 0 ≤ i ∧ i.toNat < vs.length then some (h.set n (.list (vs.set i.toNat v))) else Option.none
    | _ => Option.none
  | .ref n, .str x => match h[n]? with
    | some (.dict kvs) => if (kvs.lookup x).isSome then some (h.set n (.dict (putKey kvs x v))) else Option.none
    | _ => Option.none
  | _, _ => Option.none

/-- every old is turned to new, from the left; k signs are still to be passed over -/
noncomputable def replK (old new : List Nat) : Nat → List Nat → List Nat
  | _, [] => []
  | k + 1, _ :: s => replK old new k s
  | 0, c :: s => if old.isPrefixOf (c :: s) then new ++ replK old new (old.length - 1) s else c :: replK old new 0 s
noncomputable def repl (s old new : List Nat) : List Nat := replK old new 0 s
noncomputable def endsW (s t : List Nat) : Bool := decide (t.length ≤ s.length) && (s.drop (s.length - t.length) == t)

noncomputable def lift {α : Type} (m : Option α) (st : St) : Res α := match m with
  | some a => ok a st
  | Option.none => Option.none

noncomputable def evalE (C : Calls) : E → St → Res V
  | .loc i, st => match st.loc[i]? with
    | some (some v) => ok v st
    | _ => Option.none
  | .none, st => ok .none st
  | .bool b, st => ok (.bool b) st
  | .int i, st => ok (.int i) st
  | .neg i, st => ok (.int (-(i : Int))) st
  | .str s, st => ok (.str s) st
  | .op o a b, st => bd (evalE C a st) fun x st => bd (evalE C b st) fun y st => lift (opV o x y) st
  | .cmp c a b, st => bd (evalE C a st) fun x st => bd (evalE C b st) fun y st => lift ((cmpV st.heap c x y).map .bool) st
  | .between a b c, st => bd (evalE C a st) fun x st => bd (evalE C b st) fun y st => match cmpV st.heap .le x y with
    | some true => bd (evalE C c st) fun z st => lift ((cmpV st.heap .le y z).map .bool) st
    | some false => ok (.bool false) st
    | Option.none => Option.none
  | .and a b, st => bd (evalE C a st) fun x st => match x with
    | .bool true => evalE C b st
    | .bool false => ok (.bool false) st
    | _ => Option.none
  | .or a b, st => bd (evalE C a st) fun x st => match x with
    | .bool true => ok (.bool true) st
    | .bool false => evalE C b st
    | _ => Option.none
  | .ifx c a b, st => bd (evalE C c st) fun x st => match x with
    | .bool true => evalE C a st
    | .bool false => evalE C b st
    | _ => Option.none
  | .nil, st => ok (.lst []) st
  | .cons a b, st => bd (evalE C a st) fun x st => bd (evalE C b st) fun y st => match y with
    | .lst vs => ok (.lst (x :: vs)) st
    | _ => Option.none
  | .tup es, st => bd (evalE C es st) fun x st => match x with
    | .lst vs => ok (.tup vs) st
    | _ => Option.none
  | .list es, st => bd (evalE C es st) fun x st => match x with
    | .lst vs => ok (.ref st.heap.length) ⟨st.loc, st.heap ++ [.list vs]⟩
    | _ => Option.none
  | .flist es, st => evalE C es st
  | .dict ks es, st => bd (evalE C es st) fun x st => match x with
    | .lst vs => if vs.length = ks.length then ok (.ref st.heap.length) ⟨st.loc, st.heap ++ [.dict (ks.zip vs)]⟩ else Option.none
    | _ => Option.none
  | .call f es, st => bd (evalE C es st) fun x st => match x with
    | .lst vs => match C f vs st.heap with
      | some (r, h) => some (r, ⟨st.loc, h⟩)
      | Option.none => Option.none
    | _ => Option.none
  | .len a, st => bd (evalE C a st) fun x st => match x with
    | .str s => ok (.int s.length) st
    | .lst vs => ok (.int vs.length) st
    | _ => Option.none
  | .ord a, st => bd (evalE C a st) fun x st => match x with
    | .str [c] => ok (.int c) st
    | _ => Option.none
  | .idx a i, st => bd (evalE C a st) fun x st => bd (evalE C i st) fun y st => lift (idxV st.heap x y) st
  | .slice a lo hi, st => bd (evalE C a st) fun x st => bd (evalE C lo st) fun y st => bd (evalE C hi st) fun z st => match x, y, z with
    | .str s, .int l, .int u => ok (.str (sliceV s l u)) st
    | _, _, _ => Option.none
  | .sliceFrom a lo, st => bd (evalE C a st) fun x st => bd (evalE C lo st) fun y st => match x, y with
    | .str s, .int l => ok (.str (sliceV s l s.length)) st
    | _, _ => Option.none
  | .sliceTo a hi, st => bd (evalE C a st) fun x st => bd (evalE C hi st) fun z st => match x, z with
    | .str s, .int u => ok (.str (sliceV s 0 u)) st
    | _, _ => Option.none
  | .append a x, st => bd (evalE C a st) fun l st => match l with
    | .ref n => match st.heap[n]? with
      | some (.list _) => bd (evalE C x st) fun v st => match st.heap[n]? with
        | some (.list vs) => if vs.length < lim then ok .none ⟨st.loc, st.heap.set n (.list (vs ++ [v]))⟩ else Option.none
        | _ => Option.none
      | _ => Option.none
    | _ => Option.none
  | .pop a, st => bd (evalE C a st) fun l st => match l with
    | .ref n => match st.heap[n]? with
      | some (.list vs) => match vs.getLast? with
        | some v => ok v ⟨st.loc, st.heap.set n (.list vs.dropLast)⟩
        | Option.none => Option.none
      | _ => Option.none
    | _ => Option.none
  | .endswith a x, st => bd (evalE C a st) fun u st => match u with
    | .str s => bd (evalE C x st) fun v st => match v with
      | .str t => ok (.bool (endsW s t)) st
      | _ => Option.none
    | _ => Option.none
  | .replace a old new, st => bd (evalE C a st) fun u st => match u with
    | .str s => if old = [] ∨ old = new ∨ 14 < new.length ∨ 1000000 < s.length ∨ lim < (repl s old new).length then Option.none else ok (.str (repl s old new)) st
    | _ => Option.none

noncomputable def whileL (c : St → Res V) (b : St → Res Fl) : Nat → St → Res Fl
  | 0, _ => Option.none
  | n + 1, st => bd (c st) fun v st => match v with
    | .bool true => bd (b st) fun f st => match f with
      | .ret v => ok (.ret v) st
      | _ => whileL c b n st
    | .bool false => ok .next st
    | _ => Option.none

noncomputable def forL (i : Nat) (b : St → Res Fl) : List V → St → Res Fl
  | [], st => ok .next st
  | v :: vs, st => bd (b (st.put i v)) fun f st => match f with
    | .ret v => ok (.ret v) st
    | _ => forL i b vs st

noncomputable def fuel : Nat := 1000000

noncomputable def exec (C : Calls) : S → St → Res Fl
  | .skip, st => ok .next st
  | .cont, st => ok .cont st
  | .seq a b, st => bd (exec C a st) fun f st => match f with
    | .next => exec C b st
    | f => ok f st
  | .assign i e, st => bd (evalE C e st) fun v st => ok .next (st.put i v)
  | .unpack is e, st => bd (evalE C e st) fun v st => match v with
    | .tup vs => if vs.length = is.length then ok .next (st.putAll is vs) else Option.none
    | _ => Option.none
  | .aug i e, st => match st.loc[i]? with
    | some (some (.int a)) => bd (evalE C e st) fun v st => match v with
      | .int b => ok .next (st.put i (.int (a + b)))
      | _ => Option.none
    | _ => Option.none
  | .setItem o k e, st => bd (evalE C e st) fun v st => bd (evalE C o st) fun x st => bd (evalE C k st) fun y st => match storeV st.heap x y v with
    | some h => ok .next ⟨st.loc, h⟩
    | Option.none => Option.none
  | .expr e, st => bd (evalE C e st) fun _ st => ok .next st
  | .ret e, st => bd (evalE C e st) fun v st => ok (.ret v) st
  | .raise w, st => some (.error w, st)
  | .ite c a b, st => bd (evalE C c st) fun v st => match v with
    | .bool true => exec C a st
    | .bool false => exec C b st
    | _ => Option.none
  | .while c b, st => whileL (evalE C c) (exec C b) fuel st
  | .forRange i e b, st => bd (evalE C e st) fun v st => match v with
    | .int n => if 0 ≤ n ∧ n < 2 ^ 40 then forL i (exec C b) ((List.range n.toNat).map fun k => .int (Int.ofNat k)) st else Option.none
    | _ => Option.none
  | .forList i e b, st => bd (evalE C e st) fun v st => match v with
    | .lst vs => forL i (exec C b) vs st
    | _ => Option.none

-- 0 is_space: 0 c
noncomputable def names_is_space : List PySem.Str := [PySem.Str.ofString "c"]
noncomputable def body_is_space : S :=
  (.ret (.cmp .isIn (.loc 0) (.tup (.cons (.str [9]) (.cons (.str [10]) (.cons (.str [12]) (.cons (.str [13]) (.cons (.str [32]) .nil))))))))

-- 1 is_digit: 0 c
noncomputable def names_is_digit : List PySem.Str := [PySem.Str.ofString "c"]
noncomputable def body_is_digit : S :=
  (.ret (.between (.str [48]) (.loc 0) (.str [57])))

-- 2 is_alnum: 0 c
noncomputable def names_is_alnum : List PySem.Str := [PySem.Str.ofString "c"]
noncomputable def body_is_alnum : S :=
  (.ret (.or (.between (.str [97]) (.loc 0) (.str [122])) (.or (.between (.str [65]) (.loc 0) (.str [90])) (.between (.str [48]) (.loc 0) (.str [57])))))

-- 3 past_spaces: 0 text, 1 at
noncomputable def names_past_spaces : List PySem.Str := [PySem.Str.ofString "text", PySem.Str.ofString "at"]
noncomputable def body_past_spaces : S :=
  (.seq (.while (.and (.cmp .lt (.loc 1) (.len (.loc 0))) (.call 0 (.cons (.idx (.loc 0) (.loc 1)) .nil)))
    (.aug 1 (.int 1)))
  (.ret (.loc 1)))

-- 4 is_word_sign: 0 c
noncomputable def names_is_word_sign : List PySem.Str := [PySem.Str.ofString "c"]
noncomputable def body_is_word_sign : S :=
  (.ret (.or (.call 2 (.cons (.loc 0) .nil)) (.or (.cmp .isIn (.loc 0) (.tup (.cons (.str [45]) (.cons (.str [95]) .nil)))) (.and (.cmp .ne (.loc 0) (.str [])) (.cmp .ge (.ord (.loc 0)) (.int 128))))))

-- 5 read_word: 0 text, 1 at, 2 end, 3 word, 4 bare, 5 is_mark
noncomputable def names_read_word : List PySem.Str := [PySem.Str.ofString "text", PySem.Str.ofString "at", PySem.Str.ofString "end", PySem.Str.ofString "word", PySem.Str.ofString "bare", PySem.Str.ofString "is_mark"]
noncomputable def body_read_word : S :=
  (.seq (.assign 2 (.loc 1))
  (.seq (.while (.and (.cmp .lt (.loc 2) (.len (.loc 0))) (.call 4 (.cons (.idx (.loc 0) (.loc 2)) .nil)))
    (.aug 2 (.int 1)))
  (.seq (.assign 3 (.slice (.loc 0) (.loc 1) (.loc 2)))
  (.seq (.assign 4 (.loc 3))
  (.seq (.ite (.cmp .eq (.sliceTo (.loc 3) (.int 1)) (.str [45]))
    (.assign 4 (.sliceFrom (.loc 3) (.int 1)))
    .skip)
  (.seq (.assign 5 (.and (.cmp .eq (.loc 3) (.str [45, 45])) (.and (.cmp .eq (.slice (.loc 0) (.loc 2) (.op .add (.loc 2) (.int 1))) (.str [62])) (.cmp .ne (.slice (.loc 0) (.op .sub (.loc 1) (.int 1)) (.loc 1)) (.str [35])))))
  (.seq (.ite (.or (.cmp .eq (.loc 4) (.str [])) (.or (.call 1 (.cons (.idx (.loc 4) (.int 0)) .nil)) (.loc 5)))
    (.raise [97, 32, 115, 101, 108, 101, 99, 116, 111, 114, 32, 108, 97, 99, 107, 115, 32, 97, 32, 119, 111, 114, 100])
    .skip)
  (.ret (.tup (.cons (.loc 3) (.cons (.loc 2) .nil)))))))))))

-- 6 read_value: 0 text, 1 at, 2 quote, 3 end
noncomputable def names_read_value : List PySem.Str := [PySem.Str.ofString "text", PySem.Str.ofString "at", PySem.Str.ofString "quote", PySem.Str.ofString "end"]
noncomputable def body_read_value : S :=
  (.seq (.assign 2 (.slice (.loc 0) (.loc 1) (.op .add (.loc 1) (.int 1))))
  (.seq (.ite (.cmp .notIn (.loc 2) (.tup (.cons (.str [34]) (.cons (.str [39]) .nil))))
    (.ret (.call 5 (.cons (.loc 0) (.cons (.loc 1) .nil))))
    .skip)
  (.seq (.assign 3 (.op .add (.loc 1) (.int 1)))
  (.seq (.while (.cmp .notIn (.slice (.loc 0) (.loc 3) (.op .add (.loc 3) (.int 1))) (.tup (.cons (.str []) (.cons (.str [92]) (.cons (.str [10]) (.cons (.str [13]) (.cons (.str [12]) (.cons (.loc 2) .nil))))))))
    (.aug 3 (.int 1)))
  (.seq (.ite (.cmp .ne (.slice (.loc 0) (.loc 3) (.op .add (.loc 3) (.int 1))) (.loc 2))
    (.raise [97, 32, 115, 101, 108, 101, 99, 116, 111, 114, 39, 115, 32, 118, 97, 108, 117, 101, 32, 105, 115, 32, 110, 111, 116, 32, 99, 108, 111, 115, 101, 100])
    .skip)
  (.ret (.tup (.cons (.slice (.loc 0) (.op .add (.loc 1) (.int 1)) (.loc 3)) (.cons (.op .add (.loc 3) (.int 1)) .nil)))))))))

-- 7 read_attr: 0 text, 1 at, 2 value, 3 name
noncomputable def names_read_attr : List PySem.Str := [PySem.Str.ofString "text", PySem.Str.ofString "at", PySem.Str.ofString "value", PySem.Str.ofString "name"]
noncomputable def body_read_attr : S :=
  (.seq (.unpack [3, 1] (.call 5 (.cons (.loc 0) (.cons (.call 3 (.cons (.loc 0) (.cons (.loc 1) .nil))) .nil))))
  (.seq (.assign 2 .none)
  (.seq (.assign 1 (.call 3 (.cons (.loc 0) (.cons (.loc 1) .nil))))
  (.seq (.ite (.cmp .eq (.slice (.loc 0) (.loc 1) (.op .add (.loc 1) (.int 1))) (.str [61]))
    (.seq (.unpack [2, 1] (.call 6 (.cons (.loc 0) (.cons (.call 3 (.cons (.loc 0) (.cons (.op .add (.loc 1) (.int 1)) .nil))) .nil))))
    (.assign 1 (.call 3 (.cons (.loc 0) (.cons (.loc 1) .nil)))))
    .skip)
  (.seq (.ite (.cmp .ne (.slice (.loc 0) (.loc 1) (.op .add (.loc 1) (.int 1))) (.str [93]))
    (.raise [97, 32, 115, 101, 108, 101, 99, 116, 111, 114, 39, 115, 32, 98, 114, 97, 99, 107, 101, 116, 32, 105, 115, 32, 110, 111, 116, 32, 99, 108, 111, 115, 101, 100])
    .skip)
  (.ret (.tup (.cons (.tup (.cons (.loc 3) (.cons (.loc 2) .nil))) (.cons (.op .add (.loc 1) (.int 1)) .nil)))))))))

-- 8 read_simple: 0 text, 1 at, 2 start, 3 name, 4 ids, 5 classes, 6 attrs, 7 pair, 8 word
noncomputable def names_read_simple : List PySem.Str := [PySem.Str.ofString "text", PySem.Str.ofString "at", PySem.Str.ofString "start", PySem.Str.ofString "name", PySem.Str.ofString "ids", PySem.Str.ofString "classes", PySem.Str.ofString "attrs", PySem.Str.ofString "pair", PySem.Str.ofString "word"]
noncomputable def body_read_simple : S :=
  (.seq (.unpack [3, 4, 5, 6] (.tup (.cons (.str []) (.cons (.list .nil) (.cons (.list .nil) (.cons (.list .nil) .nil))))))
  (.seq (.assign 2 (.loc 1))
  (.seq (.ite (.cmp .eq (.slice (.loc 0) (.loc 1) (.op .add (.loc 1) (.int 1))) (.str [42]))
    (.aug 1 (.int 1))
    (.ite (.call 4 (.cons (.slice (.loc 0) (.loc 1) (.op .add (.loc 1) (.int 1))) .nil))
      (.unpack [3, 1] (.call 5 (.cons (.loc 0) (.cons (.loc 1) .nil))))
      .skip))
  (.seq (.while (.cmp .isIn (.slice (.loc 0) (.loc 1) (.op .add (.loc 1) (.int 1))) (.tup (.cons (.str [35]) (.cons (.str [46]) (.cons (.str [91]) .nil)))))
    (.ite (.cmp .eq (.idx (.loc 0) (.loc 1)) (.str [91]))
      (.seq (.unpack [7, 1] (.call 7 (.cons (.loc 0) (.cons (.op .add (.loc 1) (.int 1)) .nil))))
      (.expr (.append (.loc 6) (.loc 7))))
      (.ite (.cmp .eq (.idx (.loc 0) (.loc 1)) (.str [35]))
        (.seq (.unpack [8, 1] (.call 5 (.cons (.loc 0) (.cons (.op .add (.loc 1) (.int 1)) .nil))))
        (.expr (.append (.loc 4) (.loc 8))))
        (.seq (.unpack [8, 1] (.call 5 (.cons (.loc 0) (.cons (.op .add (.loc 1) (.int 1)) .nil))))
        (.expr (.append (.loc 5) (.loc 8)))))))
  (.seq (.ite (.cmp .eq (.loc 1) (.loc 2))
    (.raise [97, 32, 115, 101, 108, 101, 99, 116, 111, 114, 32, 108, 97, 99, 107, 115, 32, 97, 32, 112, 97, 114, 116])
    .skip)
  (.ret (.tup (.cons (.dict [[110, 97, 109, 101], [105, 100, 115], [99, 108, 97, 115, 115, 101, 115], [97, 116, 116, 114, 115]] (.cons (.loc 3) (.cons (.loc 4) (.cons (.loc 5) (.cons (.loc 6) .nil))))) (.cons (.loc 1) .nil)))))))))

-- 9 read_chain: 0 text, 1 at, 2 chain, 3 combinator, 4 behind, 5 simple
noncomputable def names_read_chain : List PySem.Str := [PySem.Str.ofString "text", PySem.Str.ofString "at", PySem.Str.ofString "chain", PySem.Str.ofString "combinator", PySem.Str.ofString "behind", PySem.Str.ofString "simple"]
noncomputable def body_read_chain : S :=
  (.seq (.assign 2 (.list .nil))
  (.seq (.assign 3 (.str []))
  (.seq (.assign 1 (.call 3 (.cons (.loc 0) (.cons (.loc 1) .nil))))
  (.while (.bool true)
    (.seq (.unpack [5, 1] (.call 8 (.cons (.loc 0) (.cons (.loc 1) .nil))))
    (.seq (.expr (.append (.loc 2) (.tup (.cons (.loc 3) (.cons (.loc 5) .nil)))))
    (.seq (.assign 4 (.call 3 (.cons (.loc 0) (.cons (.loc 1) .nil))))
    (.seq (.assign 3 (.slice (.loc 0) (.loc 4) (.op .add (.loc 4) (.int 1))))
    (.seq (.ite (.cmp .isIn (.loc 3) (.tup (.cons (.str []) (.cons (.str [44]) .nil))))
      (.ret (.tup (.cons (.loc 2) (.cons (.loc 4) .nil))))
      .skip)
    (.ite (.cmp .isIn (.loc 3) (.tup (.cons (.str [62]) (.cons (.str [43]) (.cons (.str [126]) .nil)))))
      (.assign 1 (.call 3 (.cons (.loc 0) (.cons (.op .add (.loc 4) (.int 1)) .nil))))
      (.ite (.cmp .gt (.loc 4) (.loc 1))
        (.seq (.assign 3 (.str [32]))
        (.assign 1 (.loc 4)))
        (.raise [97, 32, 115, 101, 108, 101, 99, 116, 111, 114, 32, 104, 97, 115, 32, 97, 32, 115, 105, 103, 110, 32, 116, 104, 97, 116, 32, 105, 115, 32, 110, 111, 116, 32, 107, 110, 111, 119, 110, 32, 104, 101, 114, 101]))))))))))))

-- 10 read_selector: 0 text, 1 chains, 2 chain, 3 at
noncomputable def names_read_selector : List PySem.Str := [PySem.Str.ofString "text", PySem.Str.ofString "chains", PySem.Str.ofString "chain", PySem.Str.ofString "at"]
noncomputable def body_read_selector : S :=
  (.seq (.unpack [2, 3] (.call 9 (.cons (.loc 0) (.cons (.int 0) .nil))))
  (.seq (.assign 1 (.list (.cons (.loc 2) .nil)))
  (.seq (.while (.cmp .lt (.loc 3) (.len (.loc 0)))
    (.seq (.unpack [2, 3] (.call 9 (.cons (.loc 0) (.cons (.op .add (.loc 3) (.int 1)) .nil))))
    (.expr (.append (.loc 1) (.loc 2)))))
  (.ret (.loc 1)))))

-- 11 _law_draw: 0 hand, 1 size, 2 script, 3 place
noncomputable def names_law_draw : List PySem.Str := [PySem.Str.ofString "hand", PySem.Str.ofString "size", PySem.Str.ofString "script", PySem.Str.ofString "place"]
noncomputable def body_law_draw : S :=
  (.seq (.assign 2 (.idx (.loc 0) (.int 0)))
  (.seq (.assign 3 (.idx (.loc 0) (.int 1)))
  (.seq (.setItem (.loc 0) (.int 1) (.op .add (.loc 3) (.int 1)))
  (.ret (.op .mod (.op .add (.idx (.loc 2) (.op .mod (.loc 3) (.len (.loc 2)))) (.op .fdiv (.loc 3) (.len (.loc 2)))) (.loc 1))))))

-- 12 _law_word: 0 hand
noncomputable def names_law_word : List PySem.Str := [PySem.Str.ofString "hand"]
noncomputable def body_law_word : S :=
  (.ret (.idx (.flist (.cons (.str [97]) (.cons (.str [45, 98]) (.cons (.str [90, 57]) (.cons (.str [45, 45]) (.cons (.str [128, 45, 49]) (.cons (.str [45, 45, 49]) (.cons (.str [95, 120, 45]) .nil)))))))) (.call 11 (.cons (.loc 0) (.cons (.int 7) .nil)))))

-- 13 _law_gap: 0 hand
noncomputable def names_law_gap : List PySem.Str := [PySem.Str.ofString "hand"]
noncomputable def body_law_gap : S :=
  (.ret (.idx (.flist (.cons (.str []) (.cons (.str [32]) (.cons (.str []) (.cons (.str [9, 13]) (.cons (.str [10, 12, 32]) .nil)))))) (.call 11 (.cons (.loc 0) (.cons (.int 5) .nil)))))

-- 14 _law_bracket: 0 hand, 1 name, 2 text, 3 way, 4 value, 5 quote
noncomputable def names_law_bracket : List PySem.Str := [PySem.Str.ofString "hand", PySem.Str.ofString "name", PySem.Str.ofString "text", PySem.Str.ofString "way", PySem.Str.ofString "value", PySem.Str.ofString "quote"]
noncomputable def body_law_bracket : S :=
  (.seq (.assign 1 (.call 12 (.cons (.loc 0) .nil)))
  (.seq (.assign 2 (.op .add (.op .add (.str [91]) (.call 13 (.cons (.loc 0) .nil))) (.loc 1)))
  (.seq (.assign 2 (.op .add (.loc 2) (.call 13 (.cons (.loc 0) .nil))))
  (.seq (.ite (.cmp .eq (.call 11 (.cons (.loc 0) (.cons (.int 3) .nil))) (.int 0))
    (.ret (.tup (.cons (.op .add (.loc 2) (.str [93])) (.cons (.tup (.cons (.loc 1) (.cons .none .nil))) .nil))))
    .skip)
  (.seq (.assign 2 (.op .add (.op .add (.loc 2) (.str [61])) (.call 13 (.cons (.loc 0) .nil))))
  (.seq (.assign 3 (.call 11 (.cons (.loc 0) (.cons (.int 3) .nil))))
  (.seq (.ite (.cmp .eq (.loc 3) (.int 0))
    (.seq (.assign 4 (.call 12 (.cons (.loc 0) .nil)))
    (.assign 2 (.op .add (.loc 2) (.loc 4))))
    (.seq (.assign 5 (.idx (.flist (.cons (.str [39]) (.cons (.str [34]) .nil))) (.op .sub (.loc 3) (.int 1))))
    (.seq (.assign 4 (.idx (.flist (.cons (.str []) (.cons (.str [93]) (.cons (.str [97, 44, 32, 98]) (.cons (.str [49, 62]) (.cons (.str [61]) (.cons (.idx (.flist (.cons (.str [34]) (.cons (.str [39]) .nil))) (.op .sub (.loc 3) (.int 1))) .nil))))))) (.call 11 (.cons (.loc 0) (.cons (.int 6) .nil)))))
    (.assign 2 (.op .add (.op .add (.op .add (.loc 2) (.loc 5)) (.loc 4)) (.loc 5))))))
  (.ret (.tup (.cons (.op .add (.op .add (.loc 2) (.call 13 (.cons (.loc 0) .nil))) (.str [93])) (.cons (.tup (.cons (.loc 1) (.cons (.loc 4) .nil))) .nil)))))))))))

-- 15 _law_part: 0 hand, 1 word, 2 way, 3 text, 4 due, 5 k, 6 sort, 7 written, 8 pair
noncomputable def names_law_part : List PySem.Str := [PySem.Str.ofString "hand", PySem.Str.ofString "word", PySem.Str.ofString "way", PySem.Str.ofString "text", PySem.Str.ofString "due", PySem.Str.ofString "k", PySem.Str.ofString "sort", PySem.Str.ofString "written", PySem.Str.ofString "pair"]
noncomputable def body_law_part : S :=
  (.seq (.assign 1 (.call 12 (.cons (.loc 0) .nil)))
  (.seq (.assign 2 (.call 11 (.cons (.loc 0) (.cons (.int 3) .nil))))
  (.seq (.assign 3 (.idx (.flist (.cons (.str [42]) (.cons (.str []) (.cons (.loc 1) .nil)))) (.loc 2)))
  (.seq (.assign 4 (.dict [[110, 97, 109, 101], [105, 100, 115], [99, 108, 97, 115, 115, 101, 115], [97, 116, 116, 114, 115]] (.cons (.idx (.flist (.cons (.str []) (.cons (.str []) (.cons (.loc 1) .nil)))) (.loc 2)) (.cons (.list .nil) (.cons (.list .nil) (.cons (.list .nil) .nil))))))
  (.seq (.forRange 5 (.call 11 (.cons (.loc 0) (.cons (.int 3) .nil)))
    (.seq (.assign 6 (.call 11 (.cons (.loc 0) (.cons (.int 3) .nil))))
    (.ite (.cmp .eq (.loc 6) (.int 0))
      (.seq (.unpack [7, 8] (.call 14 (.cons (.loc 0) .nil)))
      (.seq (.assign 3 (.op .add (.loc 3) (.loc 7)))
      (.expr (.append (.idx (.loc 4) (.str [97, 116, 116, 114, 115])) (.loc 8)))))
      (.seq (.assign 1 (.call 12 (.cons (.loc 0) .nil)))
      (.seq (.assign 3 (.op .add (.op .add (.loc 3) (.idx (.flist (.cons (.str [35]) (.cons (.str [46]) .nil))) (.op .sub (.loc 6) (.int 1)))) (.loc 1)))
      (.expr (.append (.idx (.loc 4) (.idx (.flist (.cons (.str [105, 100, 115]) (.cons (.str [99, 108, 97, 115, 115, 101, 115]) .nil))) (.op .sub (.loc 6) (.int 1)))) (.loc 1))))))))
  (.ret (.tup (.cons (.ifx (.cmp .eq (.loc 3) (.str [])) (.str [42]) (.loc 3)) (.cons (.loc 4) .nil)))))))))

-- 16 _law_written: 0 hand, 1 text, 2 chains, 3 c, 4 joint, 5 k, 6 written, 7 due
noncomputable def names_law_written : List PySem.Str := [PySem.Str.ofString "hand", PySem.Str.ofString "text", PySem.Str.ofString "chains", PySem.Str.ofString "c", PySem.Str.ofString "joint", PySem.Str.ofString "k", PySem.Str.ofString "written", PySem.Str.ofString "due"]
noncomputable def body_law_written : S :=
  (.seq (.assign 1 (.call 13 (.cons (.loc 0) .nil)))
  (.seq (.assign 2 (.list .nil))
  (.seq (.forRange 3 (.op .add (.int 1) (.call 11 (.cons (.loc 0) (.cons (.int 2) .nil))))
    (.seq (.ite (.cmp .gt (.loc 3) (.int 0))
      (.assign 1 (.op .add (.op .add (.loc 1) (.str [44])) (.call 13 (.cons (.loc 0) .nil))))
      .skip)
    (.seq (.expr (.append (.loc 2) (.list .nil)))
    (.seq (.assign 4 (.str []))
    (.forRange 5 (.op .add (.int 1) (.call 11 (.cons (.loc 0) (.cons (.int 2) .nil))))
      (.seq (.ite (.cmp .gt (.loc 5) (.int 0))
        (.seq (.assign 4 (.idx (.flist (.cons (.str [62]) (.cons (.str [32]) (.cons (.str [43]) (.cons (.str [126]) .nil))))) (.call 11 (.cons (.loc 0) (.cons (.int 4) .nil)))))
        (.assign 1 (.op .add (.op .add (.op .add (.loc 1) (.ifx (.endswith (.loc 1) (.str [45, 45])) (.str [32]) (.str []))) (.loc 4)) (.call 13 (.cons (.loc 0) .nil)))))
        .skip)
      (.seq (.unpack [6, 7] (.call 15 (.cons (.loc 0) .nil)))
      (.seq (.expr (.append (.idx (.loc 2) (.loc 3)) (.tup (.cons (.loc 4) (.cons (.loc 7) .nil)))))
      (.assign 1 (.op .add (.op .add (.loc 1) (.loc 6)) (.call 13 (.cons (.loc 0) .nil))))))))))))
  (.ret (.tup (.cons (.loc 1) (.cons (.loc 2) .nil)))))))

-- 17 _law_spoiled: 0 hand, 1 text, 2 signs, 3 place, 4 way
noncomputable def names_law_spoiled : List PySem.Str := [PySem.Str.ofString "hand", PySem.Str.ofString "text", PySem.Str.ofString "signs", PySem.Str.ofString "place", PySem.Str.ofString "way"]
noncomputable def body_law_spoiled : S :=
  (.seq (.assign 2 (.flist (.cons (.str [62]) (.cons (.str [45]) (.cons (.str [49]) (.cons (.str [32]) (.cons (.str [91]) (.cons (.str [93]) (.cons (.str [61]) (.cons (.str [34]) (.cons (.str [39]) (.cons (.str [92]) (.cons (.str [10]) (.cons (.str [44]) (.cons (.str [35]) (.cons (.str [46]) (.cons (.str [42]) (.cons (.str [58]) (.cons (.str [97]) (.cons (.str [126]) (.cons (.str [43]) .nil)))))))))))))))))))))
  (.seq (.assign 2 (.op .add (.loc 2) (.flist (.cons (.str [127]) (.cons (.str [124]) .nil)))))
  (.seq (.assign 1 (.sliceTo (.loc 1) (.int 48)))
  (.seq (.assign 3 (.call 11 (.cons (.loc 0) (.cons (.op .add (.len (.loc 1)) (.int 1)) .nil))))
  (.seq (.assign 4 (.call 11 (.cons (.loc 0) (.cons (.int 3) .nil))))
  (.seq (.ite (.cmp .eq (.loc 4) (.int 0))
    (.ret (.op .add (.sliceTo (.loc 1) (.loc 3)) (.sliceFrom (.loc 1) (.op .add (.loc 3) (.int 1)))))
    .skip)
  (.ret (.op .add (.op .add (.sliceTo (.loc 1) (.loc 3)) (.idx (.loc 2) (.call 11 (.cons (.loc 0) (.cons (.int 21) .nil))))) (.sliceFrom (.loc 1) (.op .sub (.op .add (.loc 3) (.loc 4)) (.int 1)))))))))))

-- 18 _law_valued: 0 hand, 1 pieces, 2 text, 3 k
noncomputable def names_law_valued : List PySem.Str := [PySem.Str.ofString "hand", PySem.Str.ofString "pieces", PySem.Str.ofString "text", PySem.Str.ofString "k"]
noncomputable def body_law_valued : S :=
  (.seq (.assign 1 (.flist (.cons (.str [98]) (.cons (.str [93]) (.cons (.str [92]) (.cons (.str [39]) (.cons (.str [10]) (.cons (.str [32]) (.cons (.str [34]) (.cons (.str [13]) (.cons (.str [44]) (.cons (.str [12]) (.cons (.str [45]) (.cons (.str [49]) (.cons (.str [61]) (.cons (.str [45, 45]) (.cons (.str [62]) .nil)))))))))))))))))
  (.seq (.assign 2 (.op .add (.op .add (.str [97, 91]) (.call 12 (.cons (.loc 0) .nil))) (.str [61])))
  (.seq (.assign 2 (.op .add (.loc 2) (.idx (.flist (.cons (.str [39]) (.cons (.str []) (.cons (.str [34]) .nil)))) (.call 11 (.cons (.loc 0) (.cons (.int 3) .nil))))))
  (.seq (.forRange 3 (.int 4)
    (.assign 2 (.op .add (.loc 2) (.idx (.loc 1) (.call 11 (.cons (.loc 0) (.cons (.int 15) .nil)))))))
  (.ret (.op .add (.loc 2) (.idx (.flist (.cons (.str [39]) (.cons (.str [39, 93]) (.cons (.str [93]) (.cons (.str [34, 93]) .nil))))) (.call 11 (.cons (.loc 0) (.cons (.int 4) .nil))))))))))

-- 19 _law_loose: 0 hand, 1 pieces, 2 text, 3 k
noncomputable def names_law_loose : List PySem.Str := [PySem.Str.ofString "hand", PySem.Str.ofString "pieces", PySem.Str.ofString "text", PySem.Str.ofString "k"]
noncomputable def body_law_loose : S :=
  (.seq (.assign 1 (.flist (.cons (.str [97]) (.cons (.str [42]) (.cons (.str [35]) (.cons (.str [46]) (.cons (.str [91]) (.cons (.str [93]) (.cons (.str [62]) (.cons (.str [32]) (.cons (.str [44]) (.cons (.str [45, 45]) (.cons (.str [45]) (.cons (.str [49]) (.cons (.str [91, 98, 93]) (.cons (.str [46, 99]) (.cons (.str [35, 100]) (.cons (.str [45, 45, 62]) (.cons (.str [126]) (.cons (.str [58]) (.cons (.str [43]) .nil)))))))))))))))))))))
  (.seq (.assign 2 (.str []))
  (.seq (.forRange 3 (.int 6)
    (.assign 2 (.op .add (.loc 2) (.idx (.loc 1) (.call 11 (.cons (.loc 0) (.cons (.int 19) .nil)))))))
  (.ret (.loc 2)))))

-- 20 _law_kind: 0 sign
noncomputable def names_law_kind : List PySem.Str := [PySem.Str.ofString "sign"]
noncomputable def body_law_kind : S :=
  (.seq (.ite (.cmp .eq (.loc 0) (.str []))
    (.ret (.str [101, 110, 100]))
    .skip)
  (.seq (.ite (.cmp .isIn (.loc 0) (.str [32, 9, 10, 12, 13]))
    (.ret (.str [98, 108, 97, 110, 107]))
    .skip)
  (.seq (.ite (.cmp .isIn (.loc 0) (.str [48, 49, 50, 51, 52, 53, 54, 55, 56, 57]))
    (.ret (.str [100, 105, 103, 105, 116]))
    .skip)
  (.seq (.ite (.or (.cmp .isIn (.loc 0) (.str [45, 95, 97, 98, 99, 100, 101, 102, 103, 104, 105, 106, 107, 108, 109, 110, 111, 112, 113, 114, 115, 116, 117, 118, 119, 120, 121, 122, 65, 66, 67, 68, 69, 70, 71, 72, 73, 74, 75, 76, 77, 78, 79, 80, 81, 82, 83, 84, 85, 86, 87, 88, 89, 90])) (.cmp .gt (.ord (.loc 0)) (.int 127)))
    (.ret (.str [108, 101, 116, 116, 101, 114]))
    .skip)
  (.ret (.str [109, 97, 114, 107]))))))

-- 21 _law_take: 0 due, 1 sort, 2 word
noncomputable def names_law_take : List PySem.Str := [PySem.Str.ofString "due", PySem.Str.ofString "sort", PySem.Str.ofString "word"]
noncomputable def body_law_take : S :=
  (.seq (.ite (.cmp .eq (.loc 1) (.str [110, 97, 109, 101]))
    (.setItem (.loc 0) (.str [110, 97, 109, 101]) (.loc 2))
    (.ite (.or (.cmp .eq (.loc 1) (.str [105, 100, 115])) (.cmp .eq (.loc 1) (.str [99, 108, 97, 115, 115, 101, 115])))
      (.expr (.append (.idx (.loc 0) (.loc 1)) (.loc 2)))
      (.ite (.cmp .eq (.loc 1) (.str [97, 116, 116, 114]))
        (.seq (.expr (.append (.idx (.loc 0) (.str [97, 116, 116, 114, 115])) (.tup (.cons (.loc 2) (.cons .none .nil)))))
        (.ret (.str [110, 97, 109, 101, 100])))
        (.seq (.expr (.append (.idx (.loc 0) (.str [97, 116, 116, 114, 115])) (.tup (.cons (.idx (.pop (.idx (.loc 0) (.str [97, 116, 116, 114, 115]))) (.int 0)) (.cons (.loc 2) .nil)))))
        (.ret (.str [118, 97, 108, 117, 101, 100]))))))
  (.ret (.str [109, 111, 114, 101])))

-- 22 _law_read: 0 text, 1 chains, 2 place, 3 state, 4 joint, 5 sort, 6 word, 7 quote, 8 sign, 9 kind
noncomputable def names_law_read : List PySem.Str := [PySem.Str.ofString "text", PySem.Str.ofString "chains", PySem.Str.ofString "place", PySem.Str.ofString "state", PySem.Str.ofString "joint", PySem.Str.ofString "sort", PySem.Str.ofString "word", PySem.Str.ofString "quote", PySem.Str.ofString "sign", PySem.Str.ofString "kind"]
noncomputable def body_law_read : S :=
  (.seq (.assign 1 (.list (.cons (.list .nil) .nil)))
  (.seq (.unpack [3, 4, 5, 6, 7] (.tup (.cons (.str [112, 97, 114, 116]) (.cons (.str []) (.cons (.str []) (.cons (.str []) (.cons (.str []) .nil)))))))
  (.forRange 2 (.op .add (.len (.loc 0)) (.int 1))
    (.seq (.assign 8 (.slice (.loc 0) (.loc 2) (.op .add (.loc 2) (.int 1))))
    (.seq (.assign 9 (.call 20 (.cons (.loc 8) .nil)))
    (.seq (.ite (.cmp .eq (.loc 3) (.str [119, 111, 114, 100]))
      (.seq (.ite (.or (.cmp .eq (.loc 9) (.str [108, 101, 116, 116, 101, 114])) (.and (.cmp .eq (.loc 9) (.str [100, 105, 103, 105, 116])) (.cmp .notIn (.loc 6) (.flist (.cons (.str []) (.cons (.str [45]) .nil))))))
        (.seq (.assign 6 (.op .add (.loc 6) (.loc 8)))
        .cont)
        .skip)
      (.seq (.ite (.or (.cmp .isIn (.loc 6) (.flist (.cons (.str []) (.cons (.str [45]) .nil)))) (.and (.cmp .eq (.loc 6) (.str [45, 45])) (.cmp .eq (.loc 8) (.str [62]))))
        (.ret (.str [97, 32, 115, 101, 108, 101, 99, 116, 111, 114, 32, 108, 97, 99, 107, 115, 32, 97, 32, 119, 111, 114, 100]))
        .skip)
      (.assign 3 (.call 21 (.cons (.idx (.idx (.idx (.loc 1) (.neg 1)) (.neg 1)) (.int 1)) (.cons (.loc 5) (.cons (.loc 6) .nil)))))))
      .skip)
    (.seq (.ite (.cmp .eq (.loc 3) (.str [113, 117, 111, 116, 101, 100]))
      (.seq (.ite (.cmp .isIn (.loc 8) (.flist (.cons (.str []) (.cons (.str [92]) (.cons (.str [10]) (.cons (.str [13]) (.cons (.str [12]) .nil)))))))
        (.ret (.str [97, 32, 115, 101, 108, 101, 99, 116, 111, 114, 39, 115, 32, 118, 97, 108, 117, 101, 32, 105, 115, 32, 110, 111, 116, 32, 99, 108, 111, 115, 101, 100]))
        .skip)
      (.seq (.ite (.cmp .eq (.loc 8) (.loc 7))
        (.assign 3 (.call 21 (.cons (.idx (.idx (.idx (.loc 1) (.neg 1)) (.neg 1)) (.int 1)) (.cons (.str [118, 97, 108, 117, 101]) (.cons (.loc 6) .nil)))))
        .skip)
      (.seq (.assign 6 (.op .add (.loc 6) (.loc 8)))
      .cont)))
      .skip)
    (.seq (.ite (.cmp .eq (.loc 9) (.str [98, 108, 97, 110, 107]))
      (.seq (.assign 3 (.ifx (.cmp .eq (.loc 3) (.str [109, 111, 114, 101])) (.str [103, 97, 112]) (.loc 3)))
      .cont)
      .skip)
    (.seq (.ite (.and (.cmp .eq (.loc 3) (.str [103, 97, 112])) (.cmp .notIn (.loc 8) (.flist (.cons (.str []) (.cons (.str [44]) (.cons (.str [62]) (.cons (.str [43]) (.cons (.str [126]) .nil))))))))
      (.unpack [3, 4] (.tup (.cons (.str [112, 97, 114, 116]) (.cons (.str [32]) .nil))))
      .skip)
    (.seq (.ite (.cmp .isIn (.loc 3) (.flist (.cons (.str [109, 111, 114, 101]) (.cons (.str [103, 97, 112]) .nil))))
      (.seq (.ite (.cmp .eq (.loc 8) (.str []))
        (.ret (.loc 1))
        .skip)
      (.seq (.ite (.cmp .eq (.loc 8) (.str [44]))
        (.expr (.append (.loc 1) (.list .nil)))
        (.ite (.cmp .notIn (.loc 8) (.flist (.cons (.str [62]) (.cons (.str [43]) (.cons (.str [126]) (.cons (.str [35]) (.cons (.str [46]) (.cons (.str [91]) .nil))))))))
          (.ret (.str [97, 32, 115, 101, 108, 101, 99, 116, 111, 114, 32, 104, 97, 115, 32, 97, 32, 115, 105, 103, 110, 32, 116, 104, 97, 116, 32, 105, 115, 32, 110, 111, 116, 32, 107, 110, 111, 119, 110, 32, 104, 101, 114, 101]))
          .skip))
      (.ite (.cmp .isIn (.loc 8) (.flist (.cons (.str [44]) (.cons (.str [62]) (.cons (.str [43]) (.cons (.str [126]) .nil))))))
        (.unpack [3, 4] (.tup (.cons (.str [112, 97, 114, 116]) (.cons (.replace (.loc 8) [44] []) .nil))))
        .skip)))
      (.ite (.cmp .eq (.loc 3) (.str [112, 97, 114, 116]))
        (.seq (.ite (.and (.cmp .ne (.loc 9) (.str [108, 101, 116, 116, 101, 114])) (.and (.cmp .ne (.loc 9) (.str [100, 105, 103, 105, 116])) (.cmp .notIn (.loc 8) (.flist (.cons (.str [42]) (.cons (.str [35]) (.cons (.str [46]) (.cons (.str [91]) .nil))))))))
          (.ret (.str [97, 32, 115, 101, 108, 101, 99, 116, 111, 114, 32, 108, 97, 99, 107, 115, 32, 97, 32, 112, 97, 114, 116]))
          .skip)
        (.seq (.expr (.append (.idx (.loc 1) (.neg 1)) (.tup (.cons (.loc 4) (.cons (.dict [[110, 97, 109, 101], [105, 100, 115], [99, 108, 97, 115, 115, 101, 115], [97, 116, 116, 114, 115]] (.cons (.str []) (.cons (.list .nil) (.cons (.list .nil) (.cons (.list .nil) .nil))))) .nil)))))
        (.seq (.assign 3 (.str [109, 111, 114, 101]))
        (.seq (.ite (.cmp .eq (.loc 9) (.str [108, 101, 116, 116, 101, 114]))
          (.unpack [3, 5, 6] (.tup (.cons (.str [119, 111, 114, 100]) (.cons (.str [110, 97, 109, 101]) (.cons (.loc 8) .nil)))))
          .skip)
        (.ite (.cmp .eq (.loc 9) (.str [100, 105, 103, 105, 116]))
          (.ret (.str [97, 32, 115, 101, 108, 101, 99, 116, 111, 114, 32, 108, 97, 99, 107, 115, 32, 97, 32, 119, 111, 114, 100]))
          .skip)))))
        (.ite (.or (.cmp .eq (.loc 3) (.str [98, 114, 97, 99, 107, 101, 116])) (.cmp .eq (.loc 3) (.str [101, 113, 117, 97, 108])))
          (.ite (.and (.cmp .eq (.loc 3) (.str [101, 113, 117, 97, 108])) (.cmp .isIn (.loc 8) (.flist (.cons (.str [39]) (.cons (.str [34]) .nil)))))
            (.unpack [3, 7, 6] (.tup (.cons (.str [113, 117, 111, 116, 101, 100]) (.cons (.loc 8) (.cons (.str []) .nil)))))
            (.ite (.cmp .eq (.loc 9) (.str [108, 101, 116, 116, 101, 114]))
              (.seq (.assign 5 (.ifx (.cmp .eq (.loc 3) (.str [98, 114, 97, 99, 107, 101, 116])) (.str [97, 116, 116, 114]) (.str [118, 97, 108, 117, 101])))
              (.unpack [3, 6] (.tup (.cons (.str [119, 111, 114, 100]) (.cons (.loc 8) .nil)))))
              (.ret (.str [97, 32, 115, 101, 108, 101, 99, 116, 111, 114, 32, 108, 97, 99, 107, 115, 32, 97, 32, 119, 111, 114, 100]))))
          (.ite (.and (.cmp .eq (.loc 3) (.str [110, 97, 109, 101, 100])) (.cmp .eq (.loc 8) (.str [61])))
            (.assign 3 (.str [101, 113, 117, 97, 108]))
            (.ite (.cmp .eq (.loc 8) (.str [93]))
              (.assign 3 (.str [109, 111, 114, 101]))
              (.ret (.str [97, 32, 115, 101, 108, 101, 99, 116, 111, 114, 39, 115, 32, 98, 114, 97, 99, 107, 101, 116, 32, 105, 115, 32, 110, 111, 116, 32, 99, 108, 111, 115, 101, 100])))))))
    (.seq (.ite (.and (.cmp .eq (.loc 3) (.str [109, 111, 114, 101])) (.cmp .eq (.loc 8) (.str [91])))
      (.assign 3 (.str [98, 114, 97, 99, 107, 101, 116]))
      .skip)
    (.ite (.and (.cmp .eq (.loc 3) (.str [109, 111, 114, 101])) (.cmp .isIn (.loc 8) (.flist (.cons (.str [35]) (.cons (.str [46]) .nil)))))
      (.unpack [3, 5, 6] (.tup (.cons (.str [119, 111, 114, 100]) (.cons (.ifx (.cmp .eq (.loc 8) (.str [35])) (.str [105, 100, 115]) (.str [99, 108, 97, 115, 115, 101, 115])) (.cons (.str []) .nil)))))
      .skip))))))))))))

-- 23 _law_told: 0 text, 1 fault
noncomputable def names_law_told : List PySem.Str := [PySem.Str.ofString "text", PySem.Str.ofString "fault"]
-- 24 law: 0 script, 1 hand, 2 others, 3 other, 4 text, 5 due
noncomputable def names_law : List PySem.Str := [PySem.Str.ofString "script", PySem.Str.ofString "hand", PySem.Str.ofString "others", PySem.Str.ofString "other", PySem.Str.ofString "text", PySem.Str.ofString "due"]
noncomputable def body_law : S :=
  (.seq (.assign 1 (.list (.cons (.ifx (.cmp .ne (.loc 0) (.flist .nil)) (.loc 0) (.flist (.cons (.int 5) .nil))) (.cons (.int 0) .nil))))
  (.seq (.unpack [4, 5] (.call 16 (.cons (.loc 1) .nil)))
  (.seq (.ite (.cmp .ne (.call 23 (.cons (.loc 4) .nil)) (.loc 5))
    (.ret (.bool false))
    .skip)
  (.seq (.assign 2 (.flist (.cons (.call 17 (.cons (.loc 1) (.cons (.loc 4) .nil))) (.cons (.call 17 (.cons (.loc 1) (.cons (.loc 4) .nil))) (.cons (.call 18 (.cons (.loc 1) .nil)) (.cons (.call 19 (.cons (.loc 1) .nil)) .nil))))))
  (.seq (.forList 3 (.loc 2)
    (.seq (.assign 3 (.replace (.loc 3) [35, 45, 45, 62] [35, 45, 45, 120, 62]))
    (.ite (.cmp .ne (.call 23 (.cons (.loc 3) .nil)) (.call 22 (.cons (.loc 3) .nil)))
      (.ret (.bool false))
      .skip)))
  (.ret (.bool true)))))))

noncomputable def nmsAll : List (List PySem.Str) := [names_is_space, names_is_digit, names_is_alnum, names_past_spaces, names_is_word_sign, names_read_word, names_read_value, names_read_attr, names_read_simple, names_read_chain, names_read_selector, names_law_draw, names_law_word, names_law_gap, names_law_bracket, names_law_part, names_law_written, names_law_spoiled, names_law_valued, names_law_loose, names_law_kind, names_law_take, names_law_read, names_law_told, names_law]

noncomputable def bodyOf : Nat → Option (Nat × Nat × S)
  | 0 => some (1, 1, body_is_space)
  | 1 => some (1, 1, body_is_digit)
  | 2 => some (1, 1, body_is_alnum)
  | 3 => some (2, 2, body_past_spaces)
  | 4 => some (1, 1, body_is_word_sign)
  | 5 => some (2, 6, body_read_word)
  | 6 => some (2, 4, body_read_value)
  | 7 => some (2, 4, body_read_attr)
  | 8 => some (2, 9, body_read_simple)
  | 9 => some (2, 6, body_read_chain)
  | 10 => some (1, 4, body_read_selector)
  | 11 => some (2, 4, body_law_draw)
  | 12 => some (1, 1, body_law_word)
  | 13 => some (1, 1, body_law_gap)
  | 14 => some (1, 6, body_law_bracket)
  | 15 => some (1, 9, body_law_part)
  | 16 => some (1, 8, body_law_written)
  | 17 => some (2, 5, body_law_spoiled)
  | 18 => some (1, 4, body_law_valued)
  | 19 => some (1, 4, body_law_loose)
  | 20 => some (1, 1, body_law_kind)
  | 21 => some (3, 3, body_law_take)
  | 22 => some (1, 10, body_law_read)
  | 24 => some (1, 6, body_law)
  | _ => none

noncomputable def runBody (C : Calls) (nslots : Nat) (b : S) (args : List V) (h : List O) : CRes :=
  match exec C b ⟨args.map some ++ List.replicate (nslots - args.length) Option.none, h⟩ with
  | some (.ok (.ret v), st) => some (.ok v, st.heap)
  | some (.error w, st) => some (.error w, st.heap)
  | _ => Option.none

noncomputable def callN : Nat → Calls
  | 0 => fun _ _ _ => Option.none
  | n + 1 => fun f args h =>
    if f = 23 then match callN n 10 args h with
      | some (.error w, h) => if w.length ≤ lim then some (.ok (.str w), h) else Option.none
      | r => r
    else match bodyOf f with
      | some (np, ns, b) => if args.length = np then runBody (callN n) ns b args h else Option.none
      | Option.none => Option.none

theorem no {α : Type} {v : α} {P : Prop} (h : Option.none = some v) : P := nomatch h
theorem no1 {α : Type} {v : α} {P : Prop} (h : some v = Option.none) : P := nomatch h
theorem no2 {P : Prop} (h : false = true) : P := nomatch h

theorem ifE {P : Prop} {c : Prop} [Decidable c] {α : Type} {x : Option α} {v : α} (e : (if c then x else Option.none) = some v) (k : c → x = some v → P) : P := by
  by_cases h : c
  · rw [if_pos h] at e; exact k h e
  · rw [if_neg h] at e; exact no e
theorem ifN {P : Prop} {c : Prop} [Decidable c] {α : Type} {x : Option α} {v : α} (e : (if c then Option.none else x) = some v) (k : ¬ c → x = some v → P) : P := by
  by_cases h : c
  · rw [if_pos h] at e; exact no e
  · rw [if_neg h] at e; exact k h e
theorem mapE {P : Prop} {α β : Type} {f : α → β} {o : Option α} {v : β} (e : o.map f = some v) (k : ∀ a, o = some a → f a = v → P) : P :=
  match o, e with
  | some a, e => k a rfl (Option.some.inj e)
  | Option.none, e => no e

theorem boolE {P : V → Prop} {α : Type} {A B : Option α} {r : α} {x : V} (e : (match x with | .bool true => A | .bool false => B | _ => Option.none) = some r) (ht : A = some r → P (.bool true)) (hf : B = some r → P (.bool false)) : P x := by
  cases x <;> first | exact no e | skip
  rename_i b; cases b
  · exact hf e
  · exact ht e
theorem noE {α ε : Type} {x : ε} {v : α} {P : Prop} (h : (Except.error x : Except ε α) = .ok v) : P := nomatch h
theorem noE1 {α ε : Type} {x : ε} {v : α} {P : Prop} (h : (Except.ok v : Except ε α) = .error x) : P := nomatch h
theorem bd_e {α β : Type} {m : Res α} {k : α → St → Res β} {P : Except (List Nat) β → St → Prop} {r : Except (List Nat) β} {t' : St} (e : bd m k = some (r, t')) (h1 : ∀ x t₁, m = some (.error x, t₁) → P (.error x) t₁) (h2 : ∀ v t₁, m = some (.ok v, t₁) → k v t₁ = some (r, t') → P r t') : P r t' := by
  rcases m with _ | ⟨_ | v, t₁⟩
  · exact no e
  · obtain ⟨rfl, rfl⟩ := Prod.mk.inj (Option.some.inj e); exact h1 _ _ rfl
  · exact h2 _ _ rfl e

theorem eE_loc {C : Calls} {i} {st : St} : evalE C (.loc i) st = (match st.loc[i]? with
    | some (some v) => ok v st
    | _ => Option.none) := rfl
theorem eE_none {C : Calls} {st : St} : evalE C .none st = (ok .none st) := rfl
theorem eE_bool {C : Calls} {b} {st : St} : evalE C (.bool b) st = (ok (.bool b) st) := rfl
theorem eE_int {C : Calls} {i} {st : St} : evalE C (.int i) st = (ok (.int i) st) := rfl
theorem eE_neg {C : Calls} {i} {st : St} : evalE C (.neg i) st = (ok (.int (-(i : Int))) st) := rfl
theorem eE_str {C : Calls} {s} {st : St} : evalE C (.str s) st = (ok (.str s) st) := rfl
theorem eE_op {C : Calls} {o a b} {st : St} : evalE C (.op o a b) st = (bd (evalE C a st) fun x st => bd (evalE C b st) fun y st => lift (opV o x y) st) := rfl
theorem eE_cmp {C : Calls} {c a b} {st : St} : evalE C (.cmp c a b) st = (bd (evalE C a st) fun x st => bd (evalE C b st) fun y st => lift ((cmpV st.heap c x y).map .bool) st) := rfl
theorem eE_between {C : Calls} {a b c} {st : St} : evalE C (.between a b c) st = (bd (evalE C a st) fun x st => bd (evalE C b st) fun y st => match cmpV st.heap .le x y with
    | some true => bd (evalE C c st) fun z st => lift ((cmpV st.heap .le y z).map .bool) st
    | some false => ok (.bool false) st
    | Option.none => Option.none) := rfl
theorem eE_and {C : Calls} {a b} {st : St} : evalE C (.and a b) st = (bd (evalE C a st) fun x st => match x with
    | .bool true => evalE C b st
    | .bool false => ok (.bool false) st
    | _ => Option.none) := rfl
theorem eE_or {C : Calls} {a b} {st : St} : evalE C (.or a b) st = (bd (evalE C a st) fun x st => match x with
    | .bool true => ok (.bool true) st
    | .bool false => evalE C b st
    | _ => Option.none) := rfl
theorem eE_ifx {C : Calls} {c a b} {st : St} : evalE C (.ifx c a b) st = (bd (evalE C c st) fun x st => match x with
    | .bool true => evalE C a st
    | .bool false => evalE C b st
    | _ => Option.none) := rfl
theorem eE_nil {C : Calls} {st : St} : evalE C .nil st = (ok (.lst []) st) := rfl
theorem eE_cons {C : Calls} {a b} {st : St} : evalE C (.cons a b) st = (bd (evalE C a st) fun x st => bd (evalE C b st) fun y st => match y with
    | .lst vs => ok (.lst (x :: vs)) st
    | _ => Option.none) := rfl
theorem eE_tup {C : Calls} {es} {st : St} : evalE C (.tup es) st = (bd (evalE C es st) fun x st => match x with
    | .lst vs => ok (.tup vs) st
    | _ => Option.none) := rfl
theorem eE_list {C : Calls} {es} {st : St} : evalE C (.list es) st = (bd (evalE C es st) fun x st => match x with
    | .lst vs => ok (.ref st.heap.length) ⟨st.loc, st.heap ++ [.list vs]⟩
    | _ => Option.none) := rfl
theorem eE_flist {C : Calls} {es} {st : St} : evalE C (.flist es) st = (evalE C es st) := rfl
theorem eE_dict {C : Calls} {ks es} {st : St} : evalE C (.dict ks es) st = (bd (evalE C es st) fun x st => match x with
    | .lst vs => if vs.length = ks.length then ok (.ref st.heap.length) ⟨st.loc, st.heap ++ [.dict (ks.zip vs)]⟩ else Option.none
    | _ => Option.none) := rfl
theorem eE_call {C : Calls} {f es} {st : St} : evalE C (.call f es) st = (bd (evalE C es st) fun x st => match x with
    | .lst vs => match C f vs st.heap with
      | some (r, h) => some (r, ⟨st.loc, h⟩)
      | Option.none => Option.none
    | _ => Option.none) := rfl
theorem eE_len {C : Calls} {a} {st : St} : evalE C (.len a) st = (bd (evalE C a st) fun x st => match x with
    | .str s => ok (.int s.length) st
    | .lst vs => ok (.int vs.length) st
    | _ => Option.none) := rfl
theorem eE_ord {C : Calls} {a} {st : St} : evalE C (.ord a) st = (bd (evalE C a st) fun x st => match x with
    | .str [c] => ok (.int c) st
    | _ => Option.none) := rfl
theorem eE_idx {C : Calls} {a i} {st : St} : evalE C (.idx a i) st = (bd (evalE C a st) fun x st => bd (evalE C i st) fun y st => lift (idxV st.heap x y) st) := rfl
theorem eE_slice {C : Calls} {a lo hi} {st : St} : evalE C (.slice a lo hi) st = (bd (evalE C a st) fun x st => bd (evalE C lo st) fun y st => bd (evalE C hi st) fun z st => match x, y, z with
    | .str s, .int l, .int u => ok (.str (sliceV s l u)) st
    | _, _, _ => Option.none) := rfl
theorem eE_sliceFrom {C : Calls} {a lo} {st : St} : evalE C (.sliceFrom a lo) st = (bd (evalE C a st) fun x st => bd (evalE C lo st) fun y st => match x, y with
    | .str s, .int l => ok (.str (sliceV s l s.length)) st
    | _, _ => Option.none) := rfl
theorem eE_sliceTo {C : Calls} {a hi} {st : St} : evalE C (.sliceTo a hi) st = (bd (evalE C a st) fun x st => bd (evalE C hi st) fun z st => match x, z with
    | .str s, .int u => ok (.str (sliceV s 0 u)) st
    | _, _ => Option.none) := rfl
theorem eE_append {C : Calls} {a x} {st : St} : evalE C (.append a x) st = (bd (evalE C a st) fun l st => match l with
    | .ref n => match st.heap[n]? with
      | some (.list _) => bd (evalE C x st) fun v st => match st.heap[n]? with
        | some (.list vs) => if vs.length < lim then ok .none ⟨st.loc, st.heap.set n (.list (vs ++ [v]))⟩ else Option.none
        | _ => Option.none
      | _ => Option.none
    | _ => Option.none) := rfl
theorem eE_pop {C : Calls} {a} {st : St} : evalE C (.pop a) st = (bd (evalE C a st) fun l st => match l with
    | .ref n => match st.heap[n]? with
      | some (.list vs) => match vs.getLast? with
        | some v => ok v ⟨st.loc, st.heap.set n (.list vs.dropLast)⟩
        | Option.none => Option.none
      | _ => Option.none
    | _ => Option.none) := rfl
theorem eE_endswith {C : Calls} {a x} {st : St} : evalE C (.endswith a x) st = (bd (evalE C a st) fun u st => match u with
    | .str s => bd (evalE C x st) fun v st => match v with
      | .str t => ok (.bool (endsW s t)) st
      | _ => Option.none
    | _ => Option.none) := rfl
theorem eE_replace {C : Calls} {a old new} {st : St} : evalE C (.replace a old new) st = (bd (evalE C a st) fun u st => match u with
    | .str s => if old = [] ∨ old = new ∨ 14 < new.length ∨ 1000000 < s.length ∨ lim < (repl s old new).length then Option.none else ok (.str (repl s old new)) st
    | _ => Option.none) := rfl
theorem eS_skip {C : Calls} {st : St} : exec C .skip st = (ok .next st) := rfl
theorem eS_cont {C : Calls} {st : St} : exec C .cont st = (ok .cont st) := rfl
theorem eS_seq {C : Calls} {a b} {st : St} : exec C (.seq a b) st = (bd (exec C a st) fun f st => match f with
    | .next => exec C b st
    | f => ok f st) := rfl
theorem eS_assign {C : Calls} {i e} {st : St} : exec C (.assign i e) st = (bd (evalE C e st) fun v st => ok .next (st.put i v)) := rfl
theorem eS_unpack {C : Calls} {is e} {st : St} : exec C (.unpack is e) st = (bd (evalE C e st) fun v st => match v with
    | .tup vs => if vs.length = is.length then ok .next (st.putAll is vs) else Option.none
    | _ => Option.none) := rfl
theorem eS_aug {C : Calls} {i e} {st : St} : exec C (.aug i e) st = (match st.loc[i]? with
    | some (some (.int a)) => bd (evalE C e st) fun v st => match v with
      | .int b => ok .next (st.put i (.int (a + b)))
      | _ => Option.none
    | _ => Option.none) := rfl
theorem eS_setItem {C : Calls} {o k e} {st : St} : exec C (.setItem o k e) st = (bd (evalE C e st) fun v st => bd (evalE C o st) fun x st => bd (evalE C k st) fun y st => match storeV st.heap x y v with
    | some h => ok .next ⟨st.loc, h⟩
    | Option.none => Option.none) := rfl
theorem eS_expr {C : Calls} {e} {st : St} : exec C (.expr e) st = (bd (evalE C e st) fun _ st => ok .next st) := rfl
theorem eS_ret {C : Calls} {e} {st : St} : exec C (.ret e) st = (bd (evalE C e st) fun v st => ok (.ret v) st) := rfl
theorem eS_raise {C : Calls} {w} {st : St} : exec C (.raise w) st = (some (.error w, st)) := rfl
theorem eS_ite {C : Calls} {c a b} {st : St} : exec C (.ite c a b) st = (bd (evalE C c st) fun v st => match v with
    | .bool true => exec C a st
    | .bool false => exec C b st
    | _ => Option.none) := rfl
theorem eS_while {C : Calls} {c b} {st : St} : exec C (.while c b) st = (whileL (evalE C c) (exec C b) fuel st) := rfl
theorem eS_forRange {C : Calls} {i e b} {st : St} : exec C (.forRange i e b) st = (bd (evalE C e st) fun v st => match v with
    | .int n => if 0 ≤ n ∧ n < 2 ^ 40 then forL i (exec C b) ((List.range n.toNat).map fun k => .int (Int.ofNat k)) st else Option.none
    | _ => Option.none) := rfl
theorem eS_forList {C : Calls} {i e b} {st : St} : exec C (.forList i e b) st = (bd (evalE C e st) fun v st => match v with
    | .lst vs => forL i (exec C b) vs st
    | _ => Option.none) := rfl

end Nt
end

section
set_option genSizeOf false
set_option genInjectivity false
set_option maxRecDepth 100000
set_option autoImplicit false
namespace Nt
namespace D

noncomputable def isSp (c : Nat) : Bool := c == 9 || (c == 10 || (c == 12 || (c == 13 || c == 32)))
noncomputable def isDg (c : Nat) : Bool := decide (48 ≤ c) && decide (c ≤ 57)
noncomputable def isLt (c : Nat) : Bool := c == 45 || (c == 95 || ((decide (97 ≤ c) && decide (c ≤ 122)) || ((decide (65 ≤ c) && decide (c ≤ 90)) || decide (128 ≤ c))))
noncomputable def isWs (c : Nat) : Bool := isLt c || isDg c

noncomputable def eWord : List Nat := [97, 32, 115, 101, 108, 101, 99, 116, 111, 114, 32, 108, 97, 99, 107, 115, 32, 97, 32, 119, 111, 114, 100]
noncomputable def eVal : List Nat := [97, 32, 115, 101, 108, 101, 99, 116, 111, 114, 39, 115, 32, 118, 97, 108, 117, 101, 32, 105, 115, 32, 110, 111, 116, 32, 99, 108, 111, 115, 101, 100]
noncomputable def eBrk : List Nat := [97, 32, 115, 101, 108, 101, 99, 116, 111, 114, 39, 115, 32, 98, 114, 97, 99, 107, 101, 116, 32, 105, 115, 32, 110, 111, 116, 32, 99, 108, 111, 115, 101, 100]
noncomputable def ePart : List Nat := [97, 32, 115, 101, 108, 101, 99, 116, 111, 114, 32, 108, 97, 99, 107, 115, 32, 97, 32, 112, 97, 114, 116]
noncomputable def eSign : List Nat := [97, 32, 115, 101, 108, 101, 99, 116, 111, 114, 32, 104, 97, 115, 32, 97, 32, 115, 105, 103, 110, 32, 116, 104, 97, 116, 32, 105, 115, 32, 110, 111, 116, 32, 107, 110, 111, 119, 110, 32, 104, 101, 114, 101]

structure Part where
  name : List Nat
  ids : List (List Nat)
  classes : List (List Nat)
  attrs : List (List Nat × Option (List Nat))
noncomputable abbrev Chain := List (List Nat × Part)
noncomputable def noPart : Part := ⟨[], [], [], []⟩

inductive Srt where
  | name | ids | classes | attr | value
inductive Q where
  | part | more | gap | word (t : Srt) (w : List Nat) | bracket | named | equal | valued | quoted (q : Nat) (w : List Nat)

/-- the chains that stand, the chain under way, the joint and the part under way -/
structure Ctx where
  cs : List Chain
  cur : Chain
  j : List Nat
  p : Part

noncomputable def Part.take (p : Part) (t : Srt) (w : List Nat) : Part := match t with
  | .name => { p with name := w }
  | .ids => { p with ids := p.ids ++ [w] }
  | .classes => { p with classes := p.classes ++ [w] }
  | .attr => { p with attrs := p.attrs ++ [(w, none)] }
  | .value => { p with attrs := p.attrs.dropLast ++ [((p.attrs.getLast?.map (·.1)).getD [], some w)] }
noncomputable def after : Srt → Q
  | .attr => .named
  | .value => .valued
  | _ => .more
noncomputable def Ctx.take (x : Ctx) (t : Srt) (w : List Nat) : Ctx := { x with p := x.p.take t w }
noncomputable def Ctx.fresh (x : Ctx) : Ctx := { x with p := noPart }
/-- the part under way is laid to its chain -/
noncomputable def Ctx.laid (x : Ctx) : Chain := x.cur ++ [(x.j, x.p)]
noncomputable def Ctx.join (x : Ctx) (j : List Nat) : Ctx := ⟨x.cs, x.laid, j, noPart⟩
noncomputable def Ctx.comma (x : Ctx) : Ctx := ⟨x.cs ++ [x.laid], [], [], noPart⟩

noncomputable abbrev M (α : Type) := Except (List Nat) α

noncomputable def partStep (x : Ctx) (c : Nat) : M (Q × Ctx) :=
  if isSp c then .ok (.part, x)
  else if isLt c then .ok (.word .name [c], x.fresh)
  else if isDg c then .error eWord
  else if c = 42 then .ok (.more, x.fresh)
  else if c = 35 then .ok (.word .ids [], x.fresh)
  else if c = 46 then .ok (.word .classes [], x.fresh)
  else if c = 91 then .ok (.bracket, x.fresh)
  else .error ePart
noncomputable def isJoint (c : Nat) : Bool := c == 62 || (c == 43 || c == 126)
noncomputable def step1 (q : Q) (x : Ctx) (c : Nat) : M (Q × Ctx) := match q with
  | .part => partStep x c
  | .more => if isSp c then .ok (.gap, x) else if c = 44 then .ok (.part, x.comma) else if isJoint c then .ok (.part, x.join [c])
      else if c = 35 then .ok (.word .ids [], x) else if c = 46 then .ok (.word .classes [], x) else if c = 91 then .ok (.bracket, x) else .error eSign
  | .gap => if isSp c then .ok (.gap, x) else if c = 44 then .ok (.part, x.comma) else if isJoint c then .ok (.part, x.join [c]) else partStep (x.join [32]) c
  | .bracket => if isSp c then .ok (.bracket, x) else if isLt c then .ok (.word .attr [c], x) else .error eWord
  | .named => if isSp c then .ok (.named, x) else if c = 61 then .ok (.equal, x) else if c = 93 then .ok (.more, x) else .error eBrk
  | .equal => if isSp c then .ok (.equal, x) else if c = 39 ∨ c = 34 then .ok (.quoted c [], x) else if isLt c then .ok (.word .value [c], x) else .error eWord
  | .valued => if isSp c then .ok (.valued, x) else if c = 93 then .ok (.more, x) else .error eBrk
  | .quoted qt w => if c = 92 ∨ c = 10 ∨ c = 13 ∨ c = 12 then .error eVal else if c = qt then .ok (.valued, x.take .value w) else .ok (.quoted qt (w ++ [c]), x)
  | .word _ _ => .error []
noncomputable def bareless (w : List Nat) : Bool := w == [] || w == [45]
noncomputable def step (q : Q) (x : Ctx) (c : Nat) : M (Q × Ctx) := match q with
  | .word t w => if isLt c || (isDg c && !bareless w) then .ok (.word t (w ++ [c]), x)
      else if bareless w || (w == [45, 45] && c == 62) then .error eWord
      else step1 (after t) (x.take t w) c
  | q => step1 q x c
noncomputable def fin1 (q : Q) (x : Ctx) : M (List Chain) := match q with
  | .part => .error ePart
  | .more => .ok (x.cs ++ [x.laid])
  | .gap => .ok (x.cs ++ [x.laid])
  | .bracket => .error eWord
  | .equal => .error eWord
  | .named => .error eBrk
  | .valued => .error eBrk
  | .quoted _ _ => .error eVal
  | .word _ _ => .error []
noncomputable def fin (q : Q) (x : Ctx) : M (List Chain) := match q with
  | .word t w => if bareless w then .error eWord else fin1 (after t) (x.take t w)
  | q => fin1 q x
noncomputable def run : Q → Ctx → List Nat → M (List Chain)
  | q, x, [] => fin q x
  | q, x, c :: s => match step q x c with
    | .ok (q', x') => run q' x' s
    | .error e => .error e
noncomputable def ctx0 : Ctx := ⟨[], [], [], noPart⟩

noncomputable def bare (w : List Nat) : List Nat := match w with
  | 45 :: t => t
  | _ => w
noncomputable def badWord (w r : List Nat) : Bool := match bare w with
  | [] => true
  | c :: _ => isDg c || (w == [45, 45] && r.head? == some 62)
noncomputable def good (w : List Nat) : Prop := ∀ c t, bare w = c :: t → isDg c = false

theorem lt_not_dg {c : Nat} (h : isLt c = true) : isDg c = false := by
  simp only [isLt, isDg, Bool.or_eq_true, Bool.and_eq_true, decide_eq_true_eq, beq_iff_eq, Bool.and_eq_false_iff, decide_eq_false_iff_not] at *
  (first | lia | omega)
theorem lt_not_sp {c : Nat} (h : isLt c = true) : isSp c = false := by
  simp only [isLt, isSp, Bool.or_eq_true, Bool.and_eq_true, decide_eq_true_eq, beq_iff_eq, Bool.or_eq_false_iff, beq_eq_false_iff_ne] at *
  (first | lia | omega)
theorem sp_not_lt {c : Nat} (h : isSp c = true) : isLt c = false := by
  cases q : isLt c with
  | false => rfl
  | true => rw [lt_not_sp q] at h; (first | exact no h | exact no1 h | exact no2 h | exact noE h | exact noE1 h | obtain rfl := Option.some.inj h | obtain rfl := Except.ok.inj h | obtain rfl := h | cases h)
theorem sp_not_dg {c : Nat} (h : isSp c = true) : isDg c = false := by
  simp only [isDg, isSp, Bool.or_eq_true, beq_iff_eq, Bool.and_eq_false_iff, decide_eq_false_iff_not] at *
  (first | lia | omega)

theorem bareless_iff (w : List Nat) : bareless w = true ↔ bare w = [] := by
  unfold bareless bare
  split
  · rename_i t; simp
  · rename_i h
    cases w with
    | nil => simp
    | cons a t =>
      simp
      intro h1 _
      subst h1
      exact h t rfl
theorem good_of_bareless {w : List Nat} (h : bareless w = true) : good w := by
  intro c t e
  rw [(bareless_iff w).mp h] at e
  (first | exact no e | exact no1 e | exact no2 e | exact noE e | exact noE1 e | obtain rfl := Option.some.inj e | obtain rfl := Except.ok.inj e | obtain rfl := e | cases e)
theorem bare_append {w : List Nat} {c : Nat} : bareless w = false → bare (w ++ [c]) = bare w ++ [c] := by
  intro h
  cases w with
  | nil => simp [bareless] at h
  | cons a t =>
    by_cases q : a = 45
    · subst q; rfl
    · unfold bare
      split
      · rename_i t' e; simp at e; exact absurd e.1 q
      · split
        · rename_i t' e; simp at e; exact absurd e.1 q
        · rfl
theorem good_append {w : List Nat} {c : Nat} (g : good w) (h : isLt c = true ∨ bareless w = false) : good (w ++ [c]) := by
  by_cases b : bareless w = true
  · rcases h with h | h
    · have hw : w = [] ∨ w = [45] := by simpa [bareless] using b
      intro d t e
      have nd := lt_not_dg h
      rcases hw with rfl | rfl
      · unfold bare at e
        split at e
        · rename_i t' e'; simp at e'; simp [e'] at e
        · (first | exact no e | exact no1 e | exact no2 e | exact noE e | exact noE1 e | obtain rfl := Option.some.inj e | obtain rfl := Except.ok.inj e | obtain rfl := e | cases e); exact nd
      · simp [bare] at e
        rw [← e.1]; exact nd
    · rw [h] at b; (first | exact no b | exact no1 b | exact no2 b | exact noE b | exact noE1 b | obtain rfl := Option.some.inj b | obtain rfl := Except.ok.inj b | obtain rfl := b | cases b)
  · have b : bareless w = false := by simpa using b
    intro d t e
    rw [bare_append b] at e
    cases hb : bare w with
    | nil => rw [(bareless_iff w).mpr hb] at b; (first | exact no b | exact no1 b | exact no2 b | exact noE b | exact noE1 b | obtain rfl := Option.some.inj b | obtain rfl := Except.ok.inj b | obtain rfl := b | cases b)
    | cons a r =>
      rw [hb] at e
      simp at e
      rw [← e.1]
      exact g a r hb

theorem run_word {t : Srt} {x : Ctx} : ∀ (s w0 : List Nat), good w0 → run (.word t w0) x s = if badWord (w0 ++ s.takeWhile isWs) (s.dropWhile isWs) then .error eWord else run (after t) (x.take t (w0 ++ s.takeWhile isWs)) (s.dropWhile isWs) := by
  have nw : ∀ y c s, run (after t) y (c :: s) = match step1 (after t) y c with | .ok (q', x') => run q' x' s | .error e => .error e := by
    intro y c s
    (first | exact no t | exact no1 t | exact no2 t | exact noE t | exact noE1 t | obtain rfl := Option.some.inj t | obtain rfl := Except.ok.inj t | obtain rfl := t | cases t) <;> rfl
  intro s
  induction s with
  | nil =>
    intro w0 g
    simp only [List.takeWhile_nil, List.dropWhile_nil, List.append_nil]
    show (if bareless w0 then _ else _) = _
    unfold badWord
    cases hb : bare w0 with
    | nil => rw [(bareless_iff w0).mpr hb]; rfl
    | cons a r =>
      have nb : bareless w0 = false := by
        cases q : bareless w0 with
        | false => rfl
        | true => rw [(bareless_iff w0).mp q] at hb; (first | exact no hb | exact no1 hb | exact no2 hb | exact noE hb | exact noE1 hb | obtain rfl := Option.some.inj hb | obtain rfl := Except.ok.inj hb | obtain rfl := hb | cases hb)
      rw [nb]
      simp only [g a r hb, List.head?_nil]
      (first | exact no t | exact no1 t | exact no2 t | exact noE t | exact noE1 t | obtain rfl := Option.some.inj t | obtain rfl := Except.ok.inj t | obtain rfl := t | cases t) <;> simp [run, after, fin]
  | cons c s ih =>
    intro w0 g
    show (match step (.word t w0) x c with | .ok (q', x') => run q' x' s | .error e => .error e) = _
    by_cases hw : isWs c = true
    · rw [List.takeWhile_cons_of_pos hw, List.dropWhile_cons_of_pos hw]
      have e1 : w0 ++ c :: s.takeWhile isWs = (w0 ++ [c]) ++ s.takeWhile isWs := by simp
      rw [e1]
      by_cases h : (isLt c || (isDg c && !bareless w0)) = true
      · simp only [step, h, if_true]
        refine ih _ (good_append g ?_)
        simp only [Bool.or_eq_true, Bool.and_eq_true, Bool.not_eq_true'] at h
        exact h.imp id (·.2)
      · have h' : isLt c = false ∧ (isDg c = true ∧ bareless w0 = true) := by
          simp only [isWs, Bool.or_eq_true] at hw
          simp only [Bool.or_eq_true, Bool.and_eq_true, Bool.not_eq_true', not_or, not_and, Bool.not_eq_true, Bool.not_eq_false] at h
          rcases hw with hw | hw
          · rw [h.1] at hw; (first | exact no hw | exact no1 hw | exact no2 hw | exact noE hw | exact noE1 hw | obtain rfl := Option.some.inj hw | obtain rfl := Except.ok.inj hw | obtain rfl := hw | cases hw)
          · exact ⟨h.1, hw, h.2 hw⟩
        obtain ⟨h1, h2, h3⟩ := h'
        simp only [step, h1, h2, h3, Bool.not_true, Bool.and_false, Bool.or_false, Bool.false_eq_true, if_false, Bool.true_or, if_true]
        have : badWord (w0 ++ [c] ++ s.takeWhile isWs) (s.dropWhile isWs) = true := by
          have hw0 : w0 = [] ∨ w0 = [45] := by simpa [bareless] using h3
          have c45 : c ≠ 45 := fun q => by subst q; simp [isLt] at h1
          unfold badWord bare
          rcases hw0 with rfl | rfl
          · simp only [List.nil_append, List.cons_append]
            split
            · rfl
            · rename_i a r e
              split at e
              · rename_i t' e'; simp at e'; exact absurd e'.1 c45
              · simp at e; rw [← e.1, h2]; rfl
          · simp [h2]
        rw [this]; rfl
    · have hw : isWs c = false := by simpa using hw
      rw [List.takeWhile_cons_of_neg (by simp [hw]), List.dropWhile_cons_of_neg (by simp [hw]), List.append_nil]
      simp only [isWs, Bool.or_eq_false_iff] at hw
      simp only [step, hw.1, hw.2, Bool.false_and, Bool.or_false, Bool.false_eq_true, if_false]
      unfold badWord
      cases hb : bare w0 with
      | nil => rw [(bareless_iff w0).mpr hb]; rfl
      | cons a r =>
        have nb : bareless w0 = false := by
          cases q : bareless w0 with
          | false => rfl
          | true => rw [(bareless_iff w0).mp q] at hb; (first | exact no hb | exact no1 hb | exact no2 hb | exact noE hb | exact noE1 hb | obtain rfl := Option.some.inj hb | obtain rfl := Except.ok.inj hb | obtain rfl := hb | cases hb)
        rw [nb]
        simp only [g a r hb, List.head?_cons, Bool.false_or]
        rw [nw]
        have : (some c == some 62) = (c == 62) := by simp
        rw [this]
        cases (w0 == [45, 45] && c == 62) <;> rfl
end D
end Nt
end

section
set_option genSizeOf false
set_option genInjectivity false
set_option maxRecDepth 100000
set_option autoImplicit false
namespace Nt
namespace D

theorem run_step {q : Q} {x : Ctx} {c : Nat} {s : List Nat} : run q x (c :: s) = match step q x c with | .ok (q', x') => run q' x' s | .error e => .error e := rfl
theorem run_of {q q' : Q} {x x' : Ctx} {c : Nat} {s : List Nat} (h : step q x c = .ok (q', x')) : run q x (c :: s) = run q' x' s := by rw [run_step, h]
theorem run_err {q : Q} {x : Ctx} {c : Nat} {s e : List Nat} (h : step q x c = .error e) : run q x (c :: s) = .error e := by rw [run_step, h]

noncomputable def skips : Q → Bool
  | .part | .gap | .bracket | .named | .equal | .valued => true
  | _ => false
theorem step_sp {q : Q} (h : skips q = true) {x : Ctx} {c : Nat} (hc : isSp c = true) : step q x c = .ok (q, x) := by
  (first | exact no q | exact no1 q | exact no2 q | exact noE q | exact noE1 q | obtain rfl := Option.some.inj q | obtain rfl := Except.ok.inj q | obtain rfl := q | cases q) <;> simp_all [skips, step, step1, partStep]
theorem run_sp {q : Q} (h : skips q = true) {x : Ctx} : ∀ s, run q x s = run q x (s.dropWhile isSp)
  | [] => rfl
  | c :: s => by
    by_cases hc : isSp c = true
    · rw [List.dropWhile_cons_of_pos hc, run_of (step_sp h hc), run_sp h s]
    · rw [List.dropWhile_cons_of_neg hc]
theorem run_more_sp {x : Ctx} {c : Nat} {s : List Nat} (hc : isSp c = true) : run .more x (c :: s) = run .gap x ((c :: s).dropWhile isSp) := by
  rw [run_of (show step .more x c = .ok (.gap, x) from by simp [step, step1, hc]), run_sp rfl, List.dropWhile_cons_of_pos hc]

noncomputable def stopQ (q c : Nat) : Bool := c == 92 || (c == 10 || (c == 13 || (c == 12 || c == q)))
theorem run_quoted {q : Nat} {x : Ctx} : ∀ (s w0 : List Nat), (∀ r, s.dropWhile (fun c => !stopQ q c) = q :: r → q ≠ 92 → q ≠ 10 → q ≠ 13 → q ≠ 12 → run (.quoted q w0) x s = run .valued (x.take .value (w0 ++ s.takeWhile (fun c => !stopQ q c))) r) ∧
    ((s.dropWhile (fun c => !stopQ q c)).head? ≠ some q → run (.quoted q w0) x s = .error eVal) := by
  intro s
  induction s with
  | nil => intro w0; exact ⟨fun r h => (by (first | exact no h | exact no1 h | exact no2 h | exact noE h | exact noE1 h | obtain rfl := Option.some.inj h | obtain rfl := Except.ok.inj h | obtain rfl := h | cases h)), fun _ => rfl⟩
  | cons c s ih =>
    intro w0
    by_cases hc : stopQ q c = true
    · rw [List.dropWhile_cons_of_neg (by simp [hc]), List.takeWhile_cons_of_neg (by simp [hc])]
      refine ⟨fun r h n1 n2 n3 n4 => ?_, fun h => ?_⟩
      · obtain ⟨rfl, rfl⟩ := List.cons.inj h
        rw [run_of (show step (.quoted c w0) x c = .ok (.valued, x.take .value w0) from by simp [step, step1, n1, n2, n3, n4]), List.append_nil]
      · refine run_err ?_
        simp only [stopQ, Bool.or_eq_true, beq_iff_eq] at hc
        have : c ≠ q := fun e => h (by simp [e])
        have : c = 92 ∨ c = 10 ∨ c = 13 ∨ c = 12 := by (first | lia | omega)
        simp [step, step1, this]
    · have hc : stopQ q c = false := by simpa using hc
      rw [List.dropWhile_cons_of_pos (by simp [hc]), List.takeWhile_cons_of_pos (by simp [hc])]
      have st : step (.quoted q w0) x c = .ok (.quoted q (w0 ++ [c]), x) := by
        simp only [stopQ, Bool.or_eq_false_iff, beq_eq_false_iff_ne] at hc
        simp [step, step1, hc]
      rw [run_of st]
      have := ih (w0 ++ [c])
      simpa using this

/-- no text holds the mark -->  right behind # -/
noncomputable def NM (s : List Nat) : Prop := ∀ k, (s.drop k).take 4 ≠ [35, 45, 45, 62]
theorem NM.nil : NM [] := fun k h => by simp at h
theorem NM.tail {c : Nat} {s : List Nat} (h : NM (c :: s)) : NM s := fun k => by have := h (k + 1); simpa using this
theorem NM.cons {c : Nat} {s : List Nat} (h : NM s) (hc : (c :: s).take 4 ≠ [35, 45, 45, 62]) : NM (c :: s) := fun k => by
  cases k with
  | zero => simpa using hc
  | succ k => simpa using h k
theorem NM.cons' {c : Nat} {s : List Nat} (h : NM s) (hc : c ≠ 35) : NM (c :: s) := h.cons fun q => by simp at q; exact hc q.1

theorem repl_nm : ∀ (s : List Nat) (k : Nat), NM (replK [35, 45, 45, 62] [35, 45, 45, 120, 62] k s) ∧
    (∀ c, (replK [35, 45, 45, 62] [35, 45, 45, 120, 62] k s).head? = some c → c ≠ 35 → k < s.length ∧ s[k]? = some c ∧ replK [35, 45, 45, 62] [35, 45, 45, 120, 62] k s = c :: replK [35, 45, 45, 62] [35, 45, 45, 120, 62] 0 (s.drop (k + 1))) := by
  intro s
  induction s with
  | nil => intro k; (first | exact no k | exact no1 k | exact no2 k | exact noE k | exact noE1 k | obtain rfl := Option.some.inj k | obtain rfl := Except.ok.inj k | obtain rfl := k | cases k) <;> exact ⟨NM.nil, fun c h => by simp [replK] at h⟩
  | cons c s ih =>
    intro k
    cases k with
    | succ k =>
      obtain ⟨h1, h2⟩ := ih k
      refine ⟨h1, fun d hd hn => ?_⟩
      obtain ⟨a, b, e⟩ := h2 d hd hn
      exact ⟨by simp; (first | lia | omega), by simpa using b, by simpa [replK] using e⟩
    | zero =>
      by_cases hp : [35, 45, 45, 62].isPrefixOf (c :: s) = true
      · have e : replK [35, 45, 45, 62] [35, 45, 45, 120, 62] 0 (c :: s) = 35 :: 45 :: 45 :: 120 :: 62 :: replK [35, 45, 45, 62] [35, 45, 45, 120, 62] 3 s := by
          rw [replK, if_pos hp]; rfl
        rw [e]
        refine ⟨?_, fun d hd hn => by simp at hd; exact absurd hd.symm hn⟩
        have h3 := (ih 3).1
        refine NM.cons (NM.cons' (NM.cons' (NM.cons' (NM.cons' h3 (by decide)) (by decide)) (by decide)) (by decide)) (by simp)
      · have e : replK [35, 45, 45, 62] [35, 45, 45, 120, 62] 0 (c :: s) = c :: replK [35, 45, 45, 62] [35, 45, 45, 120, 62] 0 s := by
          rw [replK, if_neg hp]
        rw [e]
        refine ⟨NM.cons (ih 0).1 fun q => hp ?_, fun d hd hn => ?_⟩
        · -- the four signs are those of the old text
          have go : ∀ (u : List Nat) (a : Nat) (l : List Nat), a ≠ 35 → (replK [35, 45, 45, 62] [35, 45, 45, 120, 62] 0 u).take (l.length + 1) = a :: l → (∃ u', u = a :: u' ∧ (replK [35, 45, 45, 62] [35, 45, 45, 120, 62] 0 u').take l.length = l) := by
            intro u a l ha hu
            cases u with
            | nil => simp [replK] at hu
            | cons b u =>
              by_cases hp2 : [35, 45, 45, 62].isPrefixOf (b :: u) = true
              · rw [replK, if_pos hp2] at hu
                simp at hu
                exact absurd hu.1.symm ha
              · rw [replK, if_neg hp2] at hu
                simp at hu
                obtain ⟨rfl, hu⟩ := hu
                exact ⟨u, rfl, hu⟩
          simp only [List.take_succ_cons, List.cons.injEq] at q
          obtain ⟨rfl, q⟩ := q
          obtain ⟨u1, rfl, q1⟩ := go s 45 [45, 62] (by decide) q
          obtain ⟨u2, rfl, q2⟩ := go u1 45 [62] (by decide) q1
          obtain ⟨u3, rfl, q3⟩ := go u2 62 [] (by decide) q2
          simp [List.isPrefixOf]
        · simp at hd
          subst hd
          exact ⟨by simp, by simp, by simp⟩
theorem nm_repl (s : List Nat) : NM (repl s [35, 45, 45, 62] [35, 45, 45, 120, 62]) := (repl_nm s 0).1
end D
end Nt
end

section
set_option genSizeOf false
set_option genInjectivity false
set_option maxRecDepth 100000
set_option autoImplicit false
namespace Nt
namespace D

theorem drop_cons {t s : List Nat} {k c : Nat} (h : t.drop k = c :: s) : t[k]? = some c ∧ t.drop (k + 1) = s ∧ k < t.length := by
  have h1 : k < t.length := by
    rcases Nat.lt_or_ge k t.length with q | q
    · exact q
    · rw [List.drop_eq_nil_of_le q] at h; (first | exact no h | exact no1 h | exact no2 h | exact noE h | exact noE1 h | obtain rfl := Option.some.inj h | obtain rfl := Except.ok.inj h | obtain rfl := h | cases h)
  rw [List.drop_eq_getElem_cons h1] at h
  obtain ⟨e1, e2⟩ := List.cons.inj h
  exact ⟨by rw [List.getElem?_eq_getElem h1, e1], e2, h1⟩
theorem drop_nil {t : List Nat} {k : Nat} (h : t.drop k = []) (hk : k ≤ t.length) : k = t.length := by
  have := congrArg List.length h
  simp at this
  (first | lia | omega)
theorem clamp_nat (n k : Nat) : clamp n (k : Int) = min k n := by
  unfold clamp
  rw [if_neg (by (first | lia | omega))]
  simp
theorem sliceV_nat (t : List Nat) (a b : Nat) : sliceV t (a : Int) (b : Int) = (t.drop (min a t.length)).take (min b t.length - min a t.length) := by
  unfold sliceV cut
  rw [clamp_nat, clamp_nat, List.drop_take]
theorem slice1 (t : List Nat) (k : Nat) (hk : k ≤ t.length) : sliceV t (k : Int) ((k : Int) + 1) = (t.drop k).take 1 := by
  have : ((k : Int) + 1) = ((k + 1 : Nat) : Int) := by (first | lia | omega)
  rw [this, sliceV_nat, Nat.min_eq_left hk]
  rcases Nat.lt_or_ge k t.length with q | q
  · rw [Nat.min_eq_left (by (first | lia | omega)), show k + 1 - k = 1 from by (first | lia | omega)]
  · have : k = t.length := by (first | lia | omega)
    subst this
    simp
theorem slice2 (t : List Nat) (a b : Nat) (ha : a ≤ b) (hb : b ≤ t.length) : sliceV t (a : Int) (b : Int) = (t.drop a).take (b - a) := by
  rw [sliceV_nat, Nat.min_eq_left hb, Nat.min_eq_left (show a ≤ t.length from by (first | lia | omega))]

theorem bd_ok {α β : Type} (a : α) (st : St) (f : α → St → Res β) : bd (ok a st) f = f a st := rfl
theorem bd_err {α β : Type} (e : List Nat) (st : St) (f : α → St → Res β) : bd (some (.error e, st)) f = some (.error e, st) := rfl

theorem scan {c : St → Res V} {b : St → Res Fl} {f : Nat → St} {P : Nat → Bool} {t : List Nat} (hc : ∀ k a, t[k]? = some a → c (f k) = ok (.bool (P a)) (f k)) (he : c (f t.length) = ok (.bool false) (f t.length))
    (hb : ∀ k, k < t.length → b (f k) = ok .next (f (k + 1))) : ∀ (s : List Nat) (k : Nat), t.drop k = s → k ≤ t.length → ∀ m, s.length < m → whileL c b m (f k) = ok .next (f (k + (s.takeWhile P).length)) := by
  intro s
  induction s with
  | nil =>
    intro k h hk m hm
    obtain ⟨m, rfl⟩ : ∃ m', m = m' + 1 := ⟨m - 1, by (first | lia | omega)⟩
    have := drop_nil h hk
    subst this
    simp only [whileL, he, bd_ok, List.takeWhile_nil, List.length_nil, Nat.add_zero]
  | cons a s ih =>
    intro k h hk m hm
    obtain ⟨m, rfl⟩ : ∃ m', m = m' + 1 := ⟨m - 1, by (first | lia | omega)⟩
    obtain ⟨h1, h2, h3⟩ := drop_cons h
    simp only [whileL, hc k a h1, bd_ok]
    cases hp : P a with
    | true =>
      simp only [hb k h3, bd_ok]
      rw [ih (k + 1) h2 (by (first | lia | omega)) m (by simp at hm; (first | lia | omega)), List.takeWhile_cons_of_pos hp]
      simp only [List.length_cons]
      rw [show k + 1 + (s.takeWhile P).length = k + ((s.takeWhile P).length + 1) from by (first | lia | omega)]
    | false =>
      rw [List.takeWhile_cons_of_neg (by simp [hp])]
      rfl

theorem sign_eq {f : Nat → Bool} {l : List Nat} (h : ((List.range 128).all fun c => f c == l.contains c) = true) (hl : l.all (fun x => Nat.ble x 127) = true) (hf : ∀ c, 127 < c → f c = false) (c : Nat) : f c = l.contains c := by
  rcases Nat.lt_or_ge c 128 with q | q
  · exact eq_of_beq (List.all_eq_true.mp h c (List.mem_range.mpr q))
  · rw [hf c q]
    refine (Bool.eq_false_iff.mpr fun q' => ?_).symm
    have := Nat.le_of_ble_eq_true (List.all_eq_true.mp hl c (List.contains_iff_mem.mp q'))
    exact absurd q (Nat.not_le_of_lt (Nat.lt_succ_of_le this))
theorem sp_hi (c : Nat) (h : 127 < c) : isSp c = false := by simp [isSp]; lia
theorem dg_hi (c : Nat) (h : 127 < c) : isDg c = false := by simp [isDg]; lia
theorem lt_hi (c : Nat) (h : 127 < c) : isLt c = true := by simp [isLt]; lia
theorem c0 (n : Nat) (c : Nat) (h : List O) : callN (n + 1) 0 [.str [c]] h = some (.ok (.bool (isSp c)), h) := by
  have : isSp c = [[9], [10], [12], [13], [32]].contains [c] := by
    have := sign_eq (f := isSp) (l := [9, 10, 12, 13, 32]) (by decide +kernel) (by decide +kernel) sp_hi c
    rw [this]
    simp
  rw [this]
  rfl
theorem lexLe1 (a b : Nat) : lexLe [a] [b] = decide (a ≤ b) := by
  unfold lexLe
  by_cases h1 : a < b
  · simp [h1]; try (first | lia | omega)
  · by_cases h2 : b < a
    · simp [h1, h2]; try (first | lia | omega)
    · have : a = b := by (first | lia | omega)
      subst this; simp [lexLe]

noncomputable abbrev str1 (t : List Nat) (k : Nat) (h : List O) : St := ⟨[some (.str t), some (.int k)], h⟩
theorem c3 (n : Nat) (t : List Nat) (k : Nat) (hk : k ≤ t.length) (hz : t.length < fuel) (h : List O) : callN (n + 2) 3 [.str t, .int k] h = some (.ok (.int ((k + ((t.drop k).takeWhile isSp).length : Nat) : Int)), h) := by
  have e : exec (callN (n + 1)) body_past_spaces (str1 t k h) = some (.ok (.ret (.int ((k + ((t.drop k).takeWhile isSp).length : Nat) : Int))), str1 t (k + ((t.drop k).takeWhile isSp).length) h) := by
    unfold body_past_spaces
    simp only [eS_skip, eS_cont, eS_seq, eS_assign, eS_unpack, eS_aug, eS_setItem, eS_expr, eS_ret, eS_raise, eS_ite, eS_while, eS_forRange, eS_forList]
    rw [scan (f := fun k => str1 t k h) (P := isSp) (t := t) ?_ ?_ ?_ (t.drop k) k rfl hk fuel (by simp; (first | lia | omega))]
    · rfl
    · intro k a hka
      have hl := (List.getElem?_eq_some_iff.mp hka).1
      simp only [eE_loc, eE_none, eE_bool, eE_int, eE_neg, eE_str, eE_op, eE_cmp, eE_between, eE_and, eE_or, eE_ifx, eE_nil, eE_cons, eE_tup, eE_list, eE_flist, eE_dict, eE_call, eE_len, eE_ord, eE_idx, eE_slice, eE_sliceFrom, eE_sliceTo, eE_append, eE_pop, eE_endswith, eE_replace, bd_ok, List.getElem?_cons_zero, List.getElem?_cons_succ, cmpV, lift, Option.map]
      rw [show decide ((k : Int) < (t.length : Int)) = true from by simpa using hl]
      simp [bd, ok, hka, c0, idxV, lift]
    · simp only [eE_loc, eE_none, eE_bool, eE_int, eE_neg, eE_str, eE_op, eE_cmp, eE_between, eE_and, eE_or, eE_ifx, eE_nil, eE_cons, eE_tup, eE_list, eE_flist, eE_dict, eE_call, eE_len, eE_ord, eE_idx, eE_slice, eE_sliceFrom, eE_sliceTo, eE_append, eE_pop, eE_endswith, eE_replace, bd_ok, List.getElem?_cons_zero, List.getElem?_cons_succ, cmpV, lift, Option.map]
      rw [show decide ((t.length : Int) < (t.length : Int)) = false from by simp]
    · intro k hk
      simp only [eS_skip, eS_cont, eS_seq, eS_assign, eS_unpack, eS_aug, eS_setItem, eS_expr, eS_ret, eS_raise, eS_ite, eS_while, eS_forRange, eS_forList, eE_loc, eE_none, eE_bool, eE_int, eE_neg, eE_str, eE_op, eE_cmp, eE_between, eE_and, eE_or, eE_ifx, eE_nil, eE_cons, eE_tup, eE_list, eE_flist, eE_dict, eE_call, eE_len, eE_ord, eE_idx, eE_slice, eE_sliceFrom, eE_sliceTo, eE_append, eE_pop, eE_endswith, eE_replace, bd_ok, List.getElem?_cons_zero, List.getElem?_cons_succ]
      rfl
  show runBody (callN (n + 1)) 2 body_past_spaces [.str t, .int k] h = _
  unfold runBody
  rw [show (⟨[V.str t, V.int k].map some ++ List.replicate (2 - [V.str t, V.int k].length) Option.none, h⟩ : St) = str1 t k h from rfl, e]

section
variable {C : Calls} {a b e : E} {st st' st'' : St} {x y : Bool} {u v : V}
theorem ev_and' (ha : evalE C a st = ok (.bool x) st) (hb : x = true → evalE C b st = ok (.bool y) st) : evalE C (.and a b) st = ok (.bool (x && y)) st := by
  simp only [eE_loc, eE_none, eE_bool, eE_int, eE_neg, eE_str, eE_op, eE_cmp, eE_between, eE_and, eE_or, eE_ifx, eE_nil, eE_cons, eE_tup, eE_list, eE_flist, eE_dict, eE_call, eE_len, eE_ord, eE_idx, eE_slice, eE_sliceFrom, eE_sliceTo, eE_append, eE_pop, eE_endswith, eE_replace, ha, bd_ok]
  cases x with
  | true => simp only [hb rfl, Bool.true_and]
  | false => simp only [Bool.false_and]
theorem ev_or' (ha : evalE C a st = ok (.bool x) st) (hb : x = false → evalE C b st = ok (.bool y) st) : evalE C (.or a b) st = ok (.bool (x || y)) st := by
  simp only [eE_loc, eE_none, eE_bool, eE_int, eE_neg, eE_str, eE_op, eE_cmp, eE_between, eE_and, eE_or, eE_ifx, eE_nil, eE_cons, eE_tup, eE_list, eE_flist, eE_dict, eE_call, eE_len, eE_ord, eE_idx, eE_slice, eE_sliceFrom, eE_sliceTo, eE_append, eE_pop, eE_endswith, eE_replace, ha, bd_ok]
  cases x with
  | false => simp only [hb rfl, Bool.false_or]
  | true => simp only [Bool.true_or]
theorem ev_cmp' {c : Cmp} (ha : evalE C a st = ok u st) (hb : evalE C b st = ok v st) (hc : cmpV st.heap c u v = some x) : evalE C (.cmp c a b) st = ok (.bool x) st := by
  simp only [eE_loc, eE_none, eE_bool, eE_int, eE_neg, eE_str, eE_op, eE_cmp, eE_between, eE_and, eE_or, eE_ifx, eE_nil, eE_cons, eE_tup, eE_list, eE_flist, eE_dict, eE_call, eE_len, eE_ord, eE_idx, eE_slice, eE_sliceFrom, eE_sliceTo, eE_append, eE_pop, eE_endswith, eE_replace, ha, hb, bd_ok, hc, lift, Option.map]
theorem ev_between' {c : E} {r : Except (List Nat) V × St} {s1 s2 s3 : List Nat} (ha : evalE C a st = ok (.str s1) st) (hb : evalE C b st = ok (.str s2) st) (hc : evalE C c st = ok (.str s3) st) : evalE C (.between a b c) st = ok (.bool (lexLe s1 s2 && lexLe s2 s3)) st := by
  simp only [eE_loc, eE_none, eE_bool, eE_int, eE_neg, eE_str, eE_op, eE_cmp, eE_between, eE_and, eE_or, eE_ifx, eE_nil, eE_cons, eE_tup, eE_list, eE_flist, eE_dict, eE_call, eE_len, eE_ord, eE_idx, eE_slice, eE_sliceFrom, eE_sliceTo, eE_append, eE_pop, eE_endswith, eE_replace, ha, hb, hc, bd_ok, cmpV, lift, Option.map]
  cases lexLe s1 s2 <;> simp [lift, bd_ok]
theorem ev_call1 {f : Nat} {r : Except (List Nat) V} {h : List O} (ha : evalE C a st = ok u st') (hc : C f [u] st'.heap = some (r, h)) : evalE C (.call f (.cons a .nil)) st = some (r, ⟨st'.loc, h⟩) := by
  simp only [eE_loc, eE_none, eE_bool, eE_int, eE_neg, eE_str, eE_op, eE_cmp, eE_between, eE_and, eE_or, eE_ifx, eE_nil, eE_cons, eE_tup, eE_list, eE_flist, eE_dict, eE_call, eE_len, eE_ord, eE_idx, eE_slice, eE_sliceFrom, eE_sliceTo, eE_append, eE_pop, eE_endswith, eE_replace, ha, bd_ok, hc]
theorem ev_call2 {f : Nat} {r : Except (List Nat) V} {h : List O} (ha : evalE C a st = ok u st') (hb : evalE C b st' = ok v st'') (hc : C f [u, v] st''.heap = some (r, h)) : evalE C (.call f (.cons a (.cons b .nil))) st = some (r, ⟨st''.loc, h⟩) := by
  simp only [eE_loc, eE_none, eE_bool, eE_int, eE_neg, eE_str, eE_op, eE_cmp, eE_between, eE_and, eE_or, eE_ifx, eE_nil, eE_cons, eE_tup, eE_list, eE_flist, eE_dict, eE_call, eE_len, eE_ord, eE_idx, eE_slice, eE_sliceFrom, eE_sliceTo, eE_append, eE_pop, eE_endswith, eE_replace, ha, hb, bd_ok, hc]
variable {A B : S} {c : E} {i : Nat}
theorem x_seq (h : exec C A st = ok .next st') : exec C (.seq A B) st = exec C B st' := by simp only [eS_skip, eS_cont, eS_seq, eS_assign, eS_unpack, eS_aug, eS_setItem, eS_expr, eS_ret, eS_raise, eS_ite, eS_while, eS_forRange, eS_forList, h, bd_ok]
theorem x_seqE {w : List Nat} (h : exec C A st = some (.error w, st')) : exec C (.seq A B) st = some (.error w, st') := by simp only [eS_skip, eS_cont, eS_seq, eS_assign, eS_unpack, eS_aug, eS_setItem, eS_expr, eS_ret, eS_raise, eS_ite, eS_while, eS_forRange, eS_forList, h, bd_err]
theorem x_seqR (h : exec C A st = ok (.ret v) st') : exec C (.seq A B) st = ok (.ret v) st' := by simp only [eS_skip, eS_cont, eS_seq, eS_assign, eS_unpack, eS_aug, eS_setItem, eS_expr, eS_ret, eS_raise, eS_ite, eS_while, eS_forRange, eS_forList, h, bd_ok]
theorem x_seqC (h : exec C A st = ok .cont st') : exec C (.seq A B) st = ok .cont st' := by simp only [eS_skip, eS_cont, eS_seq, eS_assign, eS_unpack, eS_aug, eS_setItem, eS_expr, eS_ret, eS_raise, eS_ite, eS_while, eS_forRange, eS_forList, h, bd_ok]
theorem x_assign (h : evalE C e st = ok v st') : exec C (.assign i e) st = ok .next (st'.put i v) := by simp only [eS_skip, eS_cont, eS_seq, eS_assign, eS_unpack, eS_aug, eS_setItem, eS_expr, eS_ret, eS_raise, eS_ite, eS_while, eS_forRange, eS_forList, h, bd_ok]
theorem x_ite (h : evalE C c st = ok (.bool x) st') : exec C (.ite c A B) st = if x then exec C A st' else exec C B st' := by
  simp only [eS_skip, eS_cont, eS_seq, eS_assign, eS_unpack, eS_aug, eS_setItem, eS_expr, eS_ret, eS_raise, eS_ite, eS_while, eS_forRange, eS_forList, h, bd_ok]
  (first | exact no x | exact no1 x | exact no2 x | exact noE x | exact noE1 x | obtain rfl := Option.some.inj x | obtain rfl := Except.ok.inj x | obtain rfl := x | cases x) <;> rfl
theorem x_iteT (h : evalE C c st = ok (.bool true) st') : exec C (.ite c A B) st = exec C A st' := x_ite h
theorem x_iteF (h : evalE C c st = ok (.bool false) st') : exec C (.ite c A B) st = exec C B st' := x_ite h
theorem x_ret (h : evalE C e st = ok v st') : exec C (.ret e) st = ok (.ret v) st' := by simp only [eS_skip, eS_cont, eS_seq, eS_assign, eS_unpack, eS_aug, eS_setItem, eS_expr, eS_ret, eS_raise, eS_ite, eS_while, eS_forRange, eS_forList, h, bd_ok]
theorem x_unpack {is : List Nat} {vs : List V} (h : evalE C e st = ok (.tup vs) st') (hl : vs.length = is.length) : exec C (.unpack is e) st = ok .next (st'.putAll is vs) := by
  simp only [eS_skip, eS_cont, eS_seq, eS_assign, eS_unpack, eS_aug, eS_setItem, eS_expr, eS_ret, eS_raise, eS_ite, eS_while, eS_forRange, eS_forList, h, bd_ok, hl, if_true]
theorem x_unpackE {is : List Nat} {w : List Nat} (h : evalE C e st = some (.error w, st')) : exec C (.unpack is e) st = some (.error w, st') := by
  simp only [eS_skip, eS_cont, eS_seq, eS_assign, eS_unpack, eS_aug, eS_setItem, eS_expr, eS_ret, eS_raise, eS_ite, eS_while, eS_forRange, eS_forList, h, bd_err]
theorem x_expr (h : evalE C e st = ok v st') : exec C (.expr e) st = ok .next st' := by simp only [eS_skip, eS_cont, eS_seq, eS_assign, eS_unpack, eS_aug, eS_setItem, eS_expr, eS_ret, eS_raise, eS_ite, eS_while, eS_forRange, eS_forList, h, bd_ok]
theorem x_aug {k : Int} {j : Int} (hi : st.loc[i]? = some (some (.int k))) (h : evalE C e st = ok (.int j) st') : exec C (.aug i e) st = ok .next (st'.put i (.int (k + j))) := by
  simp only [eS_skip, eS_cont, eS_seq, eS_assign, eS_unpack, eS_aug, eS_setItem, eS_expr, eS_ret, eS_raise, eS_ite, eS_while, eS_forRange, eS_forList, hi, h, bd_ok]
end

theorem c1 (n : Nat) (c : Nat) (h : List O) : callN (n + 1) 1 [.str [c]] h = some (.ok (.bool (isDg c)), h) := by
  have e := ev_between' (C := callN n) (a := .str [48]) (b := .loc 0) (c := .str [57]) (st := ⟨[some (.str [c])], h⟩) (r := (.ok .none, ⟨[], []⟩)) rfl rfl rfl
  rw [lexLe1, lexLe1] at e
  show runBody (callN n) 1 body_is_digit [.str [c]] h = _
  unfold runBody body_is_digit
  rw [show (⟨[V.str [c]].map some ++ List.replicate (1 - [V.str [c]].length) Option.none, h⟩ : St) = ⟨[some (.str [c])], h⟩ from rfl, x_ret e]
  rfl
theorem c2 (n : Nat) (c : Nat) (h : List O) : callN (n + 1) 2 [.str [c]] h = some (.ok (.bool ((decide (97 ≤ c) && decide (c ≤ 122)) || ((decide (65 ≤ c) && decide (c ≤ 90)) || isDg c))), h) := by
  have e1 := ev_between' (C := callN n) (a := .str [97]) (b := .loc 0) (c := .str [122]) (st := ⟨[some (.str [c])], h⟩) (r := (.ok .none, ⟨[], []⟩)) rfl rfl rfl
  have e2 := ev_between' (C := callN n) (a := .str [65]) (b := .loc 0) (c := .str [90]) (st := ⟨[some (.str [c])], h⟩) (r := (.ok .none, ⟨[], []⟩)) rfl rfl rfl
  have e3 := ev_between' (C := callN n) (a := .str [48]) (b := .loc 0) (c := .str [57]) (st := ⟨[some (.str [c])], h⟩) (r := (.ok .none, ⟨[], []⟩)) rfl rfl rfl
  rw [lexLe1, lexLe1] at e1 e2 e3
  show runBody (callN n) 1 body_is_alnum [.str [c]] h = _
  unfold runBody body_is_alnum
  rw [show (⟨[V.str [c]].map some ++ List.replicate (1 - [V.str [c]].length) Option.none, h⟩ : St) = ⟨[some (.str [c])], h⟩ from rfl, x_ret (ev_or' e1 fun _ => ev_or' e2 fun _ => e3)]
  rfl
theorem c4 (n : Nat) (c : Nat) (h : List O) : callN (n + 2) 4 [.str [c]] h = some (.ok (.bool (isWs c)), h) := by
  have e1 := ev_call1 (C := callN (n + 1)) (a := .loc 0) (f := 2) (st := ⟨[some (.str [c])], h⟩) rfl (c2 n c h)
  have e2 := ev_cmp' (C := callN (n + 1)) (c := .isIn) (a := .loc 0) (b := .tup (.cons (.str [45]) (.cons (.str [95]) .nil))) (st := ⟨[some (.str [c])], h⟩) (u := .str [c]) (v := .tup [.str [45], .str [95]]) rfl rfl rfl
  have e3 := ev_cmp' (C := callN (n + 1)) (c := .ne) (a := .loc 0) (b := .str []) (st := ⟨[some (.str [c])], h⟩) (u := .str [c]) (v := .str []) rfl rfl rfl
  have e4 := ev_cmp' (C := callN (n + 1)) (c := .ge) (a := .ord (.loc 0)) (b := .int 128) (st := ⟨[some (.str [c])], h⟩) (u := .int c) (v := .int 128) rfl rfl rfl
  show runBody (callN (n + 1)) 1 body_is_word_sign [.str [c]] h = _
  unfold runBody body_is_word_sign
  rw [show (⟨[V.str [c]].map some ++ List.replicate (1 - [V.str [c]].length) Option.none, h⟩ : St) = ⟨[some (.str [c])], h⟩ from rfl, x_ret (ev_or' e1 fun _ => ev_or' e2 fun _ => ev_and' e3 fun _ => e4)]
  show some (Except.ok (V.bool _), h) = _
  congr 4
  rcases Nat.lt_or_ge c 128 with q | q
  · have e := eq_of_beq (α := Bool) (List.all_eq_true.mp (by decide +kernel : ((List.range 128).all fun c => (((decide (97 ≤ c) && decide (c ≤ 122)) || ((decide (65 ≤ c) && decide (c ≤ 90)) || isDg c)) || ([[45], [95]].contains [c] || (!([c] == ([] : List Nat)) && decide ((128 : Int) ≤ (c : Int))))) == isWs c) = true) c (List.mem_range.mpr q))
    exact e
  · rw [show isWs c = true from by rw [isWs, lt_hi c q]; rfl, show decide ((128 : Int) ≤ (c : Int)) = true from decide_eq_true (Int.ofNat_le.mpr q)]
    simp
theorem c4e (n : Nat) (h : List O) : callN (n + 2) 4 [.str []] h = some (.ok (.bool false), h) := rfl
end D
end Nt
end

section
set_option genSizeOf false
set_option genInjectivity false
set_option maxRecDepth 100000
set_option autoImplicit false
namespace Nt
namespace D

noncomputable abbrev st6 (a b c d e f : Option V) (h : List O) : St := ⟨[a, b, c, d, e, f], h⟩
noncomputable abbrev vi (k : Nat) : Option V := some (.int (k : Int))
noncomputable abbrev vs (s : List Nat) : Option V := some (.str s)

theorem take_span (p : Nat → Bool) (s : List Nat) : s.take (s.takeWhile p).length = s.takeWhile p ∧ s.drop (s.takeWhile p).length = s.dropWhile p := by
  induction s with
  | nil => exact ⟨rfl, rfl⟩
  | cons a s ih =>
    cases h : p a with
    | true => rw [List.takeWhile_cons_of_pos h, List.dropWhile_cons_of_pos h]; simp [ih]
    | false => rw [List.takeWhile_cons_of_neg (by simp [h]), List.dropWhile_cons_of_neg (by simp [h])]; simp
theorem span_le (p : Nat → Bool) (t : List Nat) (k : Nat) (hk : k ≤ t.length) : k + ((t.drop k).takeWhile p).length ≤ t.length := by
  have := (List.takeWhile_prefix p (l := t.drop k)).length_le
  simp at this
  (first | lia | omega)
theorem span_drop (p : Nat → Bool) (t : List Nat) (k : Nat) : t.drop (k + ((t.drop k).takeWhile p).length) = (t.drop k).dropWhile p := by
  rw [← List.drop_drop, (take_span p _).2]
theorem head_of_not {p : Nat → Bool} {s : List Nat} {c : Nat} {r : List Nat} (h : s.dropWhile p = c :: r) : p c = false := by
  induction s with
  | nil => (first | exact no h | exact no1 h | exact no2 h | exact noE h | exact noE1 h | obtain rfl := Option.some.inj h | obtain rfl := Except.ok.inj h | obtain rfl := h | cases h)
  | cons a s ih =>
    cases q : p a with
    | true => rw [List.dropWhile_cons_of_pos q] at h; exact ih h
    | false => rw [List.dropWhile_cons_of_neg (by simp [q])] at h; (first | exact no h | exact no1 h | exact no2 h | exact noE h | exact noE1 h | obtain rfl := Option.some.inj h | obtain rfl := Except.ok.inj h | obtain rfl := h | cases h); exact q

theorem prev_ne {t : List Nat} {k : Nat} (nm : NM t) (hk : k ≤ t.length) {r : List Nat} (h : t.drop k = 45 :: 45 :: 62 :: r) : sliceV t ((k : Int) - 1) (k : Int) ≠ [35] := by
  cases k with
  | zero =>
    have : sliceV t (((0 : Nat) : Int) - 1) ((0 : Nat) : Int) = [] := by
      unfold sliceV cut
      rw [clamp_nat]
      simp
    rw [this]; simp
  | succ k =>
    have e : (((k + 1 : Nat) : Int) - 1) = (k : Int) := by (first | lia | omega)
    rw [e, slice2 t k (k + 1) (by (first | lia | omega)) hk]
    intro q
    have hk' : k < t.length := by (first | lia | omega)
    have q' : t[k] = 35 := by
      rw [List.drop_eq_getElem_cons hk', show k + 1 - k = 1 from by (first | lia | omega)] at q
      simp only [List.take_succ_cons, List.take_zero, List.cons.injEq, and_true] at q
      exact q
    refine nm k ?_
    rw [List.drop_eq_getElem_cons hk', h, q']
    rfl

noncomputable def mark (t : List Nat) (k : Nat) (w r : List Nat) : Bool := w == [45, 45] && (r.take 1 == [62] && !(sliceV t ((k : Int) - 1) (k : Int) == [35]))
theorem mark_eq {t : List Nat} {k : Nat} (nm : NM t) (hk : k ≤ t.length) {w r : List Nat} (h : t.drop k = w ++ r) : mark t k w r = (w == [45, 45] && r.head? == some 62) := by
  unfold mark
  by_cases hw : w = [45, 45]
  · subst hw
    cases r with
    | nil => simp
    | cons c r =>
      by_cases hc : c = 62
      · subst hc
        have := prev_ne nm hk h
        simp [this]
      · simp [hc]
  · have : (w == [45, 45]) = false := by simpa using hw
    rw [this]; rfl

theorem c5 (n : Nat) (t : List Nat) (k : Nat) (hk : k ≤ t.length) (hz : t.length < fuel) (nm : NM t) (h : List O) :
    callN (n + 3) 5 [.str t, .int k] h = some ((if badWord ((t.drop k).takeWhile isWs) ((t.drop k).dropWhile isWs) then .error eWord else .ok (.tup [.str ((t.drop k).takeWhile isWs), .int ((k + ((t.drop k).takeWhile isWs).length : Nat) : Int)])), h) := by
  generalize hw : (t.drop k).takeWhile isWs = w
  generalize hr : (t.drop k).dropWhile isWs = r
  have hd : t.drop k = w ++ r := by rw [← hw, ← hr, List.takeWhile_append_dropWhile]
  have hle := span_le isWs t k hk
  have hdr := span_drop isWs t k
  rw [hw] at hle hdr
  rw [hr] at hdr
  show runBody (callN (n + 2)) 6 body_read_word [.str t, .int k] h = _
  unfold runBody body_read_word
  rw [show (⟨[V.str t, V.int k].map some ++ List.replicate (6 - [V.str t, V.int k].length) Option.none, h⟩ : St) = st6 (vs t) (vi k) none none none none h from rfl]
  rw [x_seq (x_assign (C := callN (n + 2)) (e := .loc 1) (v := .int k) (st' := st6 (vs t) (vi k) none none none none h) rfl)]
  rw [show (st6 (vs t) (vi k) none none none none h).put 2 (.int k) = st6 (vs t) (vi k) (vi k) none none none h from rfl]
  have loop : exec (callN (n + 2)) (.while (.and (.cmp .lt (.loc 2) (.len (.loc 0))) (.call 4 (.cons (.idx (.loc 0) (.loc 2)) .nil))) (.aug 2 (.int 1))) (st6 (vs t) (vi k) (vi k) none none none h) = ok .next (st6 (vs t) (vi k) (vi (k + w.length)) none none none h) := by
    simp only [eS_skip, eS_cont, eS_seq, eS_assign, eS_unpack, eS_aug, eS_setItem, eS_expr, eS_ret, eS_raise, eS_ite, eS_while, eS_forRange, eS_forList]
    rw [scan (f := fun j => st6 (vs t) (vi k) (vi j) none none none h) (P := isWs) (t := t) ?_ ?_ ?_ (t.drop k) k rfl hk fuel (by simp; (first | lia | omega)), hw]
    · intro j a hja
      have hl := (List.getElem?_eq_some_iff.mp hja).1
      refine ev_and' (x := true) ?_ fun _ => ?_
      · refine ev_cmp' (u := .int j) (v := .int t.length) rfl rfl ?_
        simp [cmpV, hl]
      · refine ev_call1 (u := .str [a]) (st' := st6 (vs t) (vi k) (vi j) none none none h) ?_ (c4 n a h)
        simp [eE_loc, eE_none, eE_bool, eE_int, eE_neg, eE_str, eE_op, eE_cmp, eE_between, eE_and, eE_or, eE_ifx, eE_nil, eE_cons, eE_tup, eE_list, eE_flist, eE_dict, eE_call, eE_len, eE_ord, eE_idx, eE_slice, eE_sliceFrom, eE_sliceTo, eE_append, eE_pop, eE_endswith, eE_replace, idxV, hja, lift, ok, bd]
    · refine ev_and' (x := false) (y := false) ?_ (fun q => by (first | exact no q | exact no1 q | exact no2 q | exact noE q | exact noE1 q | obtain rfl := Option.some.inj q | obtain rfl := Except.ok.inj q | obtain rfl := q | cases q))
      refine ev_cmp' (u := .int t.length) (v := .int t.length) rfl rfl ?_
      simp [cmpV]
    · intro j _
      exact x_aug (C := callN (n + 2)) (e := .int 1) (st := st6 (vs t) (vi k) (vi j) none none none h) (st' := st6 (vs t) (vi k) (vi j) none none none h) (i := 2) (k := (j : Int)) (j := 1) rfl rfl
  rw [x_seq loop]
  have e3 : evalE (callN (n + 2)) (.slice (.loc 0) (.loc 1) (.loc 2)) (st6 (vs t) (vi k) (vi (k + w.length)) none none none h) = ok (.str w) (st6 (vs t) (vi k) (vi (k + w.length)) none none none h) := by
    have : sliceV t (k : Int) ((k + w.length : Nat) : Int) = w := by
      rw [slice2 t k _ (by (first | lia | omega)) hle, hd, show k + w.length - k = w.length from by (first | lia | omega), List.take_left']
      rfl
    show ok (V.str (sliceV t (k : Int) ((k + w.length : Nat) : Int))) _ = _
    rw [this]
  rw [x_seq (x_assign e3), show (st6 (vs t) (vi k) (vi (k + w.length)) none none none h).put 3 (.str w) = st6 (vs t) (vi k) (vi (k + w.length)) (vs w) none none h from rfl]
  rw [x_seq (x_assign (C := callN (n + 2)) (e := .loc 3) (v := .str w) (st' := st6 (vs t) (vi k) (vi (k + w.length)) (vs w) none none h) rfl)]
  rw [show (st6 (vs t) (vi k) (vi (k + w.length)) (vs w) none none h).put 4 (.str w) = st6 (vs t) (vi k) (vi (k + w.length)) (vs w) (vs w) none h from rfl]
  have e4 : exec (callN (n + 2)) (.ite (.cmp .eq (.sliceTo (.loc 3) (.int 1)) (.str [45])) (.assign 4 (.sliceFrom (.loc 3) (.int 1))) .skip) (st6 (vs t) (vi k) (vi (k + w.length)) (vs w) (vs w) none h) = ok .next (st6 (vs t) (vi k) (vi (k + w.length)) (vs w) (vs (bare w)) none h) := by
    have hc : evalE (callN (n + 2)) (.cmp .eq (.sliceTo (.loc 3) (.int 1)) (.str [45])) (st6 (vs t) (vi k) (vi (k + w.length)) (vs w) (vs w) none h) = ok (.bool (w.take 1 == [45])) (st6 (vs t) (vi k) (vi (k + w.length)) (vs w) (vs w) none h) := by
      have h1 : evalE (callN (n + 2)) (.sliceTo (.loc 3) (.int 1)) (st6 (vs t) (vi k) (vi (k + w.length)) (vs w) (vs w) none h) = ok (.str (w.take 1)) (st6 (vs t) (vi k) (vi (k + w.length)) (vs w) (vs w) none h) := by
        show ok (V.str (sliceV w ((0 : Nat) : Int) ((1 : Nat) : Int))) _ = _
        rw [sliceV_nat]
        simp only [Nat.zero_min, List.drop_zero, Nat.sub_zero]
        (first | exact no w | exact no1 w | exact no2 w | exact noE w | exact noE1 w | obtain rfl := Option.some.inj w | obtain rfl := Except.ok.inj w | obtain rfl := w | cases w) <;> simp
      exact ev_cmp' h1 rfl rfl
    rw [x_ite hc]
    cases w with
    | nil => rfl
    | cons a w =>
      by_cases q : a = 45
      · subst q
        simp only [List.take_succ_cons, List.take_zero, beq_self_eq_true, if_true]
        refine (x_assign (v := .str w) (st' := st6 (vs t) (vi k) (vi (k + (45 :: w).length)) (vs (45 :: w)) (vs (45 :: w)) none h) ?_)
        show ok (V.str (sliceV (45 :: w) ((1 : Nat) : Int) ((45 :: w).length : Int))) _ = _
        rw [slice2 _ 1 _ (by simp) (Nat.le_refl _)]
        simp
      · have : bare (a :: w) = a :: w := by
          unfold bare
          split
          · rename_i e; simp at e; exact absurd e.1 q
          · rfl
        rw [this, show ((a :: w).take 1 == [45]) = false from by simp [q]]
        rfl
  rw [x_seq e4]
  have e5 : evalE (callN (n + 2)) (.and (.cmp .eq (.loc 3) (.str [45, 45])) (.and (.cmp .eq (.slice (.loc 0) (.loc 2) (.op .add (.loc 2) (.int 1))) (.str [62])) (.cmp .ne (.slice (.loc 0) (.op .sub (.loc 1) (.int 1)) (.loc 1)) (.str [35])))) (st6 (vs t) (vi k) (vi (k + w.length)) (vs w) (vs (bare w)) none h) =
      ok (.bool (mark t k w r)) (st6 (vs t) (vi k) (vi (k + w.length)) (vs w) (vs (bare w)) none h) := by
    refine ev_and' (ev_cmp' (u := .str w) (v := .str [45, 45]) rfl rfl rfl) fun _ => ev_and' (ev_cmp' (u := .str (r.take 1)) (v := .str [62]) ?_ (by rfl) (by rfl)) fun _ => ev_cmp' (u := .str (sliceV t ((k : Int) - 1) (k : Int))) (v := .str [35]) rfl rfl rfl
    show ok (V.str (sliceV t ((k + w.length : Nat) : Int) (((k + w.length : Nat) : Int) + 1))) _ = _
    rw [slice1 t _ hle, hdr]
  rw [x_seq (x_assign e5), mark_eq nm hk hd]
  rw [show (st6 (vs t) (vi k) (vi (k + w.length)) (vs w) (vs (bare w)) none h).put 5 (.bool (w == [45, 45] && r.head? == some 62)) = st6 (vs t) (vi k) (vi (k + w.length)) (vs w) (vs (bare w)) (some (.bool (w == [45, 45] && r.head? == some 62))) h from rfl]
  have e6 : evalE (callN (n + 2)) (.or (.cmp .eq (.loc 4) (.str [])) (.or (.call 1 (.cons (.idx (.loc 4) (.int 0)) .nil)) (.loc 5))) (st6 (vs t) (vi k) (vi (k + w.length)) (vs w) (vs (bare w)) (some (.bool (w == [45, 45] && r.head? == some 62))) h) =
      ok (.bool (badWord w r)) (st6 (vs t) (vi k) (vi (k + w.length)) (vs w) (vs (bare w)) (some (.bool (w == [45, 45] && r.head? == some 62))) h) := by
    have q1 : evalE (callN (n + 2)) (.cmp .eq (.loc 4) (.str [])) (st6 (vs t) (vi k) (vi (k + w.length)) (vs w) (vs (bare w)) (some (.bool (w == [45, 45] && r.head? == some 62))) h) = ok (.bool (bare w == [])) _ := ev_cmp' (u := .str (bare w)) (v := .str []) rfl rfl rfl
    unfold badWord
    cases hb : bare w with
    | nil =>
      rw [hb] at q1
      exact ev_or' (x := true) (y := true) q1 fun q => by (first | exact no q | exact no1 q | exact no2 q | exact noE q | exact noE1 q | obtain rfl := Option.some.inj q | obtain rfl := Except.ok.inj q | obtain rfl := q | cases q)
    | cons a rr =>
      rw [hb] at q1
      exact ev_or' (x := false) q1 fun _ => ev_or' (ev_call1 (u := .str [a]) (st' := st6 (vs t) (vi k) (vi (k + w.length)) (vs w) (vs (a :: rr)) (some (.bool (w == [45, 45] && r.head? == some 62))) h) rfl (c1 (n + 1) a h)) fun _ => rfl
  cases hb : badWord w r with
  | true =>
    rw [hb] at e6
    rw [x_seqE (w := eWord) (st' := st6 (vs t) (vi k) (vi (k + w.length)) (vs w) (vs (bare w)) (some (.bool (w == [45, 45] && r.head? == some 62))) h) (by rw [x_iteT e6]; rfl)]
    rfl
  | false =>
    rw [hb] at e6
    rw [x_seq (st' := st6 (vs t) (vi k) (vi (k + w.length)) (vs w) (vs (bare w)) (some (.bool (w == [45, 45] && r.head? == some 62))) h) (by rw [x_iteF e6]; rfl)]
    rfl
end D
end Nt
end

section
set_option genSizeOf false
set_option genInjectivity false
set_option maxRecDepth 100000
set_option autoImplicit false
namespace Nt
namespace D

noncomputable def ps (t : List Nat) (k : Nat) : Nat := k + ((t.drop k).takeWhile isSp).length
theorem ps_le {t : List Nat} {k : Nat} (hk : k ≤ t.length) : ps t k ≤ t.length := span_le isSp t k hk
theorem ps_ge (t : List Nat) (k : Nat) : k ≤ ps t k := Nat.le_add_right _ _
theorem ps_drop (t : List Nat) (k : Nat) : t.drop (ps t k) = (t.drop k).dropWhile isSp := span_drop isSp t k
theorem ps_head {t : List Nat} {k c : Nat} {s : List Nat} (h : t.drop (ps t k) = c :: s) : isSp c = false := head_of_not (by rw [← ps_drop]; exact h)
theorem c3' (n : Nat) (t : List Nat) (k : Nat) (hk : k ≤ t.length) (hz : t.length < fuel) (h : List O) : callN (n + 2) 3 [.str t, .int k] h = some (.ok (.int (ps t k : Nat)), h) := c3 n t k hk hz h

theorem entry {srt : Srt} {x : Ctx} {c : Nat} {s : List Nat} (hc : isWs c = true) : (if isLt c = true then run (.word srt [c]) x s else .error eWord) =
    if badWord ((c :: s).takeWhile isWs) ((c :: s).dropWhile isWs) then .error eWord else run (after srt) (x.take srt ((c :: s).takeWhile isWs)) ((c :: s).dropWhile isWs) := by
  rw [List.takeWhile_cons_of_pos hc, List.dropWhile_cons_of_pos hc]
  by_cases h : isLt c = true
  · rw [if_pos h, run_word s [c] (good_append (w := []) (fun _ _ e => by (first | exact no e | exact no1 e | exact no2 e | exact noE e | exact noE1 e | obtain rfl := Option.some.inj e | obtain rfl := Except.ok.inj e | obtain rfl := e | cases e)) (.inl h))]
    rfl
  · rw [if_neg h]
    have hd : isDg c = true := by simpa [isWs, h] using hc
    have c45 : c ≠ 45 := fun q => by subst q; simp [isLt] at h
    have : badWord (c :: s.takeWhile isWs) (s.dropWhile isWs) = true := by
      unfold badWord bare
      split
      · rename_i e
        split at e
        · rename_i q; simp at q; exact absurd q.1 c45
        · (first | exact no e | exact no1 e | exact no2 e | exact noE e | exact noE1 e | obtain rfl := Option.some.inj e | obtain rfl := Except.ok.inj e | obtain rfl := e | cases e)
      · rename_i a r e
        split at e
        · rename_i t' e'; simp at e'; exact absurd e'.1 c45
        · simp at e; rw [← e.1, hd]; rfl
    rw [this]; rfl
theorem noword {s : List Nat} (h : ∀ c r, s = c :: r → isWs c = false) : badWord (s.takeWhile isWs) (s.dropWhile isWs) = true := by
  cases s with
  | nil => rfl
  | cons c r => rw [List.takeWhile_cons_of_neg (by simp [h c r rfl])]; rfl

/-- an outcome of reading, told by the machine -/
noncomputable def Out (t : List Nat) (k : Nat) (q : Q) (s : List Nat) (mk : V → Prop) (f : V → Ctx → Ctx) (q' : Q) (res : Except (List Nat) V) : Prop :=
  (∃ e, res = .error e ∧ ∀ x, run q x s = .error e) ∨ ∃ v k', res = .ok (.tup [v, .int (k' : Nat)]) ∧ k ≤ k' ∧ k' ≤ t.length ∧ mk v ∧ ∀ x, run q x s = run q' (f v x) (t.drop k')

theorem entry_q {q : Q} {srt : Srt} (x : Ctx) {s : List Nat} (hs : ∀ c r, s = c :: r → isSp c = false) (h0 : run q x [] = .error eWord)
    (h : ∀ c r, s = c :: r → step q x c = if isLt c then .ok (.word srt [c], x) else .error eWord) :
    run q x s = if badWord (s.takeWhile isWs) (s.dropWhile isWs) then .error eWord else run (after srt) (x.take srt (s.takeWhile isWs)) (s.dropWhile isWs) := by
  cases s with
  | nil => rw [h0]; rfl
  | cons c r =>
    by_cases hc : isWs c = true
    · rw [← entry hc, run_step, h c r rfl]
      cases isLt c <;> rfl
    · have hw : isWs c = false := by simpa using hc
      rw [if_pos (noword fun c' r' e => by (first | exact no e | exact no1 e | exact no2 e | exact noE e | exact noE1 e | obtain rfl := Option.some.inj e | obtain rfl := Except.ok.inj e | obtain rfl := e | cases e); exact hw), run_step, h c r rfl]
      simp only [isWs, Bool.or_eq_false_iff] at hw
      rw [hw.1]; rfl

/-- the text of a value -/
noncomputable def strOf : V → List Nat
  | .str s => s
  | _ => []
noncomputable def isStr (v : V) : Prop := ∃ s, v = .str s

theorem c6 (n : Nat) (t : List Nat) (k : Nat) (hk : k ≤ t.length) (hz : t.length + 1 < fuel) (nm : NM t) (hs : ∀ c r, t.drop k = c :: r → isSp c = false) (h : List O) :
    ∃ res, callN (n + 4) 6 [.str t, .int k] h = some (res, h) ∧ Out t k .equal (t.drop k) isStr (fun v x => x.take .value (strOf v)) .valued res := by
  have hrun : ∀ res, callN (n + 4) 6 [.str t, .int k] h = res ↔ runBody (callN (n + 3)) 4 body_read_value [.str t, .int k] h = res := fun _ => Iff.rfl
  simp only [hrun]
  let st : St := ⟨[vs t, vi k, none, none], h⟩
  let st' : St := ⟨[vs t, vi k, vs ((t.drop k).take 1), none], h⟩
  have e1 : evalE (callN (n + 3)) (.slice (.loc 0) (.loc 1) (.op .add (.loc 1) (.int 1))) st = ok (.str ((t.drop k).take 1)) st := by
    show ok (V.str (sliceV t (k : Int) ((k : Int) + 1))) _ = _
    rw [slice1 t k hk]
  have s1 := x_assign (i := 2) e1
  rw [show st.put 2 (.str ((t.drop k).take 1)) = st' from rfl] at s1
  have e2 : evalE (callN (n + 3)) (.cmp .notIn (.loc 2) (.tup (.cons (.str [34]) (.cons (.str [39]) .nil)))) st' = ok (.bool (!([[34], [39]].contains ((t.drop k).take 1)))) st' :=
    ev_cmp' (u := .str ((t.drop k).take 1)) (v := .tup [.str [34], .str [39]]) rfl rfl rfl
  have e3 : evalE (callN (n + 3)) (.call 5 (.cons (.loc 0) (.cons (.loc 1) .nil))) st' = some ((if badWord ((t.drop k).takeWhile isWs) ((t.drop k).dropWhile isWs) then .error eWord else .ok (.tup [.str ((t.drop k).takeWhile isWs), .int ((k + ((t.drop k).takeWhile isWs).length : Nat) : Int)])), st') :=
    ev_call2 (u := .str t) (v := .int k) (st' := st') (st'' := st') rfl rfl (c5 n t k hk (by (first | lia | omega)) nm h)
  unfold runBody body_read_value
  rw [show (⟨[V.str t, V.int k].map some ++ List.replicate (4 - [V.str t, V.int k].length) Option.none, h⟩ : St) = st from rfl, x_seq s1]
  cases hq : [[34], [39]].contains ((t.drop k).take 1) with
  | false =>
    rw [hq] at e2
    have nq : ∀ c r, t.drop k = c :: r → ¬ (c = 39 ∨ c = 34) := fun c r e q => by
      rw [e] at hq
      rcases q with rfl | rfl <;> simp at hq
    have key : ∀ x, run .equal x (t.drop k) = if badWord ((t.drop k).takeWhile isWs) ((t.drop k).dropWhile isWs) then .error eWord else run .valued (x.take .value ((t.drop k).takeWhile isWs)) ((t.drop k).dropWhile isWs) := fun x =>
      entry_q (srt := .value) x hs rfl fun c r e => by simp only [step, step1, hs c r e, nq c r e, if_false]; rfl
    by_cases hb : badWord ((t.drop k).takeWhile isWs) ((t.drop k).dropWhile isWs) = true
    · rw [if_pos hb] at e3
      rw [x_seqE (w := eWord) (st' := st') (by rw [x_iteT e2]; simp only [eS_skip, eS_cont, eS_seq, eS_assign, eS_unpack, eS_aug, eS_setItem, eS_expr, eS_ret, eS_raise, eS_ite, eS_while, eS_forRange, eS_forList, e3, bd_err])]
      exact ⟨_, rfl, .inl ⟨_, rfl, fun x => by rw [key x, if_pos hb]⟩⟩
    · rw [if_neg hb] at e3
      rw [x_seqR (v := .tup [.str ((t.drop k).takeWhile isWs), .int ((k + ((t.drop k).takeWhile isWs).length : Nat) : Int)]) (st' := st') (by rw [x_iteT e2]; exact x_ret e3)]
      exact ⟨_, rfl, .inr ⟨_, _, rfl, Nat.le_add_right _ _, span_le isWs t k hk, ⟨_, rfl⟩, fun x => by rw [key x, if_neg hb, span_drop]; rfl⟩⟩
  | true =>
    rw [hq] at e2
    obtain ⟨q, s, hd, hqq⟩ : ∃ q s, t.drop k = q :: s ∧ (q = 34 ∨ q = 39) := by
      cases hd : t.drop k with
      | nil => rw [hd] at hq; simp at hq
      | cons q s =>
        rw [hd] at hq
        simp at hq
        exact ⟨q, s, rfl, hq⟩
    obtain ⟨_, hd1, hk1⟩ := drop_cons hd
    have hst' : st' = ⟨[vs t, vi k, vs [q], none], h⟩ := by show (⟨[vs t, vi k, vs ((t.drop k).take 1), none], h⟩ : St) = _; rw [hd]; rfl
    rw [x_seq (st' := st') (by rw [x_iteF e2]; rfl), hst']
    rw [x_seq (x_assign (C := callN (n + 3)) (i := 3) (e := .op .add (.loc 1) (.int 1)) (v := .int (k + 1 : Nat)) (st' := ⟨[vs t, vi k, vs [q], none], h⟩) rfl)]
    rw [show (⟨[vs t, vi k, vs [q], none], h⟩ : St).put 3 (.int (k + 1 : Nat)) = ⟨[vs t, vi k, vs [q], vi (k + 1)], h⟩ from rfl]
    have sl : ∀ j, j ≤ t.length → evalE (callN (n + 3)) (.slice (.loc 0) (.loc 3) (.op .add (.loc 3) (.int 1))) ⟨[vs t, vi k, vs [q], vi j], h⟩ = ok (.str ((t.drop j).take 1)) ⟨[vs t, vi k, vs [q], vi j], h⟩ := fun j hj => by
      show ok (V.str (sliceV t (j : Int) ((j : Int) + 1))) _ = _
      rw [slice1 t j hj]
    have loop : exec (callN (n + 3)) (.while (.cmp .notIn (.slice (.loc 0) (.loc 3) (.op .add (.loc 3) (.int 1))) (.tup (.cons (.str []) (.cons (.str [92]) (.cons (.str [10]) (.cons (.str [13]) (.cons (.str [12]) (.cons (.loc 2) .nil)))))))) (.aug 3 (.int 1))) ⟨[vs t, vi k, vs [q], vi (k + 1)], h⟩ =
        ok .next ⟨[vs t, vi k, vs [q], vi (k + 1 + (s.takeWhile fun c => !stopQ q c).length)], h⟩ := by
      simp only [eS_skip, eS_cont, eS_seq, eS_assign, eS_unpack, eS_aug, eS_setItem, eS_expr, eS_ret, eS_raise, eS_ite, eS_while, eS_forRange, eS_forList]
      rw [scan (f := fun j => ⟨[vs t, vi k, vs [q], vi j], h⟩) (P := fun c => !stopQ q c) (t := t) ?_ ?_ ?_ (t.drop (k + 1)) (k + 1) rfl (by (first | lia | omega)) fuel (by simp; (first | lia | omega)), hd1]
      · intro j a hja
        have hl := (List.getElem?_eq_some_iff.mp hja).1
        refine ev_cmp' (sl j (by (first | lia | omega))) (v := .tup [.str [], .str [92], .str [10], .str [13], .str [12], .str [q]]) rfl ?_
        have : t.drop j = a :: t.drop (j + 1) := by
          rw [List.drop_eq_getElem_cons hl]
          rw [List.getElem?_eq_getElem hl] at hja
          (first | exact no hja | exact no1 hja | exact no2 hja | exact noE hja | exact noE1 hja | obtain rfl := Option.some.inj hja | obtain rfl := Except.ok.inj hja | obtain rfl := hja | cases hja); rfl
        rw [this]
        show some (!([[], [92], [10], [13], [12], [q]].contains [a])) = _
        congr 2
        rw [Bool.eq_iff_iff]
        simp [stopQ]
      · refine ev_cmp' (sl _ (Nat.le_refl _)) (v := .tup [.str [], .str [92], .str [10], .str [13], .str [12], .str [q]]) rfl ?_
        rw [List.drop_length]
        rfl
      · intro j _
        exact x_aug (C := callN (n + 3)) (e := .int 1) (st := ⟨[vs t, vi k, vs [q], vi j], h⟩) (st' := ⟨[vs t, vi k, vs [q], vi j], h⟩) (i := 3) (k := (j : Int)) (j := 1) rfl rfl
    rw [x_seq loop]
    generalize hv : (s.takeWhile fun c => !stopQ q c) = v at loop
    generalize hr : (s.dropWhile fun c => !stopQ q c) = r
    have hle : k + 1 + v.length ≤ t.length := by
      have := span_le (fun c => !stopQ q c) t (k + 1) (by (first | lia | omega))
      rw [hd1, hv] at this; exact this
    have hdr : t.drop (k + 1 + v.length) = r := by
      have := span_drop (fun c => !stopQ q c) t (k + 1)
      rw [hd1, hv, hr] at this; exact this
    have e4 : evalE (callN (n + 3)) (.cmp .ne (.slice (.loc 0) (.loc 3) (.op .add (.loc 3) (.int 1))) (.loc 2)) ⟨[vs t, vi k, vs [q], vi (k + 1 + v.length)], h⟩ = ok (.bool (!(r.take 1 == [q]))) ⟨[vs t, vi k, vs [q], vi (k + 1 + v.length)], h⟩ := by
      have := sl _ hle
      rw [hdr] at this
      exact ev_cmp' this (v := .str [q]) rfl rfl
    have quo := fun x => run_quoted (q := q) (x := x) s []
    have eqq : ∀ x, run .equal x (q :: s) = run (.quoted q []) x s := fun x => run_of (by
      have : isSp q = false := by rcases hqq with rfl | rfl <;> rfl
      have hor : q = 39 ∨ q = 34 := hqq.symm
      simp only [step, step1, this, hor, if_true]; rfl)
    simp only [hv, hr] at quo
    cases hc : r.take 1 == [q] with
    | false =>
      rw [hc] at e4
      rw [x_seqE (w := eVal) (st' := ⟨[vs t, vi k, vs [q], vi (k + 1 + v.length)], h⟩) (by rw [x_iteT e4]; rfl)]
      refine ⟨_, rfl, .inl ⟨_, rfl, fun x => ?_⟩⟩
      rw [hd, eqq]
      refine (quo x).2 fun e => ?_
      cases r with
      | nil => (first | exact no e | exact no1 e | exact no2 e | exact noE e | exact noE1 e | obtain rfl := Option.some.inj e | obtain rfl := Except.ok.inj e | obtain rfl := e | cases e)
      | cons a r => simp at e; subst e; simp at hc
    | true =>
      rw [hc] at e4
      rw [x_seq (st' := ⟨[vs t, vi k, vs [q], vi (k + 1 + v.length)], h⟩) (by rw [x_iteF e4]; rfl)]
      obtain ⟨r', rfl⟩ : ∃ r', r = q :: r' := by
        cases r with
        | nil => simp at hc
        | cons a r => simp at hc; exact ⟨r, by rw [hc]⟩
      have hlt := (drop_cons hdr).2.2
      have e5 : evalE (callN (n + 3)) (.slice (.loc 0) (.op .add (.loc 1) (.int 1)) (.loc 3)) ⟨[vs t, vi k, vs [q], vi (k + 1 + v.length)], h⟩ = ok (.str v) ⟨[vs t, vi k, vs [q], vi (k + 1 + v.length)], h⟩ := by
        show ok (V.str (sliceV t ((k + 1 : Nat) : Int) ((k + 1 + v.length : Nat) : Int))) _ = _
        rw [slice2 t _ _ (by (first | lia | omega)) hle, hd1, show k + 1 + v.length - (k + 1) = v.length from by (first | lia | omega), ← hv, (take_span _ s).1]
      have e6 : evalE (callN (n + 3)) (.tup (.cons (.slice (.loc 0) (.op .add (.loc 1) (.int 1)) (.loc 3)) (.cons (.op .add (.loc 3) (.int 1)) .nil))) ⟨[vs t, vi k, vs [q], vi (k + 1 + v.length)], h⟩ = ok (.tup [.str v, .int (k + 1 + v.length + 1 : Nat)]) ⟨[vs t, vi k, vs [q], vi (k + 1 + v.length)], h⟩ := by
        rw [eE_tup, eE_cons, e5]; rfl
      rw [x_ret e6]
      refine ⟨_, rfl, .inr ⟨_, _, rfl, by (first | lia | omega), by (first | lia | omega), ⟨_, rfl⟩, fun x => ?_⟩⟩
      rw [hd, eqq, (quo x).1 r' rfl (by (first | lia | omega)) (by (first | lia | omega)) (by (first | lia | omega)) (by (first | lia | omega)), (drop_cons hdr).2.1]
      rfl
end D
end Nt
end

section
set_option genSizeOf false
set_option genInjectivity false
set_option maxRecDepth 100000
set_option autoImplicit false
namespace Nt
namespace D

noncomputable def optV : Option (List Nat) → V
  | none => .none
  | some v => .str v
noncomputable def attrV (a : List Nat × Option (List Nat)) : V := .tup [.str a.1, optV a.2]
noncomputable def Ctx.attr (x : Ctx) (a : List Nat × Option (List Nat)) : Ctx := { x with p := { x.p with attrs := x.p.attrs ++ [a] } }

theorem take_attr_value (x : Ctx) (w v : List Nat) : (x.take .attr w).take .value v = x.attr (w, some v) := by
  simp [Ctx.take, Part.take, Ctx.attr]

/-- the outcome of read_attr -/
noncomputable def Out7 (t : List Nat) (k : Nat) (s : List Nat) (res : Except (List Nat) V) : Prop :=
  (∃ e, res = .error e ∧ ∀ x, run .bracket x s = .error e) ∨ ∃ a k', res = .ok (.tup [attrV a, .int (k' : Nat)]) ∧ k ≤ k' ∧ k' ≤ t.length ∧ ∀ x, run .bracket x s = run .more (x.attr a) (t.drop k')

theorem c7 (n : Nat) (t : List Nat) (k : Nat) (hk : k ≤ t.length) (hz : t.length + 1 < fuel) (nm : NM t) (h : List O) :
    ∃ res, callN (n + 5) 7 [.str t, .int k] h = some (res, h) ∧ Out7 t k (t.drop k) res := by
  have hrun : ∀ res, callN (n + 5) 7 [.str t, .int k] h = res ↔ runBody (callN (n + 4)) 4 body_read_attr [.str t, .int k] h = res := fun _ => Iff.rfl
  simp only [hrun]
  let C := callN (n + 4)
  have hk1 := ps_le hk
  have hge1 := ps_ge t k
  have e1 : evalE C (.call 3 (.cons (.loc 0) (.cons (.loc 1) .nil))) ⟨[vs t, vi k, none, none], h⟩ = ok (.int (ps t k : Nat)) ⟨[vs t, vi k, none, none], h⟩ :=
    ev_call2 (u := .str t) (v := .int k) (st' := ⟨[vs t, vi k, none, none], h⟩) (st'' := ⟨[vs t, vi k, none, none], h⟩) rfl rfl (c3' (n + 2) t k hk (by (first | lia | omega)) h)
  have e2 := ev_call2 (C := C) (f := 5) (a := .loc 0) (b := .call 3 (.cons (.loc 0) (.cons (.loc 1) .nil))) (st := ⟨[vs t, vi k, none, none], h⟩) (u := .str t) (st' := ⟨[vs t, vi k, none, none], h⟩) rfl e1 (c5 (n + 1) t _ hk1 (by (first | lia | omega)) nm h)
  have hsp : ∀ c r, t.drop (ps t k) = c :: r → isSp c = false := fun c r e => ps_head e
  have key : ∀ x, run .bracket x (t.drop k) = if badWord ((t.drop (ps t k)).takeWhile isWs) ((t.drop (ps t k)).dropWhile isWs) then .error eWord else run .named (x.take .attr ((t.drop (ps t k)).takeWhile isWs)) ((t.drop (ps t k)).dropWhile isWs) := fun x => by
    rw [run_sp rfl, ← ps_drop]
    exact entry_q (srt := .attr) x hsp rfl fun c r e => by simp only [step, step1, hsp c r e]; rfl
  unfold runBody body_read_attr
  rw [show (⟨[V.str t, V.int k].map some ++ List.replicate (4 - [V.str t, V.int k].length) Option.none, h⟩ : St) = ⟨[vs t, vi k, none, none], h⟩ from rfl]
  have hle2 := span_le isWs t _ hk1
  have hdr2 := span_drop isWs t (ps t k)
  generalize (t.drop (ps t k)).takeWhile isWs = w at *
  generalize (t.drop (ps t k)).dropWhile isWs = r at *
  by_cases hb : badWord w r = true
  · rw [if_pos hb] at e2
    rw [x_seqE (w := eWord) (st' := ⟨[vs t, vi k, none, none], h⟩) (x_unpackE e2)]
    exact ⟨_, rfl, .inl ⟨_, rfl, fun x => by rw [key x, if_pos hb]⟩⟩
  rw [if_neg hb] at e2
  simp only [if_neg hb] at key
  generalize hk2 : ps t k + w.length = k2 at *
  rw [x_seq (x_unpack e2 rfl)]
  rw [show ((⟨(⟨[vs t, vi k, none, none], h⟩ : St).loc, h⟩ : St).putAll [3, 1] [.str w, .int (k2 : Nat)]) = ⟨[vs t, vi k2, none, vs w], h⟩ from rfl]
  rw [x_seq (x_assign (C := C) (i := 2) (e := .none) (v := .none) (st' := ⟨[vs t, vi k2, none, vs w], h⟩) rfl)]
  rw [show (⟨[vs t, vi k2, none, vs w], h⟩ : St).put 2 .none = ⟨[vs t, vi k2, some .none, vs w], h⟩ from rfl]
  have c3at : ∀ (j : Nat) (v : V), j ≤ t.length → evalE C (.call 3 (.cons (.loc 0) (.cons (.loc 1) .nil))) ⟨[vs t, vi j, some v, vs w], h⟩ = ok (.int (ps t j : Nat)) ⟨[vs t, vi j, some v, vs w], h⟩ := fun j v hj =>
    ev_call2 (u := .str t) (v := .int j) (st' := ⟨[vs t, vi j, some v, vs w], h⟩) (st'' := ⟨[vs t, vi j, some v, vs w], h⟩) rfl rfl (c3' (n + 2) t j hj (by (first | lia | omega)) h)
  have sl : ∀ (j : Nat) (v : V), j ≤ t.length → evalE C (.slice (.loc 0) (.loc 1) (.op .add (.loc 1) (.int 1))) ⟨[vs t, vi j, some v, vs w], h⟩ = ok (.str ((t.drop j).take 1)) ⟨[vs t, vi j, some v, vs w], h⟩ := fun j v hj => by
    show ok (V.str (sliceV t (j : Int) ((j : Int) + 1))) _ = _
    rw [slice1 t j hj]
  have asg : ∀ (j : Nat) (v : V), j ≤ t.length → exec C (.assign 1 (.call 3 (.cons (.loc 0) (.cons (.loc 1) .nil)))) ⟨[vs t, vi j, some v, vs w], h⟩ = ok .next ⟨[vs t, vi (ps t j), some v, vs w], h⟩ := fun j v hj => x_assign (c3at j v hj)
  -- the end: the bracket
  have tail : ∀ (j : Nat) (o : Option (List Nat)) (q : Q) (y : Ctx → Ctx), j ≤ t.length → k ≤ j → (∀ c r, t.drop j = c :: r → isSp c = false) → q = .valued ∨ (q = .named ∧ ∀ r, t.drop j ≠ 61 :: r) → (∀ x, run .bracket x (t.drop k) = run q (y x) (t.drop j)) → (∀ x, y x = x.attr (w, o)) →
      ∃ res, (match exec C (.seq (.ite (.cmp .ne (.slice (.loc 0) (.loc 1) (.op .add (.loc 1) (.int 1))) (.str [93])) (.raise eBrk) .skip) (.ret (.tup (.cons (.tup (.cons (.loc 3) (.cons (.loc 2) .nil))) (.cons (.op .add (.loc 1) (.int 1)) .nil))))) ⟨[vs t, vi j, some (optV o), vs w], h⟩ with
        | some (.ok (.ret v), st) => some (Except.ok v, st.heap)
        | some (.error w, st) => some (.error w, st.heap)
        | _ => none) = some (res, h) ∧ Out7 t k (t.drop k) res := by
    intro j o q y hj hkj hns hq hr hy
    have e4 : evalE C (.cmp .ne (.slice (.loc 0) (.loc 1) (.op .add (.loc 1) (.int 1))) (.str [93])) ⟨[vs t, vi j, some (optV o), vs w], h⟩ = ok (.bool (!((t.drop j).take 1 == [93]))) ⟨[vs t, vi j, some (optV o), vs w], h⟩ := ev_cmp' (sl j _ hj) (v := .str [93]) rfl rfl
    cases hc : (t.drop j).take 1 == [93] with
    | false =>
      rw [hc] at e4
      rw [x_seqE (w := eBrk) (st' := ⟨[vs t, vi j, some (optV o), vs w], h⟩) (by rw [x_iteT e4]; rfl)]
      refine ⟨_, rfl, .inl ⟨_, rfl, fun x => ?_⟩⟩
      rw [hr x]
      cases hd : t.drop j with
      | nil => rcases hq with rfl | ⟨rfl, _⟩ <;> rfl
      | cons c r =>
        have n93 : c ≠ 93 := fun e => by rw [hd, e] at hc; simp at hc
        rcases hq with rfl | ⟨rfl, hq⟩
        · refine run_err ?_
          simp only [step, step1, hns c r hd, n93, if_false]; rfl
        · refine run_err ?_
          have n61 : c ≠ 61 := fun e => hq r (by rw [hd, e])
          simp only [step, step1, hns c r hd, n93, n61, if_false]; rfl
    | true =>
      rw [hc] at e4
      rw [x_seq (st' := ⟨[vs t, vi j, some (optV o), vs w], h⟩) (by rw [x_iteF e4]; rfl)]
      rw [x_ret (v := .tup [attrV (w, o), .int (j + 1 : Nat)]) (st' := ⟨[vs t, vi j, some (optV o), vs w], h⟩) rfl]
      obtain ⟨r, hd⟩ : ∃ r, t.drop j = 93 :: r := by
        cases hd : t.drop j with
        | nil => rw [hd] at hc; simp at hc
        | cons a r => rw [hd] at hc; simp at hc; exact ⟨r, by rw [hc]⟩
      obtain ⟨_, hd1, hj1⟩ := drop_cons hd
      refine ⟨_, rfl, .inr ⟨(w, o), j + 1, rfl, by (first | lia | omega), by (first | lia | omega), fun x => ?_⟩⟩
      rw [hr x, hd, hd1, hy]
      rcases hq with rfl | ⟨rfl, _⟩ <;> exact run_of rfl
  rw [x_seq (asg k2 .none hle2)]
  have hk3 := ps_le hle2
  have hge3 := ps_ge t k2
  have hns3 : ∀ c r, t.drop (ps t k2) = c :: r → isSp c = false := fun c r e => ps_head e
  have key3 : ∀ x, run .bracket x (t.drop k) = run .named (x.take .attr w) (t.drop (ps t k2)) := fun x => by
    rw [key x, ← hdr2, run_sp rfl, ← ps_drop]
  generalize ps t k2 = k3 at *
  have e3 : evalE C (.cmp .eq (.slice (.loc 0) (.loc 1) (.op .add (.loc 1) (.int 1))) (.str [61])) ⟨[vs t, vi k3, some .none, vs w], h⟩ = ok (.bool ((t.drop k3).take 1 == [61])) ⟨[vs t, vi k3, some .none, vs w], h⟩ := ev_cmp' (sl k3 _ hk3) (v := .str [61]) rfl rfl
  cases hc : (t.drop k3).take 1 == [61] with
  | false =>
    rw [hc] at e3
    rw [x_seq (st' := ⟨[vs t, vi k3, some .none, vs w], h⟩) (by rw [x_iteF e3]; rfl)]
    exact tail k3 none .named (fun x => x.take .attr w) hk3 (by (first | lia | omega)) hns3 (.inr ⟨rfl, fun r e => by rw [e] at hc; simp at hc⟩) key3 fun x => rfl
  | true =>
    rw [hc] at e3
    obtain ⟨r3, hd3⟩ : ∃ r, t.drop k3 = 61 :: r := by
      cases hd : t.drop k3 with
      | nil => rw [hd] at hc; simp at hc
      | cons a r => rw [hd] at hc; simp at hc; exact ⟨r, by rw [hc]⟩
    obtain ⟨_, hd31, hk31⟩ := drop_cons hd3
    have hk4 : ps t (k3 + 1) ≤ t.length := ps_le (by (first | lia | omega))
    have hge4 := ps_ge t (k3 + 1)
    have hns4 : ∀ c r, t.drop (ps t (k3 + 1)) = c :: r → isSp c = false := fun c r e => ps_head e
    obtain ⟨res6, hc6, ho⟩ := c6 n t (ps t (k3 + 1)) hk4 hz nm hns4 h
    have e5 : evalE C (.call 3 (.cons (.loc 0) (.cons (.op .add (.loc 1) (.int 1)) .nil))) ⟨[vs t, vi k3, some .none, vs w], h⟩ = ok (.int (ps t (k3 + 1) : Nat)) ⟨[vs t, vi k3, some .none, vs w], h⟩ :=
      ev_call2 (u := .str t) (v := .int (k3 + 1 : Nat)) (st' := ⟨[vs t, vi k3, some .none, vs w], h⟩) (st'' := ⟨[vs t, vi k3, some .none, vs w], h⟩) rfl rfl (c3' (n + 2) t (k3 + 1) (by (first | lia | omega)) (by (first | lia | omega)) h)
    have e6 := ev_call2 (C := C) (f := 6) (a := .loc 0) (b := .call 3 (.cons (.loc 0) (.cons (.op .add (.loc 1) (.int 1)) .nil))) (st := ⟨[vs t, vi k3, some .none, vs w], h⟩) (u := .str t) (st' := ⟨[vs t, vi k3, some .none, vs w], h⟩) rfl e5 hc6
    have key4 : ∀ x, run .bracket x (t.drop k) = run .equal (x.take .attr w) (t.drop (ps t (k3 + 1))) := fun x => by
      rw [key3 x, hd3, run_of (show step .named (x.take .attr w) 61 = .ok (.equal, x.take .attr w) from rfl), ← hd31, run_sp rfl, ← ps_drop]
    rcases ho with ⟨e, rfl, hr⟩ | ⟨v, k5, rfl, hk45, hk5, ⟨v', rfl⟩, hr⟩
    · rw [x_seqE (w := e) (st' := ⟨[vs t, vi k3, some .none, vs w], h⟩) (by rw [x_iteT e3]; exact x_seqE (x_unpackE e6))]
      exact ⟨_, rfl, .inl ⟨_, rfl, fun x => by rw [key4 x, hr]⟩⟩
    · have hk6 := ps_le hk5
      have hge6 := ps_ge t k5
      rw [x_seq (st' := ⟨[vs t, vi (ps t k5), vs v', vs w], h⟩) (by
        rw [x_iteT e3, x_seq (x_unpack e6 rfl)]
        exact asg k5 (.str v') hk5)]
      refine tail (ps t k5) (some v') .valued (fun x => (x.take .attr w).take .value v') hk6 (by (first | lia | omega)) (fun c r e => ps_head e) (.inl rfl) (fun x => ?_) fun x => take_attr_value x w v'
      rw [key4 x, hr, run_sp rfl, ← ps_drop]
      rfl
end D
end Nt
end

section
set_option genSizeOf false
set_option genInjectivity false
set_option maxRecDepth 100000
set_option autoImplicit false
namespace Nt
namespace D

noncomputable abbrev kName : List Nat := [110, 97, 109, 101]
noncomputable abbrev kIds : List Nat := [105, 100, 115]
noncomputable abbrev kClasses : List Nat := [99, 108, 97, 115, 115, 101, 115]
noncomputable abbrev kAttrs : List Nat := [97, 116, 116, 114, 115]
noncomputable def hp (σ : List O) (p : Part) : List O := σ ++ [.list (p.ids.map .str), .list (p.classes.map .str), .list (p.attrs.map attrV)]
noncomputable def partO (m : Nat) (p : Part) : List O := [.list (p.ids.map .str), .list (p.classes.map .str), .list (p.attrs.map attrV), .dict [(kName, .str p.name), (kIds, .ref m), (kClasses, .ref (m + 1)), (kAttrs, .ref (m + 2))]]
noncomputable abbrev s9 (t : List Nat) (k k0 : Nat) (nm : List Nat) (m : Nat) (l7 l8 : Option V) (h : List O) : St := ⟨[vs t, vi k, vi k0, vs nm, some (.ref m), some (.ref (m + 1)), some (.ref (m + 2)), l7, l8], h⟩

theorem hp0 (σ : List O) (p : Part) : (hp σ p)[σ.length]? = some (.list (p.ids.map .str)) := by simp [hp]
theorem hp1 (σ : List O) (p : Part) : (hp σ p)[σ.length + 1]? = some (.list (p.classes.map .str)) := by simp [hp]
theorem hp2 (σ : List O) (p : Part) : (hp σ p)[σ.length + 2]? = some (.list (p.attrs.map attrV)) := by simp [hp]
theorem set_app (σ τ : List O) (i : Nat) (o : O) : (σ ++ τ).set (σ.length + i) o = σ ++ τ.set i o := by
  rw [List.set_append_right _ _ (by (first | lia | omega))]
  congr 2; (first | lia | omega)
theorem hp0s (σ : List O) (p : Part) (w : List Nat) : (hp σ p).set σ.length (.list (p.ids.map .str ++ [.str w])) = hp σ (p.take .ids w) := by
  have := set_app σ [.list (p.ids.map .str), .list (p.classes.map .str), .list (p.attrs.map attrV)] 0 (.list (p.ids.map .str ++ [.str w]))
  simp only [Nat.add_zero] at this
  unfold hp
  rw [this]
  simp [Part.take]
theorem hp1s (σ : List O) (p : Part) (w : List Nat) : (hp σ p).set (σ.length + 1) (.list (p.classes.map .str ++ [.str w])) = hp σ (p.take .classes w) := by
  unfold hp
  rw [set_app]
  simp [Part.take]
theorem hp2s (σ : List O) (p : Part) (a : List Nat × Option (List Nat)) : (hp σ p).set (σ.length + 2) (.list (p.attrs.map attrV ++ [attrV a])) = hp σ { p with attrs := p.attrs ++ [a] } := by
  unfold hp
  rw [set_app]
  simp

theorem ev_append' {C : Calls} {a e : E} {st : St} {n : Nat} {ws : List V} {v : V} (ha : evalE C a st = ok (.ref n) st) (hn : st.heap[n]? = some (.list ws)) (he : evalE C e st = ok v st) (hl : ws.length < lim) :
    evalE C (.append a e) st = ok .none ⟨st.loc, st.heap.set n (.list (ws ++ [v]))⟩ := by
  simp only [eE_loc, eE_none, eE_bool, eE_int, eE_neg, eE_str, eE_op, eE_cmp, eE_between, eE_and, eE_or, eE_ifx, eE_nil, eE_cons, eE_tup, eE_list, eE_flist, eE_dict, eE_call, eE_len, eE_ord, eE_idx, eE_slice, eE_sliceFrom, eE_sliceTo, eE_append, eE_pop, eE_endswith, eE_replace, ha, bd_ok, hn, he, hl, if_true]

structure Few (p : Part) (k : Nat) : Prop where
  ids : p.ids.length ≤ k
  classes : p.classes.length ≤ k
  attrs : p.attrs.length ≤ k
theorem Few.le {p : Part} {k k' : Nat} (h : Few p k) (l : k ≤ k') : Few p k' := ⟨Nat.le_trans h.ids l, Nat.le_trans h.classes l, Nat.le_trans h.attrs l⟩

noncomputable abbrev cond8 : E := .cmp .isIn (.slice (.loc 0) (.loc 1) (.op .add (.loc 1) (.int 1))) (.tup (.cons (.str [35]) (.cons (.str [46]) (.cons (.str [91]) .nil))))
noncomputable abbrev body8 : S := .ite (.cmp .eq (.idx (.loc 0) (.loc 1)) (.str [91]))
      (.seq (.unpack [7, 1] (.call 7 (.cons (.loc 0) (.cons (.op .add (.loc 1) (.int 1)) .nil))))
      (.expr (.append (.loc 6) (.loc 7))))
      (.ite (.cmp .eq (.idx (.loc 0) (.loc 1)) (.str [35]))
        (.seq (.unpack [8, 1] (.call 5 (.cons (.loc 0) (.cons (.op .add (.loc 1) (.int 1)) .nil))))
        (.expr (.append (.loc 4) (.loc 8))))
        (.seq (.unpack [8, 1] (.call 5 (.cons (.loc 0) (.cons (.op .add (.loc 1) (.int 1)) .nil))))
        (.expr (.append (.loc 5) (.loc 8)))))
noncomputable def isItem (c : Nat) : Bool := c == 35 || (c == 46 || c == 91)

theorem items (n : Nat) (t : List Nat) (k0 : Nat) (hz : t.length + 1 < fuel) (nm : NM t) (σ : List O) (nam : List Nat) : ∀ (d k : Nat), k ≤ t.length → t.length - k ≤ d → ∀ (m : Nat) (p : Part) (l7 l8 : Option V), d < m → Few p k → p.name = nam →
    (∃ e st', whileL (evalE (callN (n + 5)) cond8) (exec (callN (n + 5)) body8) m (s9 t k k0 nam σ.length l7 l8 (hp σ p)) = some (.error e, st') ∧ (∃ τ, st'.heap = σ ++ τ) ∧ ∀ x : Ctx, x.p = p → run .more x (t.drop k) = .error e) ∨
    (∃ p' k' l7' l8', whileL (evalE (callN (n + 5)) cond8) (exec (callN (n + 5)) body8) m (s9 t k k0 nam σ.length l7 l8 (hp σ p)) = ok .next (s9 t k' k0 nam σ.length l7' l8' (hp σ p')) ∧ k ≤ k' ∧ k' ≤ t.length ∧ p'.name = nam ∧ (∀ c r, t.drop k' = c :: r → isItem c = false) ∧
      ((∃ c r, t.drop k = c :: r ∧ isItem c = true) → k < k') ∧ ∀ x : Ctx, x.p = p → run .more x (t.drop k) = run .more { x with p := p' } (t.drop k')) := by
  intro d
  induction d with
  | zero =>
    intro k hk hd m p l7 l8 hm hf hpn
    have hk' : k = t.length := by (first | lia | omega)
    obtain ⟨m, rfl⟩ : ∃ m', m = m' + 1 := ⟨m - 1, by (first | lia | omega)⟩
    have e1 : evalE (callN (n + 5)) cond8 (s9 t k k0 nam σ.length l7 l8 (hp σ p)) = ok (.bool false) (s9 t k k0 nam σ.length l7 l8 (hp σ p)) := by
      refine ev_cmp' (u := .str ((t.drop k).take 1)) (v := .tup [.str [35], .str [46], .str [91]]) ?_ rfl ?_
      · show ok (V.str (sliceV t (k : Int) ((k : Int) + 1))) _ = _
        rw [slice1 t k hk]
      · rw [hk', List.drop_length]; rfl
    refine .inr ⟨p, k, l7, l8, by simp only [whileL, e1, bd_ok], Nat.le_refl _, hk, hpn, fun c r e => ?_, fun ⟨c, r, e, _⟩ => ?_, fun x hx => by subst hx; rfl⟩
    · rw [hk', List.drop_length] at e; (first | exact no e | exact no1 e | exact no2 e | exact noE e | exact noE1 e | obtain rfl := Option.some.inj e | obtain rfl := Except.ok.inj e | obtain rfl := e | cases e)
    · rw [hk', List.drop_length] at e; (first | exact no e | exact no1 e | exact no2 e | exact noE e | exact noE1 e | obtain rfl := Option.some.inj e | obtain rfl := Except.ok.inj e | obtain rfl := e | cases e)
  | succ d ih =>
    intro k hk hd m p l7 l8 hm hf hpn
    obtain ⟨m, rfl⟩ : ∃ m', m = m' + 1 := ⟨m - 1, by (first | lia | omega)⟩
    have e1 : evalE (callN (n + 5)) cond8 (s9 t k k0 nam σ.length l7 l8 (hp σ p)) = ok (.bool ([[35], [46], [91]].contains ((t.drop k).take 1))) (s9 t k k0 nam σ.length l7 l8 (hp σ p)) := by
      refine ev_cmp' (u := .str ((t.drop k).take 1)) (v := .tup [.str [35], .str [46], .str [91]]) ?_ rfl rfl
      show ok (V.str (sliceV t (k : Int) ((k : Int) + 1))) _ = _
      rw [slice1 t k hk]
    cases hc : [[35], [46], [91]].contains ((t.drop k).take 1) with
    | false =>
      rw [hc] at e1
      have hno : ∀ c r, t.drop k = c :: r → isItem c = false := fun c r e => by
        rw [e] at hc
        simp at hc
        simp [isItem, hc]
      refine .inr ⟨p, k, l7, l8, by simp only [whileL, e1, bd_ok], Nat.le_refl _, hk, hpn, hno, fun ⟨c, r, e, h⟩ => ?_, fun x hx => by subst hx; rfl⟩
      rw [hno c r e] at h; (first | exact no h | exact no1 h | exact no2 h | exact noE h | exact noE1 h | obtain rfl := Option.some.inj h | obtain rfl := Except.ok.inj h | obtain rfl := h | cases h)
    | true =>
      rw [hc] at e1
      obtain ⟨c, r, hd0, hcc⟩ : ∃ c r, t.drop k = c :: r ∧ (c = 35 ∨ c = 46 ∨ c = 91) := by
        cases hd0 : t.drop k with
        | nil => rw [hd0] at hc; simp at hc
        | cons c r => rw [hd0] at hc; simp at hc; exact ⟨c, r, rfl, hc⟩
      obtain ⟨hkc, hd1, hk1⟩ := drop_cons hd0
      have eat : evalE (callN (n + 5)) (.idx (.loc 0) (.loc 1)) (s9 t k k0 nam σ.length l7 l8 (hp σ p)) = ok (.str [c]) (s9 t k k0 nam σ.length l7 l8 (hp σ p)) := by
        simp [eE_loc, eE_none, eE_bool, eE_int, eE_neg, eE_str, eE_op, eE_cmp, eE_between, eE_and, eE_or, eE_ifx, eE_nil, eE_cons, eE_tup, eE_list, eE_flist, eE_dict, eE_call, eE_len, eE_ord, eE_idx, eE_slice, eE_sliceFrom, eE_sliceTo, eE_append, eE_pop, eE_endswith, eE_replace, bd, ok, idxV, lift, hkc]
      have q91 := ev_cmp' (c := .eq) (b := .str [91]) (v := .str [91]) eat rfl rfl
      have q35 := ev_cmp' (c := .eq) (b := .str [35]) (v := .str [35]) eat rfl rfl
      have flim : t.length < lim := by have : fuel < lim := by decide
                                       (first | lia | omega)
      -- what stands behind one item
      have next : ∀ (k2 : Nat) (p2 : Part) (a b : Option V), k < k2 → k2 ≤ t.length → Few p2 k2 → p2.name = nam → exec (callN (n + 5)) body8 (s9 t k k0 nam σ.length l7 l8 (hp σ p)) = ok .next (s9 t k2 k0 nam σ.length a b (hp σ p2)) →
          (∀ x : Ctx, x.p = p → run .more x (t.drop k) = run .more { x with p := p2 } (t.drop k2)) →
          (∃ e st', whileL (evalE (callN (n + 5)) cond8) (exec (callN (n + 5)) body8) (m + 1) (s9 t k k0 nam σ.length l7 l8 (hp σ p)) = some (.error e, st') ∧ (∃ τ, st'.heap = σ ++ τ) ∧ ∀ x : Ctx, x.p = p → run .more x (t.drop k) = .error e) ∨
          (∃ p' k' l7' l8', whileL (evalE (callN (n + 5)) cond8) (exec (callN (n + 5)) body8) (m + 1) (s9 t k k0 nam σ.length l7 l8 (hp σ p)) = ok .next (s9 t k' k0 nam σ.length l7' l8' (hp σ p')) ∧ k ≤ k' ∧ k' ≤ t.length ∧ p'.name = nam ∧ (∀ c r, t.drop k' = c :: r → isItem c = false) ∧
            ((∃ c r, t.drop k = c :: r ∧ isItem c = true) → k < k') ∧ ∀ x : Ctx, x.p = p → run .more x (t.drop k) = run .more { x with p := p' } (t.drop k')) := by
        intro k2 p2 a b h1 h2 hf2 hn2 hex hr
        have hw : whileL (evalE (callN (n + 5)) cond8) (exec (callN (n + 5)) body8) (m + 1) (s9 t k k0 nam σ.length l7 l8 (hp σ p)) = whileL (evalE (callN (n + 5)) cond8) (exec (callN (n + 5)) body8) m (s9 t k2 k0 nam σ.length a b (hp σ p2)) := by
          simp only [whileL, e1, bd_ok, hex]
        rw [hw]
        rcases ih k2 h2 (by (first | lia | omega)) m p2 a b (by (first | lia | omega)) hf2 hn2 with ⟨e, st', q1, q2, q3⟩ | ⟨p', k', l7', l8', q1, q2, q3, q4, q5, q6, q7⟩
        · exact .inl ⟨e, st', q1, q2, fun x hx => by rw [hr x hx]; exact q3 _ rfl⟩
        · exact .inr ⟨p', k', l7', l8', q1, by (first | lia | omega), q3, q4, q5, fun _ => by (first | lia | omega), fun x hx => by rw [hr x hx]; exact q7 _ rfl⟩
      have fail : ∀ (e : List Nat), exec (callN (n + 5)) body8 (s9 t k k0 nam σ.length l7 l8 (hp σ p)) = some (.error e, s9 t k k0 nam σ.length l7 l8 (hp σ p)) → (∀ x : Ctx, x.p = p → run .more x (t.drop k) = .error e) →
          (∃ e st', whileL (evalE (callN (n + 5)) cond8) (exec (callN (n + 5)) body8) (m + 1) (s9 t k k0 nam σ.length l7 l8 (hp σ p)) = some (.error e, st') ∧ (∃ τ, st'.heap = σ ++ τ) ∧ ∀ x : Ctx, x.p = p → run .more x (t.drop k) = .error e) := by
        intro e hex hr
        exact ⟨e, s9 t k k0 nam σ.length l7 l8 (hp σ p), by simp only [whileL, e1, bd_ok, hex, bd_err], ⟨[.list (p.ids.map .str), .list (p.classes.map .str), .list (p.attrs.map attrV)], rfl⟩, hr⟩
      have e5 : evalE (callN (n + 5)) (.call 5 (.cons (.loc 0) (.cons (.op .add (.loc 1) (.int 1)) .nil))) (s9 t k k0 nam σ.length l7 l8 (hp σ p)) = some ((if badWord (r.takeWhile isWs) (r.dropWhile isWs) then .error eWord else .ok (.tup [.str (r.takeWhile isWs), .int ((k + 1 + (r.takeWhile isWs).length : Nat) : Int)])), s9 t k k0 nam σ.length l7 l8 (hp σ p)) := by
        have := ev_call2 (C := callN (n + 5)) (f := 5) (a := .loc 0) (b := .op .add (.loc 1) (.int 1)) (st := s9 t k k0 nam σ.length l7 l8 (hp σ p)) (u := .str t) (v := .int (k + 1 : Nat)) (st' := s9 t k k0 nam σ.length l7 l8 (hp σ p)) (st'' := s9 t k k0 nam σ.length l7 l8 (hp σ p)) rfl rfl (c5 (n + 2) t (k + 1) (by (first | lia | omega)) (by (first | lia | omega)) nm _)
        rw [hd1] at this
        exact this
      have hle := span_le isWs t (k + 1) (by (first | lia | omega))
      have hdr := span_drop isWs t (k + 1)
      rw [hd1] at hle hdr
      rcases hcc with rfl | rfl | rfl
      · -- an id
        have rm : ∀ x : Ctx, run .more x (35 :: r) = if badWord (r.takeWhile isWs) (r.dropWhile isWs) then .error eWord else run .more (x.take .ids (r.takeWhile isWs)) (r.dropWhile isWs) := fun x => by
          rw [run_of (show step .more x 35 = .ok (.word .ids [], x) from rfl), run_word r [] (fun _ _ e => by (first | exact no e | exact no1 e | exact no2 e | exact noE e | exact noE1 e | obtain rfl := Option.some.inj e | obtain rfl := Except.ok.inj e | obtain rfl := e | cases e))]; rfl
        generalize r.takeWhile isWs = w at *
        generalize r.dropWhile isWs = r' at *
        by_cases hb : badWord w r' = true
        · rw [if_pos hb] at e5
          refine .inl (fail eWord ?_ fun x _ => by rw [hd0, rm, if_pos hb])
          rw [x_iteF q91, x_iteT q35]
          exact x_seqE (x_unpackE e5)
        · rw [if_neg hb] at e5
          refine next (k + 1 + w.length) (p.take .ids w) l7 (vs w) (by (first | lia | omega)) hle ⟨by simp [Part.take]; have := hf.ids; (first | lia | omega), by simp [Part.take]; have := hf.classes; (first | lia | omega), by simp [Part.take]; have := hf.attrs; (first | lia | omega)⟩ hpn ?_ fun x hx => by rw [hd0, rm, if_neg hb, hdr, ← hx]; rfl
          rw [x_iteF q91, x_iteT q35, x_seq (x_unpack e5 rfl)]
          have := hf.ids
          rw [x_expr (ev_append' (n := σ.length) (ws := p.ids.map .str) (v := .str w) rfl (hp0 σ p) rfl (by simp; (first | lia | omega)))]
          show ok Fl.next (⟨_, (hp σ p).set σ.length _⟩ : St) = _
          rw [hp0s]
          rfl
      · -- a class
        have rm : ∀ x : Ctx, run .more x (46 :: r) = if badWord (r.takeWhile isWs) (r.dropWhile isWs) then .error eWord else run .more (x.take .classes (r.takeWhile isWs)) (r.dropWhile isWs) := fun x => by
          rw [run_of (show step .more x 46 = .ok (.word .classes [], x) from rfl), run_word r [] (fun _ _ e => by (first | exact no e | exact no1 e | exact no2 e | exact noE e | exact noE1 e | obtain rfl := Option.some.inj e | obtain rfl := Except.ok.inj e | obtain rfl := e | cases e))]; rfl
        generalize r.takeWhile isWs = w at *
        generalize r.dropWhile isWs = r' at *
        by_cases hb : badWord w r' = true
        · rw [if_pos hb] at e5
          refine .inl (fail eWord ?_ fun x _ => by rw [hd0, rm, if_pos hb])
          rw [x_iteF q91, x_iteF q35]
          exact x_seqE (x_unpackE e5)
        · rw [if_neg hb] at e5
          refine next (k + 1 + w.length) (p.take .classes w) l7 (vs w) (by (first | lia | omega)) hle ⟨by simp [Part.take]; have := hf.ids; (first | lia | omega), by simp [Part.take]; have := hf.classes; (first | lia | omega), by simp [Part.take]; have := hf.attrs; (first | lia | omega)⟩ hpn ?_ fun x hx => by rw [hd0, rm, if_neg hb, hdr, ← hx]; rfl
          rw [x_iteF q91, x_iteF q35, x_seq (x_unpack e5 rfl)]
          have := hf.classes
          rw [x_expr (ev_append' (n := σ.length + 1) (ws := p.classes.map .str) (v := .str w) rfl (hp1 σ p) rfl (by simp; (first | lia | omega)))]
          show ok Fl.next (⟨_, (hp σ p).set (σ.length + 1) _⟩ : St) = _
          rw [hp1s]
          rfl
      · -- a bracket
        obtain ⟨res, e7, ho⟩ := c7 n t (k + 1) (by (first | lia | omega)) hz nm (hp σ p)
        have e7' := ev_call2 (C := callN (n + 5)) (f := 7) (a := .loc 0) (b := .op .add (.loc 1) (.int 1)) (st := s9 t k k0 nam σ.length l7 l8 (hp σ p)) (u := .str t) (v := .int (k + 1 : Nat)) (st' := s9 t k k0 nam σ.length l7 l8 (hp σ p)) (st'' := s9 t k k0 nam σ.length l7 l8 (hp σ p)) rfl rfl e7
        rw [hd1] at ho
        have rm : ∀ x : Ctx, run .more x (91 :: r) = run .bracket x r := fun x => run_of rfl
        rcases ho with ⟨e, rfl, hr⟩ | ⟨a, k2, rfl, h1, h2, hr⟩
        · refine .inl (fail e ?_ fun x _ => by rw [hd0, rm, hr])
          rw [x_iteT q91]
          exact x_seqE (x_unpackE e7')
        · refine next k2 { p with attrs := p.attrs ++ [a] } (some (attrV a)) l8 (by (first | lia | omega)) h2 ⟨by have := hf.ids; show p.ids.length ≤ _; (first | lia | omega), by have := hf.classes; show p.classes.length ≤ _; (first | lia | omega), by have := hf.attrs; simp; (first | lia | omega)⟩ hpn ?_ fun x hx => by rw [hd0, rm, hr, ← hx]; rfl
          rw [x_iteT q91, x_seq (x_unpack e7' rfl)]
          have := hf.attrs
          rw [x_expr (ev_append' (n := σ.length + 2) (ws := p.attrs.map attrV) (v := attrV a) rfl (hp2 σ p) rfl (by simp; (first | lia | omega)))]
          show ok Fl.next (⟨_, (hp σ p).set (σ.length + 2) _⟩ : St) = _
          rw [hp2s]
          rfl
end D
end Nt
end

section
set_option genSizeOf false
set_option genInjectivity false
set_option maxRecDepth 100000
set_option autoImplicit false
namespace Nt
namespace D

theorem x_whileF {C : Calls} {c : E} {b : S} {st : St} (h : evalE C c st = ok (.bool false) st) : exec C (.while c b) st = ok .next st := by
  simp only [eS_skip, eS_cont, eS_seq, eS_assign, eS_unpack, eS_aug, eS_setItem, eS_expr, eS_ret, eS_raise, eS_ite, eS_while, eS_forRange, eS_forList]
  have : fuel = 999999 + 1 := rfl
  rw [this]
  generalize 999999 = m
  simp only [whileL, h, bd_ok]
theorem few0 (w : List Nat) (k : Nat) : Few { noPart with name := w } k := ⟨Nat.zero_le _, Nat.zero_le _, Nat.zero_le _⟩

theorem c8 (n : Nat) (t : List Nat) (k : Nat) (hk : k ≤ t.length) (hz : t.length + 1 < fuel) (nm : NM t) (hs : ∀ c r, t.drop k = c :: r → isSp c = false) (σ : List O) :
    ∃ res τ, callN (n + 6) 8 [.str t, .int k] σ = some (res, σ ++ τ) ∧ ((∃ e, res = .error e ∧ ∀ x, run .part x (t.drop k) = .error e) ∨
      ∃ p k', res = .ok (.tup [.ref (σ.length + 3), .int (k' : Nat)]) ∧ k < k' ∧ k' ≤ t.length ∧ τ = partO σ.length p ∧ (∀ c r, t.drop k' = c :: r → isItem c = false) ∧ ∀ x : Ctx, run .part x (t.drop k) = run .more { x with p := p } (t.drop k')) := by
  have hrun : ∀ res, callN (n + 6) 8 [.str t, .int k] σ = res ↔ runBody (callN (n + 5)) 9 body_read_simple [.str t, .int k] σ = res := fun _ => Iff.rfl
  simp only [hrun]
  unfold runBody body_read_simple
  rw [show (⟨[V.str t, V.int k].map some ++ List.replicate (9 - [V.str t, V.int k].length) Option.none, σ⟩ : St) = ⟨[vs t, vi k, none, none, none, none, none, none, none], σ⟩ from rfl]
  have e0 : exec (callN (n + 5)) (.unpack [3, 4, 5, 6] (.tup (.cons (.str []) (.cons (.list .nil) (.cons (.list .nil) (.cons (.list .nil) .nil)))))) ⟨[vs t, vi k, none, none, none, none, none, none, none], σ⟩ =
      ok .next ⟨[vs t, vi k, none, vs [], some (.ref σ.length), some (.ref (σ.length + 1)), some (.ref (σ.length + 2)), none, none], hp σ noPart⟩ := by
    have : evalE (callN (n + 5)) (.tup (.cons (.str []) (.cons (.list .nil) (.cons (.list .nil) (.cons (.list .nil) .nil))))) ⟨[vs t, vi k, none, none, none, none, none, none, none], σ⟩ =
        ok (.tup [.str [], .ref σ.length, .ref (σ.length + 1), .ref (σ.length + 2)]) ⟨[vs t, vi k, none, none, none, none, none, none, none], hp σ noPart⟩ := by
      simp [eE_loc, eE_none, eE_bool, eE_int, eE_neg, eE_str, eE_op, eE_cmp, eE_between, eE_and, eE_or, eE_ifx, eE_nil, eE_cons, eE_tup, eE_list, eE_flist, eE_dict, eE_call, eE_len, eE_ord, eE_idx, eE_slice, eE_sliceFrom, eE_sliceTo, eE_append, eE_pop, eE_endswith, eE_replace, bd, ok, hp, noPart]
    rw [x_unpack this rfl]
    rfl
  rw [x_seq e0]
  rw [x_seq (x_assign (C := callN (n + 5)) (i := 2) (e := .loc 1) (v := .int k) (st' := ⟨[vs t, vi k, none, vs [], some (.ref σ.length), some (.ref (σ.length + 1)), some (.ref (σ.length + 2)), none, none], hp σ noPart⟩) rfl)]
  rw [show (⟨[vs t, vi k, none, vs [], some (.ref σ.length), some (.ref (σ.length + 1)), some (.ref (σ.length + 2)), none, none], hp σ noPart⟩ : St).put 2 (.int k) = s9 t k k [] σ.length none none (hp σ noPart) from rfl]
  -- what stands behind the name
  have rest : ∀ (k1 : Nat) (w : List Nat), k ≤ k1 → k1 ≤ t.length → (k < k1 ∨ (k1 = k ∧ w = [])) → (∀ x : Ctx, (k < k1 ∨ ∃ c r, t.drop k = c :: r ∧ isItem c = true) → run .part x (t.drop k) = run .more { x with p := { noPart with name := w } } (t.drop k1)) →
      (k1 = k → (∀ c r, t.drop k = c :: r → isItem c = false) → ∀ x : Ctx, run .part x (t.drop k) = .error ePart) →
      ∃ res τ, (match exec (callN (n + 5)) (.seq (.while cond8 body8) (.seq (.ite (.cmp .eq (.loc 1) (.loc 2)) (.raise ePart) .skip)
        (.ret (.tup (.cons (.dict [kName, kIds, kClasses, kAttrs] (.cons (.loc 3) (.cons (.loc 4) (.cons (.loc 5) (.cons (.loc 6) .nil))))) (.cons (.loc 1) .nil)))))) (s9 t k1 k w σ.length none none (hp σ noPart)) with
        | some (.ok (.ret v), st) => some (Except.ok v, st.heap)
        | some (.error w, st) => some (.error w, st.heap)
        | _ => none) = some (res, σ ++ τ) ∧ ((∃ e, res = .error e ∧ ∀ x, run .part x (t.drop k) = .error e) ∨
      ∃ p k', res = .ok (.tup [.ref (σ.length + 3), .int (k' : Nat)]) ∧ k < k' ∧ k' ≤ t.length ∧ τ = partO σ.length p ∧ (∀ c r, t.drop k' = c :: r → isItem c = false) ∧ ∀ x : Ctx, run .part x (t.drop k) = run .more { x with p := p } (t.drop k')) := by
    intro k1 w h1 h2 h3 hr1 hr2
    rcases items n t k hz nm σ w t.length k1 h2 (by (first | lia | omega)) fuel { noPart with name := w } none none (by (first | lia | omega)) (few0 w k1) rfl with ⟨e, st', q1, ⟨τ, q2⟩, q3⟩ | ⟨p', k', l7', l8', q1, q2, q3, q4, q5, q6, q7⟩
    · have : exec (callN (n + 5)) (.while cond8 body8) (s9 t k1 k w σ.length none none (hp σ noPart)) = some (.error e, st') := q1
      rw [x_seqE this]
      refine ⟨_, τ, by show some (_, st'.heap) = _; rw [q2], .inl ⟨e, rfl, fun x => ?_⟩⟩
      by_cases hk1 : k < k1 ∨ ∃ c r, t.drop k = c :: r ∧ isItem c = true
      · rw [hr1 x hk1]; exact q3 _ rfl
      · simp only [not_or, not_exists, not_and] at hk1
        have hk1' : k1 = k := by (first | lia | omega)
        -- no item: the loop cannot fail
        subst hk1'
        have q3' := q3 { ctx0 with p := { noPart with name := w } } rfl
        exfalso
        have hno : ∀ c r, t.drop k1 = c :: r → isItem c = false := fun c r e => by
          cases q : isItem c with
          | false => rfl
          | true => exact absurd q (hk1.2 c r e)
        have e1 : evalE (callN (n + 5)) cond8 (s9 t k1 k1 w σ.length none none (hp σ noPart)) = ok (.bool false) (s9 t k1 k1 w σ.length none none (hp σ noPart)) := by
          refine ev_cmp' (u := .str ((t.drop k1).take 1)) (v := .tup [.str [35], .str [46], .str [91]]) ?_ rfl ?_
          · show ok (V.str (sliceV t (k1 : Int) ((k1 : Int) + 1))) _ = _
            rw [slice1 t k1 hk]
          · show some ([[35], [46], [91]].contains ((t.drop k1).take 1)) = _
            cases hd : t.drop k1 with
            | nil => rfl
            | cons c r =>
              have := hno c r hd
              simp only [isItem, Bool.or_eq_false_iff, beq_eq_false_iff_ne] at this
              simp [this]
        rw [x_whileF e1] at this
        (first | exact no this | exact no1 this | exact no2 this | exact noE this | exact noE1 this | obtain rfl := Option.some.inj this | obtain rfl := Except.ok.inj this | obtain rfl := this | cases this)
    · have hw8 : exec (callN (n + 5)) (.while cond8 body8) (s9 t k1 k w σ.length none none (hp σ noPart)) = ok .next (s9 t k' k w σ.length l7' l8' (hp σ p')) := q1
      rw [x_seq hw8]
      have e4 : evalE (callN (n + 5)) (.cmp .eq (.loc 1) (.loc 2)) (s9 t k' k w σ.length l7' l8' (hp σ p')) = ok (.bool ((k' : Int) == (k : Int))) (s9 t k' k w σ.length l7' l8' (hp σ p')) := ev_cmp' (u := .int k') (v := .int k) rfl rfl rfl
      by_cases hkk : k' = k
      · have : ((k' : Int) == (k : Int)) = true := by subst hkk; simp
        rw [this] at e4
        rw [x_seqE (w := ePart) (st' := s9 t k' k w σ.length l7' l8' (hp σ p')) (by rw [x_iteT e4]; rfl)]
        refine ⟨_, _, rfl, .inl ⟨_, rfl, fun x => ?_⟩⟩
        have hk1 : k1 = k := by (first | lia | omega)
        refine hr2 hk1 (fun c r e => ?_) x
        subst hk1
        subst hkk
        exact q5 c r e
      · have : ((k' : Int) == (k : Int)) = false := by simp; (first | lia | omega)
        rw [this] at e4
        rw [x_seq (st' := s9 t k' k w σ.length l7' l8' (hp σ p')) (by rw [x_iteF e4]; rfl)]
        have e5 : evalE (callN (n + 5)) (.tup (.cons (.dict [kName, kIds, kClasses, kAttrs] (.cons (.loc 3) (.cons (.loc 4) (.cons (.loc 5) (.cons (.loc 6) .nil))))) (.cons (.loc 1) .nil))) (s9 t k' k w σ.length l7' l8' (hp σ p')) =
            ok (.tup [.ref (σ.length + 3), .int (k' : Nat)]) ⟨(s9 t k' k w σ.length l7' l8' (hp σ p')).loc, σ ++ partO σ.length p'⟩ := by
          have hl : (hp σ p').length = σ.length + 3 := by simp [hp]
          simp only [eE_loc, eE_none, eE_bool, eE_int, eE_neg, eE_str, eE_op, eE_cmp, eE_between, eE_and, eE_or, eE_ifx, eE_nil, eE_cons, eE_tup, eE_list, eE_flist, eE_dict, eE_call, eE_len, eE_ord, eE_idx, eE_slice, eE_sliceFrom, eE_sliceTo, eE_append, eE_pop, eE_endswith, eE_replace, bd_ok, List.getElem?_cons_zero, List.getElem?_cons_succ, List.length_cons, List.length_nil, if_true, hl]
          show ok _ _ = _
          congr 2
          unfold hp partO
          rw [q4]
          simp
        rw [x_ret e5]
        refine ⟨_, _, rfl, .inr ⟨p', k', rfl, by (first | lia | omega), q3, rfl, q5, fun x => ?_⟩⟩
        have hcase : k < k1 ∨ ∃ c r, t.drop k = c :: r ∧ isItem c = true := by
          rcases h3 with h3 | ⟨h3, _⟩
          · exact .inl h3
          · right
            subst h3
            cases hd : t.drop k1 with
            | nil =>
              have := drop_nil hd hk
              (first | lia | omega)
            | cons c r =>
              refine ⟨c, r, rfl, ?_⟩
              cases hi : isItem c with
              | true => rfl
              | false =>
                exfalso
                -- the loop leaves at once
                have e1 : evalE (callN (n + 5)) cond8 (s9 t k1 k1 w σ.length none none (hp σ noPart)) = ok (.bool false) (s9 t k1 k1 w σ.length none none (hp σ noPart)) := by
                  refine ev_cmp' (u := .str ((t.drop k1).take 1)) (v := .tup [.str [35], .str [46], .str [91]]) ?_ rfl ?_
                  · show ok (V.str (sliceV t (k1 : Int) ((k1 : Int) + 1))) _ = _
                    rw [slice1 t k1 hk]
                  · show some ([[35], [46], [91]].contains ((t.drop k1).take 1)) = _
                    rw [hd]
                    simp only [isItem, Bool.or_eq_false_iff, beq_eq_false_iff_ne] at hi
                    simp [hi]
                rw [x_whileF e1] at hw8
                have := congrArg (fun z : Res Fl => z.map fun y => y.2.loc[1]?) hw8
                simp [ok] at this
                (first | lia | omega)
        rw [hr1 x hcase]
        exact q7 _ rfl
  have sl : evalE (callN (n + 5)) (.slice (.loc 0) (.loc 1) (.op .add (.loc 1) (.int 1))) (s9 t k k [] σ.length none none (hp σ noPart)) = ok (.str ((t.drop k).take 1)) (s9 t k k [] σ.length none none (hp σ noPart)) := by
    show ok (V.str (sliceV t (k : Int) ((k : Int) + 1))) _ = _
    rw [slice1 t k hk]
  have e42 := ev_cmp' (c := .eq) (b := .str [42]) (v := .str [42]) sl rfl rfl
  cases hd : t.drop k with
  | nil =>
    rw [hd] at e42 sl
    have e4 := ev_call1 (f := 4) sl (c4e (n + 3) (hp σ noPart))
    rw [x_seq (st' := s9 t k k [] σ.length none none (hp σ noPart)) (by rw [x_iteF e42, x_iteF e4]; rfl)]
    have := rest k [] (Nat.le_refl _) hk (.inr ⟨rfl, rfl⟩) (fun x h => ?_) (fun _ _ x => by rw [hd]; rfl)
    · rw [hd] at this; exact this
    · rcases h with h | ⟨c, r, e, _⟩
      · (first | lia | omega)
      · rw [hd] at e; (first | exact no e | exact no1 e | exact no2 e | exact noE e | exact noE1 e | obtain rfl := Option.some.inj e | obtain rfl := Except.ok.inj e | obtain rfl := e | cases e)
  | cons c r =>
    obtain ⟨hkc, hd1, hk1⟩ := drop_cons hd
    have hsp := hs c r hd
    rw [hd] at e42 sl
    by_cases h42 : c = 42
    · subst h42
      rw [x_seq (st' := s9 t (k + 1) k [] σ.length none none (hp σ noPart)) (by
        rw [x_iteT e42]
        exact x_aug (C := callN (n + 5)) (e := .int 1) (st := s9 t k k [] σ.length none none (hp σ noPart)) (st' := s9 t k k [] σ.length none none (hp σ noPart)) (i := 1) (k := (k : Int)) (j := 1) rfl rfl)]
      have := rest (k + 1) [] (by (first | lia | omega)) (by (first | lia | omega)) (.inl (by (first | lia | omega))) (fun x _ => by rw [hd, hd1]; exact run_of rfl) (fun h => by (first | lia | omega))
      rw [hd] at this; exact this
    · have f42 : (([c] : List Nat) == [42]) = false := by simp [h42]
      rw [show (c :: r).take 1 = [c] from rfl] at e42 sl
      rw [f42] at e42
      have e4 := ev_call1 (f := 4) sl (c4 (n + 3) c (hp σ noPart))
      by_cases hw : isWs c = true
      · rw [hw] at e4
        have e5 : evalE (callN (n + 5)) (.call 5 (.cons (.loc 0) (.cons (.loc 1) .nil))) (s9 t k k [] σ.length none none (hp σ noPart)) = some ((if badWord ((c :: r).takeWhile isWs) ((c :: r).dropWhile isWs) then .error eWord else .ok (.tup [.str ((c :: r).takeWhile isWs), .int ((k + ((c :: r).takeWhile isWs).length : Nat) : Int)])), s9 t k k [] σ.length none none (hp σ noPart)) := by
          have := ev_call2 (C := callN (n + 5)) (f := 5) (a := .loc 0) (b := .loc 1) (st := s9 t k k [] σ.length none none (hp σ noPart)) (u := .str t) (v := .int k) (st' := s9 t k k [] σ.length none none (hp σ noPart)) (st'' := s9 t k k [] σ.length none none (hp σ noPart)) rfl rfl (c5 (n + 2) t k hk (by (first | lia | omega)) nm _)
          rw [hd] at this
          exact this
        have key : ∀ x : Ctx, run .part x (c :: r) = if badWord ((c :: r).takeWhile isWs) ((c :: r).dropWhile isWs) then .error eWord else run .more (x.fresh.take .name ((c :: r).takeWhile isWs)) ((c :: r).dropWhile isWs) := fun x => by
          rw [show Q.more = after .name from rfl, ← entry hw, run_step]
          have st : step .part x c = if isLt c = true then .ok (.word .name [c], x.fresh) else .error eWord := by
            simp only [step, step1, partStep, hsp]
            by_cases hl : isLt c = true
            · simp [hl]
            · have hdg : isDg c = true := by simpa [isWs, hl] using hw
              simp [hl, hdg]
          rw [st]
          cases isLt c <;> rfl
        have hle := span_le isWs t k hk
        have hdr := span_drop isWs t k
        have hpos : 0 < ((c :: r).takeWhile isWs).length := by rw [List.takeWhile_cons_of_pos hw]; simp
        rw [hd] at hle hdr
        generalize (c :: r).takeWhile isWs = w at *
        generalize (c :: r).dropWhile isWs = r' at *
        by_cases hb : badWord w r' = true
        · rw [if_pos hb] at e5
          rw [x_seqE (w := eWord) (st' := s9 t k k [] σ.length none none (hp σ noPart)) (by rw [x_iteF e42, x_iteT e4]; exact x_unpackE e5)]
          exact ⟨_, _, rfl, .inl ⟨_, rfl, fun x => by rw [key, if_pos hb]⟩⟩
        · rw [if_neg hb] at e5
          rw [x_seq (st' := s9 t (k + w.length) k w σ.length none none (hp σ noPart)) (by rw [x_iteF e42, x_iteT e4, x_unpack e5 rfl]; rfl)]
          have := rest (k + w.length) w (by (first | lia | omega)) hle (.inl (by (first | lia | omega))) (fun x _ => by rw [hd, key, if_neg hb, hdr]; rfl) (fun h => by (first | lia | omega))
          rw [hd] at this; exact this
      · have hw : isWs c = false := by simpa using hw
        rw [hw] at e4
        rw [x_seq (st' := s9 t k k [] σ.length none none (hp σ noPart)) (by rw [x_iteF e42, x_iteF e4]; rfl)]
        have hw' : isLt c = false ∧ isDg c = false := by simpa [isWs] using hw
        have := rest k [] (Nat.le_refl _) hk (.inr ⟨rfl, rfl⟩) (fun x h => ?_) (fun _ h x => ?_)
        · rw [hd] at this; exact this
        · rcases h with h | ⟨c', r', e, hi⟩
          · (first | lia | omega)
          · rw [hd] at e; (first | exact no e | exact no1 e | exact no2 e | exact noE e | exact noE1 e | obtain rfl := Option.some.inj e | obtain rfl := Except.ok.inj e | obtain rfl := e | cases e)
            rw [hd]
            simp only [isItem, Bool.or_eq_true, beq_iff_eq] at hi
            rcases hi with rfl | rfl | rfl <;> rfl
        · have hi := h c r hd
          simp only [isItem, Bool.or_eq_false_iff, beq_eq_false_iff_ne] at hi
          rw [hd]
          refine run_err ?_
          simp [step, step1, partStep, hsp, hw', h42, hi]
end D
end Nt
end

section
set_option genSizeOf false
set_option genInjectivity false
set_option maxRecDepth 100000
set_option autoImplicit false
namespace Nt
namespace D

noncomputable def RepPart (F : Nat → Prop) (h : List O) (d : Nat) (p : Part) : Prop :=
  ∃ i c a, F d ∧ F i ∧ F c ∧ F a ∧ h[d]? = some (.dict [(kName, .str p.name), (kIds, .ref i), (kClasses, .ref c), (kAttrs, .ref a)]) ∧
    h[i]? = some (.list (p.ids.map .str)) ∧ h[c]? = some (.list (p.classes.map .str)) ∧ h[a]? = some (.list (p.attrs.map attrV))
noncomputable def RepItems (F : Nat → Prop) (h : List O) : List V → Chain → Prop
  | [], [] => True
  | v :: vs, (j, p) :: r => (∃ d, v = .tup [.str j, .ref d] ∧ RepPart F h d p) ∧ RepItems F h vs r
  | _, _ => False
noncomputable def RepChain (F : Nat → Prop) (h : List O) (n : Nat) (c : Chain) : Prop := F n ∧ ∃ vs, h[n]? = some (.list vs) ∧ RepItems F h vs c
noncomputable def RepChains (F : Nat → Prop) (h : List O) : List V → List Chain → Prop
  | [], [] => True
  | v :: vs, c :: r => (∃ n, v = .ref n ∧ RepChain F h n c) ∧ RepChains F h vs r
  | _, _ => False
noncomputable def RepSel (F : Nat → Prop) (h : List O) (q : Nat) (cs : List Chain) : Prop := ∃ vs, h[q]? = some (.list vs) ∧ RepChains F h vs cs

section
variable {F F' : Nat → Prop} {h h' : List O}
noncomputable def Keep (F F' : Nat → Prop) (h h' : List O) : Prop := (∀ j, F j → F' j) ∧ ∀ j o, F j → h[j]? = some o → h'[j]? = some o
theorem RepPart.mono (k : Keep F F' h h') {d : Nat} {p : Part} (x : RepPart F h d p) : RepPart F' h' d p := by
  obtain ⟨i, c, a, f1, f2, f3, f4, g1, g2, g3, g4⟩ := x
  exact ⟨i, c, a, k.1 _ f1, k.1 _ f2, k.1 _ f3, k.1 _ f4, k.2 _ _ f1 g1, k.2 _ _ f2 g2, k.2 _ _ f3 g3, k.2 _ _ f4 g4⟩
theorem RepItems.mono (k : Keep F F' h h') : ∀ {vs : List V} {c : Chain}, RepItems F h vs c → RepItems F' h' vs c
  | [], [], _ => trivial
  | v :: vs, (j, p) :: r, x => ⟨let ⟨d, e, y⟩ := x.1; ⟨d, e, y.mono k⟩, RepItems.mono k x.2⟩
  | [], _ :: _, x => x.elim
  | _ :: _, [], x => x.elim
theorem RepChain.mono (k : Keep F F' h h') {n : Nat} {c : Chain} (x : RepChain F h n c) : RepChain F' h' n c :=
  let ⟨f, vs, g, y⟩ := x
  ⟨k.1 _ f, vs, k.2 _ _ f g, y.mono k⟩
theorem RepChains.mono (k : Keep F F' h h') : ∀ {vs : List V} {c : List Chain}, RepChains F h vs c → RepChains F' h' vs c
  | [], [], _ => trivial
  | v :: vs, c :: r, x => ⟨let ⟨d, e, y⟩ := x.1; ⟨d, e, y.mono k⟩, RepChains.mono k x.2⟩
  | [], _ :: _, x => x.elim
  | _ :: _, [], x => x.elim
theorem RepItems.snoc : ∀ {vs : List V} {c : Chain} {j : List Nat} {p : Part} {d : Nat}, RepItems F h vs c → RepPart F h d p → RepItems F h (vs ++ [.tup [.str j, .ref d]]) (c ++ [(j, p)])
  | [], [], j, p, d, _, y => ⟨⟨d, rfl, y⟩, trivial⟩
  | v :: vs, _ :: r, j, p, d, x, y => ⟨x.1, RepItems.snoc x.2 y⟩
  | [], _ :: _, _, _, _, x, _ => x.elim
  | _ :: _, [], _, _, _, x, _ => x.elim
theorem RepChains.snoc : ∀ {vs : List V} {c : List Chain} {b : Chain} {n : Nat}, RepChains F h vs c → RepChain F h n b → RepChains F h (vs ++ [.ref n]) (c ++ [b])
  | [], [], b, n, _, y => ⟨⟨n, rfl, y⟩, trivial⟩
  | v :: vs, _ :: r, b, n, x, y => ⟨x.1, RepChains.snoc x.2 y⟩
  | [], _ :: _, _, _, x, _ => x.elim
  | _ :: _, [], _, _, x, _ => x.elim
theorem Keep.app (F : Nat → Prop) (h τ : List O) : Keep F F h (h ++ τ) := ⟨fun _ x => x, fun j o _ e => by
  rw [List.getElem?_append_left (List.getElem?_eq_some_iff.mp e).1]; exact e⟩
theorem Keep.set {F : Nat → Prop} (h : List O) {n : Nat} (o : O) (hn : ¬ F n) : Keep F F h (h.set n o) := ⟨fun _ x => x, fun j o' f e => by
  rw [List.getElem?_set_ne (fun q => hn (by rw [q]; exact f))]; exact e⟩
theorem Keep.trans {F F' F'' : Nat → Prop} {h h' h'' : List O} (a : Keep F F' h h') (b : Keep F' F'' h' h'') : Keep F F'' h h'' := ⟨fun j x => b.1 j (a.1 j x), fun j o f e => b.2 j o (a.1 j f) (a.2 j o f e)⟩
theorem Keep.imp {F F' : Nat → Prop} (h : List O) (k : ∀ j, F j → F' j) : Keep F F' h h := ⟨k, fun _ _ _ e => e⟩
end
theorem rep_partO (σ : List O) (p : Part) {F : Nat → Prop} (hF : ∀ j, σ.length ≤ j → F j) : RepPart F (σ ++ partO σ.length p) (σ.length + 3) p :=
  ⟨σ.length, σ.length + 1, σ.length + 2, hF _ (by (first | lia | omega)), hF _ (by (first | lia | omega)), hF _ (by (first | lia | omega)), hF _ (by (first | lia | omega)), by simp [partO], by simp [partO], by simp [partO], by simp [partO]⟩

-- what the machine does behind a part
section
variable {t : List Nat} {x : Ctx} {k1 : Nat} (hno : ∀ c r, t.drop k1 = c :: r → isItem c = false)
theorem more_gap {c : Nat} {r : List Nat} (hd : t.drop (ps t k1) = c :: r) : (ps t k1 = k1 ∧ t.drop k1 = c :: r) ∨ (k1 < ps t k1 ∧ run .more x (t.drop k1) = run .gap x (c :: r)) := by
  cases hk : t.drop k1 with
  | nil =>
    rw [ps_drop, hk] at hd; (first | exact no hd | exact no1 hd | exact no2 hd | exact noE hd | exact noE1 hd | obtain rfl := Option.some.inj hd | obtain rfl := Except.ok.inj hd | obtain rfl := hd | cases hd)
  | cons a s =>
    cases hs : isSp a with
    | false =>
      left
      have : ps t k1 = k1 := by unfold ps; rw [hk, List.takeWhile_cons_of_neg (by simp [hs])]; rfl
      rw [this] at hd
      exact ⟨this, by rw [← hk, hd]⟩
    | true =>
      right
      refine ⟨?_, ?_⟩
      · unfold ps; rw [hk, List.takeWhile_cons_of_pos hs]; simp
      · rw [run_more_sp hs, ← hk, ← ps_drop, hd]
theorem more_end (hd : t.drop (ps t k1) = []) : run .more x (t.drop k1) = .ok (x.cs ++ [x.laid]) := by
  cases hk : t.drop k1 with
  | nil => rfl
  | cons a s =>
    have hs : isSp a = true := by
      cases hs : isSp a with
      | true => rfl
      | false =>
        rw [ps_drop, hk, List.dropWhile_cons_of_neg (by simp [hs])] at hd; (first | exact no hd | exact no1 hd | exact no2 hd | exact noE hd | exact noE1 hd | obtain rfl := Option.some.inj hd | obtain rfl := Except.ok.inj hd | obtain rfl := hd | cases hd)
    rw [run_more_sp hs, ← hk, ← ps_drop, hd]
    rfl
theorem more_comma {r : List Nat} (hd : t.drop (ps t k1) = 44 :: r) : run .more x (t.drop k1) = run .part x.comma r := by
  rcases more_gap (x := x) hd with ⟨_, e⟩ | ⟨_, e⟩
  · rw [e]; exact run_of rfl
  · rw [e]; exact run_of rfl
theorem more_joint {c : Nat} {r : List Nat} (hd : t.drop (ps t k1) = c :: r) (hj : isJoint c = true) : run .more x (t.drop k1) = run .part (x.join [c]) r := by
  have hj' : c = 62 ∨ c = 43 ∨ c = 126 := by simpa [isJoint] using hj
  rcases more_gap (x := x) hd with ⟨_, e⟩ | ⟨_, e⟩
  · rw [e]; rcases hj' with rfl | rfl | rfl <;> exact run_of rfl
  · rw [e]; rcases hj' with rfl | rfl | rfl <;> exact run_of rfl
theorem more_space {c : Nat} {r : List Nat} (hd : t.drop (ps t k1) = c :: r) (h44 : c ≠ 44) (hj : isJoint c = false) (hlt : k1 < ps t k1) : run .more x (t.drop k1) = run .part (x.join [32]) (c :: r) := by
  rcases more_gap (x := x) hd with ⟨e, _⟩ | ⟨_, e⟩
  · (first | lia | omega)
  · rw [e, run_step, run_step]
    have hs := ps_head hd
    have : step .gap x c = step .part (x.join [32]) c := by
      simp [step, step1, hs, h44, hj]
    rw [this]
include hno in
theorem more_sign {c : Nat} {r : List Nat} (hd : t.drop (ps t k1) = c :: r) (h44 : c ≠ 44) (hj : isJoint c = false) (heq : ps t k1 = k1) : run .more x (t.drop k1) = .error eSign := by
  rw [heq] at hd
  have hi := hno c r hd
  have hs := ps_head (by rw [heq]; exact hd)
  simp only [isItem, Bool.or_eq_false_iff, beq_eq_false_iff_ne] at hi
  rw [hd]
  refine run_err ?_
  simp [step, step1, hs, h44, hj, hi]
end

noncomputable abbrev body9 : S := .seq (.unpack [5, 1] (.call 8 (.cons (.loc 0) (.cons (.loc 1) .nil))))
    (.seq (.expr (.append (.loc 2) (.tup (.cons (.loc 3) (.cons (.loc 5) .nil)))))
    (.seq (.assign 4 (.call 3 (.cons (.loc 0) (.cons (.loc 1) .nil))))
    (.seq (.assign 3 (.slice (.loc 0) (.loc 4) (.op .add (.loc 4) (.int 1))))
    (.seq (.ite (.cmp .isIn (.loc 3) (.tup (.cons (.str []) (.cons (.str [44]) .nil))))
      (.ret (.tup (.cons (.loc 2) (.cons (.loc 4) .nil))))
      .skip)
    (.ite (.cmp .isIn (.loc 3) (.tup (.cons (.str [62]) (.cons (.str [43]) (.cons (.str [126]) .nil)))))
      (.assign 1 (.call 3 (.cons (.loc 0) (.cons (.op .add (.loc 4) (.int 1)) .nil))))
      (.ite (.cmp .gt (.loc 4) (.loc 1))
        (.seq (.assign 3 (.str [32]))
        (.assign 1 (.loc 4)))
        (.raise eSign)))))))
noncomputable abbrev s6 (t : List Nat) (k n0 : Nat) (j : List Nat) (l4 l5 : Option V) (h : List O) : St := ⟨[vs t, vi k, some (.ref n0), vs j, l4, l5], h⟩

noncomputable def Ends (t : List Nat) (k : Nat) (cs : List Chain) (res : M (List Chain)) : Prop := (t.drop k = [] ∧ res = .ok cs) ∨ ∃ r, t.drop k = 44 :: r ∧ res = run .part ⟨cs, [], [], noPart⟩ r

theorem chain_loop (n : Nat) (t : List Nat) (hz : t.length + 1 < fuel) (nm : NM t) (σ : List O) : ∀ (d k : Nat), k ≤ t.length → t.length - k ≤ d → ∀ (m : Nat) (ws : List V) (τ : List O) (cur : Chain) (j : List Nat) (l4 l5 : Option V), d < m → ws.length ≤ k → (∀ c r, t.drop k = c :: r → isSp c = false) → RepItems (σ.length < ·) (σ ++ .list ws :: τ) ws cur →
    (∃ e st', whileL (evalE (callN (n + 6)) (.bool true)) (exec (callN (n + 6)) body9) m (s6 t k σ.length j l4 l5 (σ ++ .list ws :: τ)) = some (.error e, st') ∧ (∃ τ', st'.heap = σ ++ τ') ∧ ∀ cs p0, run .part ⟨cs, cur, j, p0⟩ (t.drop k) = .error e) ∨
    (∃ cur' ws' τ' k' st', whileL (evalE (callN (n + 6)) (.bool true)) (exec (callN (n + 6)) body9) m (s6 t k σ.length j l4 l5 (σ ++ .list ws :: τ)) = ok (.ret (.tup [.ref σ.length, .int (k' : Nat)])) st' ∧ st'.heap = σ ++ .list ws' :: τ' ∧ RepItems (σ.length < ·) (σ ++ .list ws' :: τ') ws' cur' ∧ k < k' ∧ k' ≤ t.length ∧
      ∀ cs p0, Ends t k' (cs ++ [cur']) (run .part ⟨cs, cur, j, p0⟩ (t.drop k))) := by
  intro d
  induction d with
  | zero =>
    intro k hk hd m ws τ cur j l4 l5 hm hws hs hrep
    obtain ⟨m, rfl⟩ : ∃ m', m = m' + 1 := ⟨m - 1, by (first | lia | omega)⟩
    obtain ⟨res, τ8, e8, ho⟩ := c8 n t k hk hz nm hs (σ ++ .list ws :: τ)
    have e8' := ev_call2 (C := callN (n + 6)) (f := 8) (a := .loc 0) (b := .loc 1) (st := s6 t k σ.length j l4 l5 (σ ++ .list ws :: τ)) (u := .str t) (v := .int k) (st' := s6 t k σ.length j l4 l5 (σ ++ .list ws :: τ)) (st'' := s6 t k σ.length j l4 l5 (σ ++ .list ws :: τ)) rfl rfl e8
    rcases ho with ⟨e, rfl, hr⟩ | ⟨p, k1, _, h1, h2, _⟩
    · refine .inl ⟨e, ⟨(s6 t k σ.length j l4 l5 (σ ++ .list ws :: τ)).loc, σ ++ .list ws :: τ ++ τ8⟩, ?_, ⟨.list ws :: τ ++ τ8, by simp⟩, fun cs p0 => hr _⟩
      simp only [whileL, eE_loc, eE_none, eE_bool, eE_int, eE_neg, eE_str, eE_op, eE_cmp, eE_between, eE_and, eE_or, eE_ifx, eE_nil, eE_cons, eE_tup, eE_list, eE_flist, eE_dict, eE_call, eE_len, eE_ord, eE_idx, eE_slice, eE_sliceFrom, eE_sliceTo, eE_append, eE_pop, eE_endswith, eE_replace, bd_ok]
      rw [x_seqE (x_unpackE e8')]
      rfl
    · (first | lia | omega)
  | succ d ih =>
    intro k hk hd m ws τ cur j l4 l5 hm hws hs hrep
    obtain ⟨m, rfl⟩ : ∃ m', m = m' + 1 := ⟨m - 1, by (first | lia | omega)⟩
    obtain ⟨res, τ8, e8, ho⟩ := c8 n t k hk hz nm hs (σ ++ .list ws :: τ)
    have e8' := ev_call2 (C := callN (n + 6)) (f := 8) (a := .loc 0) (b := .loc 1) (st := s6 t k σ.length j l4 l5 (σ ++ .list ws :: τ)) (u := .str t) (v := .int k) (st' := s6 t k σ.length j l4 l5 (σ ++ .list ws :: τ)) (st'' := s6 t k σ.length j l4 l5 (σ ++ .list ws :: τ)) rfl rfl e8
    rcases ho with ⟨e, rfl, hr⟩ | ⟨p, k1, rfl, h1, h2, rfl, hno, hr⟩
    · refine .inl ⟨e, ⟨(s6 t k σ.length j l4 l5 (σ ++ .list ws :: τ)).loc, σ ++ .list ws :: τ ++ τ8⟩, ?_, ⟨.list ws :: τ ++ τ8, by simp⟩, fun cs p0 => hr _⟩
      simp only [whileL, eE_loc, eE_none, eE_bool, eE_int, eE_neg, eE_str, eE_op, eE_cmp, eE_between, eE_and, eE_or, eE_ifx, eE_nil, eE_cons, eE_tup, eE_list, eE_flist, eE_dict, eE_call, eE_len, eE_ord, eE_idx, eE_slice, eE_sliceFrom, eE_sliceTo, eE_append, eE_pop, eE_endswith, eE_replace, bd_ok]
      rw [x_seqE (x_unpackE e8')]
      rfl
    · generalize hD : (σ ++ .list ws :: τ).length + 3 = D at *
      let w2 : List V := ws ++ [.tup [.str j, .ref D]]
      let τ2 : List O := τ ++ partO (σ ++ .list ws :: τ).length p
      have hset : (σ ++ .list ws :: τ ++ partO (σ ++ .list ws :: τ).length p).set σ.length (.list w2) = σ ++ .list w2 :: τ2 := by
        have := set_app σ (.list ws :: τ ++ partO (σ ++ .list ws :: τ).length p) 0 (.list w2)
        simp only [Nat.add_zero] at this
        rw [List.append_assoc, this]
        rfl
      have flim : t.length < lim := by have : fuel < lim := by decide
                                       (first | lia | omega)
      have rep2 : RepItems (σ.length < ·) (σ ++ .list w2 :: τ2) w2 (cur ++ [(j, p)]) := by
        have kp : Keep (σ.length < ·) (σ.length < ·) (σ ++ .list ws :: τ ++ partO (σ ++ .list ws :: τ).length p) (σ ++ .list w2 :: τ2) := by
          rw [← hset]
          exact Keep.set _ _ (Nat.lt_irrefl _)
        refine RepItems.snoc (hrep.mono ((Keep.app _ _ _).trans kp)) ?_
        rw [← hD]
        exact (rep_partO (F := (σ.length < ·)) (σ ++ .list ws :: τ) p (fun i hi => by simp at hi; show σ.length < i; (first | lia | omega))).mono kp
      have u1 : exec (callN (n + 6)) (.unpack [5, 1] (.call 8 (.cons (.loc 0) (.cons (.loc 1) .nil)))) (s6 t k σ.length j l4 l5 (σ ++ .list ws :: τ)) = ok .next (s6 t k1 σ.length j l4 (some (.ref D)) (σ ++ .list ws :: τ ++ partO (σ ++ .list ws :: τ).length p)) := x_unpack e8' rfl
      have u2 : exec (callN (n + 6)) (.expr (.append (.loc 2) (.tup (.cons (.loc 3) (.cons (.loc 5) .nil))))) (s6 t k1 σ.length j l4 (some (.ref D)) (σ ++ .list ws :: τ ++ partO (σ ++ .list ws :: τ).length p)) = ok .next (s6 t k1 σ.length j l4 (some (.ref D)) (σ ++ .list w2 :: τ2)) := by
        rw [x_expr (ev_append' (n := σ.length) (ws := ws) (v := .tup [.str j, .ref D]) rfl (by simp) rfl (by (first | lia | omega))), hset]
      have hk2 := ps_le h2
      have hge2 := ps_ge t k1
      have u3 : exec (callN (n + 6)) (.assign 4 (.call 3 (.cons (.loc 0) (.cons (.loc 1) .nil)))) (s6 t k1 σ.length j l4 (some (.ref D)) (σ ++ .list w2 :: τ2)) = ok .next (s6 t k1 σ.length j (vi (ps t k1)) (some (.ref D)) (σ ++ .list w2 :: τ2)) :=
        x_assign (ev_call2 (u := .str t) (v := .int k1) (st' := s6 t k1 σ.length j l4 (some (.ref D)) (σ ++ .list w2 :: τ2)) (st'' := s6 t k1 σ.length j l4 (some (.ref D)) (σ ++ .list w2 :: τ2)) rfl rfl (c3' (n + 4) t k1 h2 (by (first | lia | omega)) _))
      have u4 : exec (callN (n + 6)) (.assign 3 (.slice (.loc 0) (.loc 4) (.op .add (.loc 4) (.int 1)))) (s6 t k1 σ.length j (vi (ps t k1)) (some (.ref D)) (σ ++ .list w2 :: τ2)) = ok .next (s6 t k1 σ.length ((t.drop (ps t k1)).take 1) (vi (ps t k1)) (some (.ref D)) (σ ++ .list w2 :: τ2)) := by
        refine x_assign (v := .str ((t.drop (ps t k1)).take 1)) (st' := s6 t k1 σ.length j (vi (ps t k1)) (some (.ref D)) (σ ++ .list w2 :: τ2)) ?_
        show ok (V.str (sliceV t (ps t k1 : Int) ((ps t k1 : Int) + 1))) _ = _
        rw [slice1 t _ hk2]
      let sA : St := s6 t k1 σ.length ((t.drop (ps t k1)).take 1) (vi (ps t k1)) (some (.ref D)) (σ ++ .list w2 :: τ2)
      have u5 : evalE (callN (n + 6)) (.cmp .isIn (.loc 3) (.tup (.cons (.str []) (.cons (.str [44]) .nil)))) sA = ok (.bool ([[], [44]].contains ((t.drop (ps t k1)).take 1))) sA := ev_cmp' (u := .str ((t.drop (ps t k1)).take 1)) (v := .tup [.str [], .str [44]]) rfl rfl rfl
      have u6 : evalE (callN (n + 6)) (.cmp .isIn (.loc 3) (.tup (.cons (.str [62]) (.cons (.str [43]) (.cons (.str [126]) .nil))))) sA = ok (.bool ([[62], [43], [126]].contains ((t.drop (ps t k1)).take 1))) sA := ev_cmp' (u := .str ((t.drop (ps t k1)).take 1)) (v := .tup [.str [62], .str [43], .str [126]]) rfl rfl rfl
      have hbody : exec (callN (n + 6)) body9 (s6 t k σ.length j l4 l5 (σ ++ .list ws :: τ)) = exec (callN (n + 6)) (.seq (.ite (.cmp .isIn (.loc 3) (.tup (.cons (.str []) (.cons (.str [44]) .nil))))
          (.ret (.tup (.cons (.loc 2) (.cons (.loc 4) .nil)))) .skip)
        (.ite (.cmp .isIn (.loc 3) (.tup (.cons (.str [62]) (.cons (.str [43]) (.cons (.str [126]) .nil)))))
          (.assign 1 (.call 3 (.cons (.loc 0) (.cons (.op .add (.loc 4) (.int 1)) .nil))))
          (.ite (.cmp .gt (.loc 4) (.loc 1)) (.seq (.assign 3 (.str [32])) (.assign 1 (.loc 4))) (.raise eSign)))) sA := by
        rw [x_seq u1, x_seq u2, x_seq u3, x_seq u4]
      -- the chain ends
      have stop : [[], [44]].contains ((t.drop (ps t k1)).take 1) = true → whileL (evalE (callN (n + 6)) (.bool true)) (exec (callN (n + 6)) body9) (m + 1) (s6 t k σ.length j l4 l5 (σ ++ .list ws :: τ)) = ok (.ret (.tup [.ref σ.length, .int (ps t k1 : Nat)])) sA := fun hc => by
        rw [hc] at u5
        simp only [whileL, eE_loc, eE_none, eE_bool, eE_int, eE_neg, eE_str, eE_op, eE_cmp, eE_between, eE_and, eE_or, eE_ifx, eE_nil, eE_cons, eE_tup, eE_list, eE_flist, eE_dict, eE_call, eE_len, eE_ord, eE_idx, eE_slice, eE_sliceFrom, eE_sliceTo, eE_append, eE_pop, eE_endswith, eE_replace, bd_ok, hbody]
        rw [x_seqR (v := .tup [.ref σ.length, .int (ps t k1 : Nat)]) (st' := sA) (by rw [x_iteT u5]; exact x_ret rfl)]
        rfl
      have go : ∀ (st2 : St), exec (callN (n + 6)) body9 (s6 t k σ.length j l4 l5 (σ ++ .list ws :: τ)) = ok .next st2 → whileL (evalE (callN (n + 6)) (.bool true)) (exec (callN (n + 6)) body9) (m + 1) (s6 t k σ.length j l4 l5 (σ ++ .list ws :: τ)) = whileL (evalE (callN (n + 6)) (.bool true)) (exec (callN (n + 6)) body9) m st2 := fun st2 e => by
        simp only [whileL, eE_loc, eE_none, eE_bool, eE_int, eE_neg, eE_str, eE_op, eE_cmp, eE_between, eE_and, eE_or, eE_ifx, eE_nil, eE_cons, eE_tup, eE_list, eE_flist, eE_dict, eE_call, eE_len, eE_ord, eE_idx, eE_slice, eE_sliceFrom, eE_sliceTo, eE_append, eE_pop, eE_endswith, eE_replace, bd_ok, e]
      have onward : ∀ (k3 : Nat) (j' : List Nat), k1 ≤ k3 → k3 ≤ t.length → (∀ c r, t.drop k3 = c :: r → isSp c = false) → exec (callN (n + 6)) body9 (s6 t k σ.length j l4 l5 (σ ++ .list ws :: τ)) = ok .next (s6 t k3 σ.length j' (vi (ps t k1)) (some (.ref D)) (σ ++ .list w2 :: τ2)) →
          (∀ cs p0, run .part ⟨cs, cur, j, p0⟩ (t.drop k) = run .part ⟨cs, cur ++ [(j, p)], j', noPart⟩ (t.drop k3)) → 
          (∃ e st', whileL (evalE (callN (n + 6)) (.bool true)) (exec (callN (n + 6)) body9) (m + 1) (s6 t k σ.length j l4 l5 (σ ++ .list ws :: τ)) = some (.error e, st') ∧ (∃ τ', st'.heap = σ ++ τ') ∧ ∀ cs p0, run .part ⟨cs, cur, j, p0⟩ (t.drop k) = .error e) ∨
          (∃ cur' ws' τ' k' st', whileL (evalE (callN (n + 6)) (.bool true)) (exec (callN (n + 6)) body9) (m + 1) (s6 t k σ.length j l4 l5 (σ ++ .list ws :: τ)) = ok (.ret (.tup [.ref σ.length, .int (k' : Nat)])) st' ∧ st'.heap = σ ++ .list ws' :: τ' ∧ RepItems (σ.length < ·) (σ ++ .list ws' :: τ') ws' cur' ∧ k < k' ∧ k' ≤ t.length ∧
            ∀ cs p0, Ends t k' (cs ++ [cur']) (run .part ⟨cs, cur, j, p0⟩ (t.drop k))) := by
        intro k3 j' hk3 hk3' hs3 hex hr3
        rw [go _ hex]
        rcases ih k3 hk3' (by (first | lia | omega)) m w2 τ2 (cur ++ [(j, p)]) j' (vi (ps t k1)) (some (.ref D)) (by (first | lia | omega)) (by show (ws ++ [_]).length ≤ k3; simp; (first | lia | omega)) hs3 rep2 with ⟨e, st', q1, q2, q3⟩ | ⟨cur', ws', τ', k', st', q1, q2, q3, q4, q5, q6⟩
        · exact .inl ⟨e, st', q1, q2, fun cs p0 => by rw [hr3]; exact q3 _ _⟩
        · exact .inr ⟨cur', ws', τ', k', st', q1, q2, q3, by (first | lia | omega), q5, fun cs p0 => by rw [hr3]; exact q6 _ _⟩
      cases hd2 : t.drop (ps t k1) with
      | nil =>
        refine .inr ⟨cur ++ [(j, p)], w2, τ2, ps t k1, sA, stop (by rw [hd2]; rfl), rfl, rep2, by (first | lia | omega), hk2, fun cs p0 => .inl ⟨hd2, ?_⟩⟩
        rw [hr, more_end hd2]
        rfl
      | cons c r =>
        by_cases h44 : c = 44
        · subst h44
          refine .inr ⟨cur ++ [(j, p)], w2, τ2, ps t k1, sA, stop (by rw [hd2]; rfl), rfl, rep2, by (first | lia | omega), hk2, fun cs p0 => .inr ⟨r, hd2, ?_⟩⟩
          rw [hr, more_comma hd2]
          rfl
        · have f5 : [[], [44]].contains ((t.drop (ps t k1)).take 1) = false := by rw [hd2]; simp [h44]
          rw [f5] at u5
          obtain ⟨_, hd3, hk3⟩ := drop_cons hd2
          have f6 : [[62], [43], [126]].contains ((t.drop (ps t k1)).take 1) = isJoint c := by
            rw [hd2, Bool.eq_iff_iff]
            simp [isJoint]
          rw [f6] at u6
          have hb2 : exec (callN (n + 6)) body9 (s6 t k σ.length j l4 l5 (σ ++ .list ws :: τ)) = exec (callN (n + 6)) (.ite (.cmp .isIn (.loc 3) (.tup (.cons (.str [62]) (.cons (.str [43]) (.cons (.str [126]) .nil)))))
              (.assign 1 (.call 3 (.cons (.loc 0) (.cons (.op .add (.loc 4) (.int 1)) .nil))))
              (.ite (.cmp .gt (.loc 4) (.loc 1)) (.seq (.assign 3 (.str [32])) (.assign 1 (.loc 4))) (.raise eSign))) sA := by
            rw [hbody, x_seq (st' := sA) (by rw [x_iteF u5]; rfl)]
          have hj1 : (t.drop (ps t k1)).take 1 = [c] := by rw [hd2]; rfl
          cases hjc : isJoint c with
          | true =>
            rw [hjc] at u6
            refine onward (ps t (ps t k1 + 1)) [c] (by have := ps_ge t (ps t k1 + 1); (first | lia | omega)) (ps_le (by (first | lia | omega))) (fun c r e => ps_head e) ?_ fun cs p0 => ?_
            · rw [hb2, x_iteT u6]
              rw [x_assign (ev_call2 (C := callN (n + 6)) (f := 3) (a := .loc 0) (b := .op .add (.loc 4) (.int 1)) (st := sA) (u := .str t) (v := .int (ps t k1 + 1 : Nat)) (st' := sA) (st'' := sA) rfl rfl (c3' (n + 4) t _ (by (first | lia | omega)) (by (first | lia | omega)) _))]
              show ok Fl.next (s6 t _ _ ((t.drop (ps t k1)).take 1) _ _ _) = _
              rw [hj1]
            · rw [hr, more_joint hd2 hjc, ps_drop, ← run_sp rfl, hd3]
              rfl
          | false =>
            rw [hjc] at u6
            have u7 : evalE (callN (n + 6)) (.cmp .gt (.loc 4) (.loc 1)) sA = ok (.bool (decide (k1 < ps t k1))) sA := by
              refine ev_cmp' (u := .int (ps t k1 : Nat)) (v := .int k1) rfl rfl ?_
              simp [cmpV]
            by_cases hlt : k1 < ps t k1
            · rw [decide_eq_true hlt] at u7
              refine onward (ps t k1) [32] hge2 hk2 (fun c r e => ps_head e) ?_ fun cs p0 => ?_
              · rw [hb2, x_iteF u6, x_iteT u7]
                rfl
              · rw [hr, more_space hd2 h44 hjc hlt, ← hd2]
                rfl
            · rw [decide_eq_false hlt] at u7
              refine .inl ⟨eSign, sA, ?_, ⟨_, rfl⟩, fun cs p0 => ?_⟩
              · simp only [whileL, eE_loc, eE_none, eE_bool, eE_int, eE_neg, eE_str, eE_op, eE_cmp, eE_between, eE_and, eE_or, eE_ifx, eE_nil, eE_cons, eE_tup, eE_list, eE_flist, eE_dict, eE_call, eE_len, eE_ord, eE_idx, eE_slice, eE_sliceFrom, eE_sliceTo, eE_append, eE_pop, eE_endswith, eE_replace, bd_ok, hb2]
                rw [x_iteF u6, x_iteF u7]
                rfl
              · rw [hr, more_sign hno hd2 h44 hjc (by (first | lia | omega))]
end D
end Nt
end

section
set_option genSizeOf false
set_option genInjectivity false
set_option maxRecDepth 100000
set_option autoImplicit false
namespace Nt
namespace D

theorem x_while {C : Calls} {c : E} {b : S} {st : St} : exec C (.while c b) st = whileL (evalE C c) (exec C b) fuel st := by simp only [eS_skip, eS_cont, eS_seq, eS_assign, eS_unpack, eS_aug, eS_setItem, eS_expr, eS_ret, eS_raise, eS_ite, eS_while, eS_forRange, eS_forList]

theorem set_self' {α : Type} {l : List α} {i : Nat} {a : α} (h : l[i]? = some a) : l.set i a = l := by
  refine List.ext_getElem? fun j => ?_
  by_cases q : i = j
  · subst q
    rw [List.getElem?_set_self (List.getElem?_eq_some_iff.mp h).1, h]
  · rw [List.getElem?_set_ne q]
theorem set_app2 {α : Type} {l m : List α} {i : Nat} {a b : α} (h : i < l.length) : (l.set i a ++ m).set i b = (l ++ m).set i b := by
  rw [List.set_append_left _ _ (by rw [List.length_set]; exact h), List.set_append_left _ _ h, List.set_set]
theorem c9 (n : Nat) (t : List Nat) (k : Nat) (hk : k ≤ t.length) (hz : t.length + 1 < fuel) (nm : NM t) (σ : List O) :
    ∃ res τ, callN (n + 7) 9 [.str t, .int k] σ = some (res, σ ++ τ) ∧ ((∃ e, res = .error e ∧ ∀ cs p0, run .part ⟨cs, [], [], p0⟩ (t.drop k) = .error e) ∨
      ∃ c k', res = .ok (.tup [.ref σ.length, .int (k' : Nat)]) ∧ RepChain (σ.length ≤ ·) (σ ++ τ) σ.length c ∧ k < k' ∧ k' ≤ t.length ∧ ∀ cs p0, Ends t k' (cs ++ [c]) (run .part ⟨cs, [], [], p0⟩ (t.drop k))) := by
  have hrun : ∀ res, callN (n + 7) 9 [.str t, .int k] σ = res ↔ runBody (callN (n + 6)) 6 body_read_chain [.str t, .int k] σ = res := fun _ => Iff.rfl
  simp only [hrun]
  unfold runBody body_read_chain
  rw [show (⟨[V.str t, V.int k].map some ++ List.replicate (6 - [V.str t, V.int k].length) Option.none, σ⟩ : St) = ⟨[vs t, vi k, none, none, none, none], σ⟩ from rfl]
  rw [x_seq (x_assign (C := callN (n + 6)) (i := 2) (e := .list .nil) (v := .ref σ.length) (st' := ⟨[vs t, vi k, none, none, none, none], σ ++ [O.list []]⟩) rfl)]
  rw [show (⟨[vs t, vi k, none, none, none, none], σ ++ [O.list []]⟩ : St).put 2 (.ref σ.length) = ⟨[vs t, vi k, some (.ref σ.length), none, none, none], σ ++ [O.list []]⟩ from rfl]
  rw [x_seq (x_assign (C := callN (n + 6)) (i := 3) (e := .str []) (v := .str []) (st' := ⟨[vs t, vi k, some (.ref σ.length), none, none, none], σ ++ [O.list []]⟩) rfl)]
  rw [show (⟨[vs t, vi k, some (.ref σ.length), none, none, none], σ ++ [O.list []]⟩ : St).put 3 (.str []) = s6 t k σ.length [] none none (σ ++ [O.list []]) from rfl]
  rw [x_seq (x_assign (ev_call2 (C := callN (n + 6)) (f := 3) (a := .loc 0) (b := .loc 1) (st := s6 t k σ.length [] none none (σ ++ [O.list []])) (u := .str t) (v := .int k) (st' := s6 t k σ.length [] none none (σ ++ [O.list []])) (st'' := s6 t k σ.length [] none none (σ ++ [O.list []])) rfl rfl (c3' (n + 4) t k hk (by (first | lia | omega)) _)))]
  rw [show (⟨(s6 t k σ.length [] none none (σ ++ [O.list []])).loc, (s6 t k σ.length [] none none (σ ++ [O.list []])).heap⟩ : St).put 1 (.int (ps t k : Nat)) = s6 t (ps t k) σ.length [] none none (σ ++ [O.list []]) from rfl]
  have hk1 := ps_le hk
  have hge := ps_ge t k
  have hrs : ∀ cs p0, run .part ⟨cs, [], [], p0⟩ (t.drop k) = run .part ⟨cs, [], [], p0⟩ (t.drop (ps t k)) := fun cs p0 => by rw [run_sp rfl, ← ps_drop]
  rw [x_while]
  rcases chain_loop n t hz nm σ t.length (ps t k) hk1 (by (first | lia | omega)) fuel [] [] [] [] none none (by (first | lia | omega)) (Nat.zero_le _) (fun c r e => ps_head e) trivial with ⟨e, st', q1, ⟨τ, q2⟩, q3⟩ | ⟨c, ws, τ, k', st', q1, q2, q3, q4, q5, q6⟩
  · delta body9 eSign at q1
    rw [q1]
    exact ⟨_, τ, by show some (_, st'.heap) = _; rw [q2], .inl ⟨e, rfl, fun cs p0 => by rw [hrs]; exact q3 _ _⟩⟩
  · delta body9 eSign at q1
    rw [q1]
    refine ⟨_, .list ws :: τ, by show some (_, st'.heap) = _; rw [q2], .inr ⟨c, k', rfl, ⟨Nat.le_refl _, ws, by simp, q3.mono (Keep.imp _ fun j h => Nat.le_of_lt h)⟩, by (first | lia | omega), q5, fun cs p0 => by rw [hrs]; exact q6 _ _⟩⟩

noncomputable abbrev s4 (t : List Nat) (q : Nat) (l2 : Option V) (k : Nat) (h : List O) : St := ⟨[vs t, some (.ref q), l2, vi k], h⟩
noncomputable abbrev cond10 : E := .cmp .lt (.loc 3) (.len (.loc 0))
noncomputable abbrev body10 : S := .seq (.unpack [2, 3] (.call 9 (.cons (.loc 0) (.cons (.op .add (.loc 3) (.int 1)) .nil)))) (.expr (.append (.loc 1) (.loc 2)))

theorem sel_loop (n : Nat) (t : List Nat) (hz : t.length + 1 < fuel) (nm : NM t) (q : Nat) (R : M (List Chain)) : ∀ (d k : Nat), k ≤ t.length → t.length - k ≤ d → ∀ (m : Nat) (σ : List O) (ws : List V) (cs : List Chain) (l2 : Option V), d < m → ws.length ≤ k + 1 → σ[q]? = some (.list ws) → RepChains (· ≠ q) σ ws cs → Ends t k cs R →
    (∃ e st' τ, whileL (evalE (callN (n + 7)) cond10) (exec (callN (n + 7)) body10) m (s4 t q l2 k σ) = some (.error e, st') ∧ (∃ ws', st'.heap = (σ ++ τ).set q (.list ws')) ∧ R = .error e) ∨
    (∃ cs' ws' τ k' l2', whileL (evalE (callN (n + 7)) cond10) (exec (callN (n + 7)) body10) m (s4 t q l2 k σ) = ok .next (s4 t q l2' k' ((σ ++ τ).set q (.list ws'))) ∧ RepChains (· ≠ q) ((σ ++ τ).set q (.list ws')) ws' cs' ∧ R = .ok cs') := by
  intro d
  have stop : ∀ (k : Nat), k ≤ t.length → ∀ (m : Nat) (σ : List O) (ws : List V) (cs : List Chain) (l2 : Option V), σ[q]? = some (.list ws) → RepChains (· ≠ q) σ ws cs → Ends t k cs R → k = t.length →
      (∃ cs' ws' τ k' l2', whileL (evalE (callN (n + 7)) cond10) (exec (callN (n + 7)) body10) (m + 1) (s4 t q l2 k σ) = ok .next (s4 t q l2' k' ((σ ++ τ).set q (.list ws'))) ∧ RepChains (· ≠ q) ((σ ++ τ).set q (.list ws')) ws' cs' ∧ R = .ok cs') := by
    intro k hk m σ ws cs l2 hq hrep he hkl
    have e1 : evalE (callN (n + 7)) cond10 (s4 t q l2 k σ) = ok (.bool false) (s4 t q l2 k σ) := by
      refine ev_cmp' (u := .int k) (v := .int t.length) rfl rfl ?_
      simp [cmpV, hkl]
    have hs : (σ ++ []).set q (.list ws) = σ := by
      rw [List.append_nil]
      exact set_self' hq
    refine ⟨cs, ws, [], k, l2, ?_, by rw [hs]; exact hrep, ?_⟩
    · simp only [whileL, e1, bd_ok, hs]
    · rcases he with ⟨_, h⟩ | ⟨r, h, _⟩
      · exact h
      · rw [hkl, List.drop_length] at h; (first | exact no h | exact no1 h | exact no2 h | exact noE h | exact noE1 h | obtain rfl := Option.some.inj h | obtain rfl := Except.ok.inj h | obtain rfl := h | cases h)
  induction d with
  | zero =>
    intro k hk hd m σ ws cs l2 hm hws hq hrep he
    obtain ⟨m, rfl⟩ : ∃ m', m = m' + 1 := ⟨m - 1, by (first | lia | omega)⟩
    exact .inr (stop k hk m σ ws cs l2 hq hrep he (by (first | lia | omega)))
  | succ d ih =>
    intro k hk hd m σ ws cs l2 hm hws hq hrep he
    obtain ⟨m, rfl⟩ : ∃ m', m = m' + 1 := ⟨m - 1, by (first | lia | omega)⟩
    by_cases hkl : k = t.length
    · exact .inr (stop k hk m σ ws cs l2 hq hrep he hkl)
    have hlt : k < t.length := by (first | lia | omega)
    have e1 : evalE (callN (n + 7)) cond10 (s4 t q l2 k σ) = ok (.bool true) (s4 t q l2 k σ) := by
      refine ev_cmp' (u := .int k) (v := .int t.length) rfl rfl ?_
      simp [cmpV, hlt]
    rcases he with ⟨h, _⟩ | ⟨r, hd44, hR⟩
    · exact absurd (drop_nil h hk) hkl
    obtain ⟨_, hd1, hk1⟩ := drop_cons hd44
    obtain ⟨res, τ, e9, ho⟩ := c9 n t (k + 1) (by (first | lia | omega)) hz nm σ
    have e9' := ev_call2 (C := callN (n + 7)) (f := 9) (a := .loc 0) (b := .op .add (.loc 3) (.int 1)) (st := s4 t q l2 k σ) (u := .str t) (v := .int (k + 1 : Nat)) (st' := s4 t q l2 k σ) (st'' := s4 t q l2 k σ) rfl rfl e9
    have hql : q < σ.length := (List.getElem?_eq_some_iff.mp hq).1
    have hq' : (σ ++ τ)[q]? = some (.list ws) := by rw [List.getElem?_append_left hql]; exact hq
    rcases ho with ⟨e, rfl, hr⟩ | ⟨c, k', rfl, hrc, h1, h2, hr⟩
    · refine .inl ⟨e, s4 t q l2 k (σ ++ τ), τ, ?_, ⟨ws, (set_self' hq').symm⟩, ?_⟩
      · simp only [whileL, e1, bd_ok]
        rw [x_seqE (x_unpackE e9')]
        rfl
      · rw [hR, ← hd1]; exact hr _ _
    · have flim : t.length + 1 < lim := by have : fuel < lim := by decide
                                           (first | lia | omega)
      have u1 : exec (callN (n + 7)) (.unpack [2, 3] (.call 9 (.cons (.loc 0) (.cons (.op .add (.loc 3) (.int 1)) .nil)))) (s4 t q l2 k σ) = ok .next (s4 t q (some (.ref σ.length)) k' (σ ++ τ)) := x_unpack e9' rfl
      have u2 : exec (callN (n + 7)) (.expr (.append (.loc 1) (.loc 2))) (s4 t q (some (.ref σ.length)) k' (σ ++ τ)) = ok .next (s4 t q (some (.ref σ.length)) k' ((σ ++ τ).set q (.list (ws ++ [.ref σ.length])))) :=
        x_expr (ev_append' (n := q) (ws := ws) (v := .ref σ.length) rfl hq' rfl (by (first | lia | omega)))
      have hw : whileL (evalE (callN (n + 7)) cond10) (exec (callN (n + 7)) body10) (m + 1) (s4 t q l2 k σ) = whileL (evalE (callN (n + 7)) cond10) (exec (callN (n + 7)) body10) m (s4 t q (some (.ref σ.length)) k' ((σ ++ τ).set q (.list (ws ++ [.ref σ.length])))) := by
        simp only [whileL, e1, bd_ok]
        rw [x_seq u1, u2]
        rfl
      have ks : Keep (· ≠ q) (· ≠ q) (σ ++ τ) ((σ ++ τ).set q (.list (ws ++ [.ref σ.length]))) := Keep.set _ _ (fun h => h rfl)
      have rep2 : RepChains (· ≠ q) ((σ ++ τ).set q (.list (ws ++ [.ref σ.length]))) (ws ++ [.ref σ.length]) (cs ++ [c]) :=
        RepChains.snoc (hrep.mono ((Keep.app _ _ _).trans ks)) ((hrc.mono (Keep.imp _ fun j hj q' => by subst q'; (first | lia | omega))).mono ks)
      have hqs : ((σ ++ τ).set q (.list (ws ++ [.ref σ.length])))[q]? = some (.list (ws ++ [.ref σ.length])) := by
        rw [List.getElem?_set_self (by rw [List.length_append]; (first | lia | omega))]
      have ends2 : Ends t k' (cs ++ [c]) R := by rw [hR, ← hd1]; exact hr _ _
      have hsl : ∀ (τ2 : List O) (w2 : List V), ((σ ++ τ).set q (.list (ws ++ [.ref σ.length])) ++ τ2).set q (.list w2) = (σ ++ (τ ++ τ2)).set q (.list w2) := fun τ2 w2 => by
        rw [← List.append_assoc]
        exact set_app2 (by rw [List.length_append]; (first | lia | omega))
      rw [hw]
      rcases ih k' h2 (by (first | lia | omega)) m _ _ _ (some (.ref σ.length)) (by (first | lia | omega)) (by simp; (first | lia | omega)) hqs rep2 ends2 with ⟨e, st', τ2, q1, ⟨w2, q2⟩, q3⟩ | ⟨cs', w2, τ2, k2, l2', q1, q2, q3⟩
      · exact .inl ⟨e, st', τ ++ τ2, q1, ⟨w2, by rw [q2, hsl]⟩, q3⟩
      · exact .inr ⟨cs', w2, τ ++ τ2, k2, l2', by rw [q1, hsl], by rw [← hsl]; exact q2, q3⟩

theorem c10 (n : Nat) (t : List Nat) (hz : t.length + 1 < fuel) (nm : NM t) (σ : List O) :
    ∃ τ, (∃ e, callN (n + 8) 10 [.str t] σ = some (.error e, σ ++ τ) ∧ run .part ctx0 t = .error e) ∨
      ∃ q cs, callN (n + 8) 10 [.str t] σ = some (.ok (.ref q), σ ++ τ) ∧ run .part ctx0 t = .ok cs ∧ RepSel (fun _ => True) (σ ++ τ) q cs := by
  have hrun : ∀ res, callN (n + 8) 10 [.str t] σ = res ↔ runBody (callN (n + 7)) 4 body_read_selector [.str t] σ = res := fun _ => Iff.rfl
  simp only [hrun]
  unfold runBody body_read_selector
  rw [show (⟨[V.str t].map some ++ List.replicate (4 - [V.str t].length) Option.none, σ⟩ : St) = ⟨[vs t, none, none, none], σ⟩ from rfl]
  obtain ⟨res, τ, e9, ho⟩ := c9 n t 0 (Nat.zero_le _) hz nm σ
  have e9' := ev_call2 (C := callN (n + 7)) (f := 9) (a := .loc 0) (b := .int 0) (st := ⟨[vs t, none, none, none], σ⟩) (u := .str t) (v := .int (0 : Nat)) (st' := ⟨[vs t, none, none, none], σ⟩) (st'' := ⟨[vs t, none, none, none], σ⟩) rfl rfl e9
  rw [List.drop_zero] at ho
  rcases ho with ⟨e, rfl, hr⟩ | ⟨c, k, rfl, hrc, h1, h2, hr⟩
  · refine ⟨τ, .inl ⟨e, ?_, hr _ _⟩⟩
    rw [x_seqE (x_unpackE e9')]
  · rw [x_seq (x_unpack e9' rfl)]
    rw [show ((⟨(⟨[vs t, none, none, none], σ⟩ : St).loc, σ ++ τ⟩ : St).putAll [2, 3] [.ref σ.length, .int (k : Nat)]) = ⟨[vs t, none, some (.ref σ.length), vi k], σ ++ τ⟩ from rfl]
    rw [x_seq (x_assign (C := callN (n + 7)) (i := 1) (e := .list (.cons (.loc 2) .nil)) (v := .ref (σ ++ τ).length) (st' := ⟨[vs t, none, some (.ref σ.length), vi k], σ ++ τ ++ [.list [.ref σ.length]]⟩) rfl)]
    rw [show (⟨[vs t, none, some (.ref σ.length), vi k], σ ++ τ ++ [.list [.ref σ.length]]⟩ : St).put 1 (.ref (σ ++ τ).length) = s4 t (σ ++ τ).length (some (.ref σ.length)) k (σ ++ τ ++ [.list [.ref σ.length]]) from rfl]
    have hlt : σ.length < (σ ++ τ).length := by
      obtain ⟨_, ws, e, _⟩ := hrc
      exact (List.getElem?_eq_some_iff.mp e).1
    have rep1 : RepChains (· ≠ (σ ++ τ).length) (σ ++ τ ++ [.list [.ref σ.length]]) [.ref σ.length] ([] ++ [c]) := by
      refine ⟨⟨σ.length, rfl, ?_⟩, trivial⟩
      -- every object of the chain stands below
      have kp : Keep (fun j => σ.length ≤ j ∧ j < (σ ++ τ).length) (· ≠ (σ ++ τ).length) (σ ++ τ) (σ ++ τ ++ [.list [.ref σ.length]]) :=
        ⟨fun j hj q => by (first | lia | omega), fun j o _ e => by rw [List.getElem?_append_left (List.getElem?_eq_some_iff.mp e).1]; exact e⟩
      refine RepChain.mono kp ?_
      obtain ⟨f, ws, e, hw⟩ := hrc
      refine ⟨⟨f, hlt⟩, ws, e, ?_⟩
      clear e
      have go : ∀ (ws : List V) (c : Chain), RepItems (σ.length ≤ ·) (σ ++ τ) ws c → RepItems (fun j => σ.length ≤ j ∧ j < (σ ++ τ).length) (σ ++ τ) ws c := by
        intro ws
        induction ws with
        | nil => intro c h; cases c with
          | nil => trivial
          | cons _ _ => exact h.elim
        | cons v ws ih => intro c h; cases c with
          | nil => exact h.elim
          | cons jp r =>
            obtain ⟨j, p⟩ := jp
            obtain ⟨⟨d, e, i, cc, a, f1, f2, f3, f4, g1, g2, g3, g4⟩, h2⟩ := h
            have lt : ∀ {i o}, (σ ++ τ)[i]? = some o → i < (σ ++ τ).length := fun e => (List.getElem?_eq_some_iff.mp e).1
            exact ⟨⟨d, e, i, cc, a, ⟨f1, lt g1⟩, ⟨f2, lt g2⟩, ⟨f3, lt g3⟩, ⟨f4, lt g4⟩, g1, g2, g3, g4⟩, ih _ h2⟩
      exact go ws c hw
    have hR : Ends t k ([] ++ [c]) (run .part ctx0 t) := hr _ _
    rcases sel_loop n t hz nm (σ ++ τ).length (run .part ctx0 t) t.length k h2 (by (first | lia | omega)) fuel (σ ++ τ ++ [O.list [V.ref σ.length]]) [.ref σ.length] ([] ++ [c]) (some (.ref σ.length)) (by (first | lia | omega)) (by simp) (by simp) rep1 hR with ⟨e, st', τ2, q1, ⟨w2, q2⟩, q3⟩ | ⟨cs', w2, τ2, k2, l2', q1, q2, q3⟩
    · have : exec (callN (n + 7)) (.while cond10 body10) (s4 t (σ ++ τ).length (some (.ref σ.length)) k (σ ++ τ ++ [O.list [V.ref σ.length]])) = some (.error e, st') := q1
      have hs : (σ ++ τ ++ [O.list [V.ref σ.length]] ++ τ2).set (σ ++ τ).length (.list w2) = σ ++ (τ ++ O.list w2 :: τ2) := by
        have := set_app (σ ++ τ) ([O.list [.ref σ.length]] ++ τ2) 0 (.list w2)
        simp only [Nat.add_zero] at this
        rw [List.append_assoc (σ ++ τ), this]
        simp
      refine ⟨τ ++ O.list w2 :: τ2, .inl ⟨e, ?_, q3⟩⟩
      rw [x_seqE this]
      show some (_, st'.heap) = _
      rw [q2, hs]
    · have : exec (callN (n + 7)) (.while cond10 body10) (s4 t (σ ++ τ).length (some (.ref σ.length)) k (σ ++ τ ++ [O.list [V.ref σ.length]])) = ok .next (s4 t (σ ++ τ).length l2' k2 ((σ ++ τ ++ [O.list [V.ref σ.length]] ++ τ2).set (σ ++ τ).length (O.list w2))) := q1
      have hs : (σ ++ τ ++ [O.list [V.ref σ.length]] ++ τ2).set (σ ++ τ).length (.list w2) = σ ++ (τ ++ O.list w2 :: τ2) := by
        have := set_app (σ ++ τ) ([O.list [.ref σ.length]] ++ τ2) 0 (.list w2)
        simp only [Nat.add_zero] at this
        rw [List.append_assoc (σ ++ τ), this]
        simp
      rw [hs] at this q2
      refine ⟨τ ++ O.list w2 :: τ2, .inr ⟨(σ ++ τ).length, cs', ?_, q3, w2, ?_, q2.mono (Keep.imp _ fun _ _ => trivial)⟩⟩
      · rw [x_seq this, x_ret (v := .ref (σ ++ τ).length) (st' := s4 t (σ ++ τ).length l2' k2 (σ ++ (τ ++ O.list w2 :: τ2))) rfl]
        rfl
      · rw [← List.append_assoc]
        simp
end D
end Nt
end

section
set_option genSizeOf false
set_option genInjectivity false
set_option maxRecDepth 100000
set_option autoImplicit false
namespace Nt
namespace D

noncomputable def kindOf (s : List Nat) : List Nat := match s with
  | [] => [101, 110, 100]
  | c :: _ => if isSp c then [98, 108, 97, 110, 107] else if isDg c then [100, 105, 103, 105, 116] else if isLt c then [108, 101, 116, 116, 101, 114] else [109, 97, 114, 107]

theorem c20e (n : Nat) (h : List O) : callN (n + 1) 20 [.str []] h = some (.ok (.str (kindOf [])), h) := rfl
theorem c20 (n : Nat) (c : Nat) (h : List O) : callN (n + 1) 20 [.str [c]] h = some (.ok (.str (kindOf [c])), h) := by
  show runBody (callN n) 1 body_law_kind [.str [c]] h = _
  unfold runBody body_law_kind
  let st : St := ⟨[vs [c]], h⟩
  rw [show (⟨[V.str [c]].map some ++ List.replicate (1 - [V.str [c]].length) Option.none, h⟩ : St) = st from rfl]
  have q1 : evalE (callN n) (.cmp .isIn (.loc 0) (.str [32, 9, 10, 12, 13])) st = ok (.bool (isSp c)) st := by
    refine ev_cmp' (u := .str [c]) (v := .str [32, 9, 10, 12, 13]) rfl rfl ?_
    show some ([32, 9, 10, 12, 13].contains c) = _
    congr 1
    exact (sign_eq (by decide +kernel) (by decide +kernel) sp_hi c).symm
  have q2 : evalE (callN n) (.cmp .isIn (.loc 0) (.str [48, 49, 50, 51, 52, 53, 54, 55, 56, 57])) st = ok (.bool (isDg c)) st := by
    refine ev_cmp' (u := .str [c]) (v := .str [48, 49, 50, 51, 52, 53, 54, 55, 56, 57]) rfl rfl ?_
    show some ([48, 49, 50, 51, 52, 53, 54, 55, 56, 57].contains c) = _
    congr 1
    exact (sign_eq (by decide +kernel) (by decide +kernel) dg_hi c).symm
  have q3 : evalE (callN n) (.or (.cmp .isIn (.loc 0) (.str [45, 95, 97, 98, 99, 100, 101, 102, 103, 104, 105, 106, 107, 108, 109, 110, 111, 112, 113, 114, 115, 116, 117, 118, 119, 120, 121, 122, 65, 66, 67, 68, 69, 70, 71, 72, 73, 74, 75, 76, 77, 78, 79, 80, 81, 82, 83, 84, 85, 86, 87, 88, 89, 90])) (.cmp .gt (.ord (.loc 0)) (.int 127))) st = ok (.bool (isLt c)) st := by
    have : isLt c = ([45, 95, 97, 98, 99, 100, 101, 102, 103, 104, 105, 106, 107, 108, 109, 110, 111, 112, 113, 114, 115, 116, 117, 118, 119, 120, 121, 122, 65, 66, 67, 68, 69, 70, 71, 72, 73, 74, 75, 76, 77, 78, 79, 80, 81, 82, 83, 84, 85, 86, 87, 88, 89, 90].contains c || decide (127 < c)) := by
      rcases Nat.lt_or_ge c 128 with q | q
      · exact eq_of_beq (List.all_eq_true.mp (by decide +kernel : ((List.range 128).all fun c => isLt c == ([45, 95, 97, 98, 99, 100, 101, 102, 103, 104, 105, 106, 107, 108, 109, 110, 111, 112, 113, 114, 115, 116, 117, 118, 119, 120, 121, 122, 65, 66, 67, 68, 69, 70, 71, 72, 73, 74, 75, 76, 77, 78, 79, 80, 81, 82, 83, 84, 85, 86, 87, 88, 89, 90].contains c || decide (127 < c))) = true) c (List.mem_range.mpr q))
      · rw [lt_hi c q, decide_eq_true (p := 127 < c) q, Bool.or_true]
    rw [this]
    refine ev_or' (ev_cmp' (u := .str [c]) (v := .str _) rfl rfl rfl) fun _ => ev_cmp' (u := .int c) (v := .int 127) rfl rfl ?_
    simp [cmpV]
    (first | lia | omega)
  rw [x_seq (st' := st) (by rw [x_iteF (show evalE (callN n) (.cmp .eq (.loc 0) (.str [])) st = ok (.bool false) st from rfl)]; rfl)]
  cases h1 : isSp c with
  | true =>
    rw [h1] at q1
    rw [x_seqR (v := .str [98, 108, 97, 110, 107]) (st' := st) (by rw [x_iteT q1]; rfl), show kindOf [c] = [98, 108, 97, 110, 107] from by simp only [kindOf, h1, if_true]]
    rfl
  | false =>
    rw [h1] at q1
    rw [x_seq (st' := st) (by rw [x_iteF q1]; rfl)]
    cases h2 : isDg c with
    | true =>
      rw [h2] at q2
      rw [x_seqR (v := .str [100, 105, 103, 105, 116]) (st' := st) (by rw [x_iteT q2]; rfl), show kindOf [c] = [100, 105, 103, 105, 116] from by simp only [kindOf, h1, h2, if_true, if_false, Bool.false_eq_true]]
      rfl
    | false =>
      rw [h2] at q2
      rw [x_seq (st' := st) (by rw [x_iteF q2]; rfl)]
      cases h3 : isLt c with
      | true =>
        rw [h3] at q3
        rw [x_seqR (v := .str [108, 101, 116, 116, 101, 114]) (st' := st) (by rw [x_iteT q3]; rfl), show kindOf [c] = [108, 101, 116, 116, 101, 114] from by simp only [kindOf, h1, h2, h3, if_true, if_false, Bool.false_eq_true]]
        rfl
      | false =>
        rw [h3] at q3
        rw [x_seq (st' := st) (by rw [x_iteF q3]; rfl), show kindOf [c] = [109, 97, 114, 107] from by simp only [kindOf, h1, h2, h3, if_true, if_false, Bool.false_eq_true]]
        rfl
theorem c20' (n : Nat) (s : List Nat) (h : List O) : callN (n + 1) 20 [.str (s.take 1)] h = some (.ok (.str (kindOf s)), h) := by
  cases s with
  | nil => exact c20e n h
  | cons c r => exact c20 n c h

/-- the part under way, at m to m + 3 -/
structure Live (H : List O) (m : Nat) (p : Part) : Prop where
  ids : H[m]? = some (.list (p.ids.map .str))
  classes : H[m + 1]? = some (.list (p.classes.map .str))
  attrs : H[m + 2]? = some (.list (p.attrs.map attrV))
  dict : H[m + 3]? = some (.dict [(kName, .str p.name), (kIds, .ref m), (kClasses, .ref (m + 1)), (kAttrs, .ref (m + 2))])
noncomputable def sName : Srt → List Nat
  | .name => kName
  | .ids => kIds
  | .classes => kClasses
  | .attr => [97, 116, 116, 114]
  | .value => [118, 97, 108, 117, 101]
noncomputable def tMore : List Nat := [109, 111, 114, 101]
noncomputable def tNamed : List Nat := [110, 97, 109, 101, 100]
noncomputable def tValued : List Nat := [118, 97, 108, 117, 101, 100]
noncomputable def tagAfter : Srt → List Nat
  | .attr => tNamed
  | .value => tValued
  | _ => tMore
structure Apart (m : Nat) (H H' : List O) : Prop where
  same : ∀ j, (j < m ∨ m + 3 < j) → H'[j]? = H[j]?
  len : H'.length = H.length
theorem Apart.set {m i : Nat} {H : List O} (o : O) (h1 : m ≤ i) (h2 : i ≤ m + 3) : Apart m H (H.set i o) := ⟨fun j hj => List.getElem?_set_ne (by (first | lia | omega)), List.length_set⟩
theorem Apart.trans {m : Nat} {H H' H'' : List O} (a : Apart m H H') (b : Apart m H' H'') : Apart m H H'' := ⟨fun j hj => (b.same j hj).trans (a.same j hj), b.len.trans a.len⟩
theorem get_set {H : List O} {i : Nat} {o o' : O} (h : H[i]? = some o') : (H.set i o)[i]? = some o := List.getElem?_set_self (List.getElem?_eq_some_iff.mp h).1

theorem c21 (n : Nat) (H : List O) (m : Nat) (p : Part) (srt : Srt) (w : List Nat) (L : Live H m p) (f : Few p (lim - 1)) (hv : srt = .value → p.attrs ≠ []) :
    ∃ H', callN (n + 1) 21 [.ref (m + 3), .str (sName srt), .str w] H = some (.ok (.str (tagAfter srt)), H') ∧ Live H' m (p.take srt w) ∧ Apart m H H' := by
  have hrun : ∀ (s : List Nat) res, callN (n + 1) 21 [.ref (m + 3), .str s, .str w] H = res ↔ runBody (callN n) 3 body_law_take [.ref (m + 3), .str s, .str w] H = res := fun _ _ => Iff.rfl
  simp only [hrun]
  have hlim : lim - 1 + 1 = lim := rfl
  obtain ⟨l1, l2, l3, l4⟩ := L
  obtain ⟨f1, f2, f3⟩ := f
  have ne : ∀ (a b : Nat) (o : O), a ≠ b → (H.set a o)[b]? = H[b]? := fun a b o h => List.getElem?_set_ne h
  cases srt with
  | name =>
    have e : exec (callN n) (.setItem (.loc 0) (.str [110, 97, 109, 101]) (.loc 2)) ⟨[some (.ref (m + 3)), vs kName, vs w], H⟩ = ok .next ⟨[some (.ref (m + 3)), vs kName, vs w], H.set (m + 3) (.dict [(kName, .str w), (kIds, .ref m), (kClasses, .ref (m + 1)), (kAttrs, .ref (m + 2))])⟩ := by
      simp [eS_skip, eS_cont, eS_seq, eS_assign, eS_unpack, eS_aug, eS_setItem, eS_expr, eS_ret, eS_raise, eS_ite, eS_while, eS_forRange, eS_forList, eE_loc, eE_none, eE_bool, eE_int, eE_neg, eE_str, eE_op, eE_cmp, eE_between, eE_and, eE_or, eE_ifx, eE_nil, eE_cons, eE_tup, eE_list, eE_flist, eE_dict, eE_call, eE_len, eE_ord, eE_idx, eE_slice, eE_sliceFrom, eE_sliceTo, eE_append, eE_pop, eE_endswith, eE_replace, bd, ok, storeV, l4, List.lookup, putKey]
    refine ⟨H.set (m + 3) (.dict [(kName, .str w), (kIds, .ref m), (kClasses, .ref (m + 1)), (kAttrs, .ref (m + 2))]), ?_, ⟨(ne _ _ _ (by (first | lia | omega))).trans l1, (ne _ _ _ (by (first | lia | omega))).trans l2, (ne _ _ _ (by (first | lia | omega))).trans l3, get_set l4⟩, .set _ (by (first | lia | omega)) (by (first | lia | omega))⟩
    unfold runBody body_law_take
    rw [show (⟨[V.ref (m + 3), V.str (sName .name), V.str w].map some ++ List.replicate (3 - [V.ref (m + 3), V.str (sName .name), V.str w].length) Option.none, H⟩ : St) = ⟨[some (.ref (m + 3)), vs kName, vs w], H⟩ from rfl]
    rw [x_seq (by rw [x_iteT (show evalE (callN n) (.cmp .eq (.loc 1) (.str [110, 97, 109, 101])) ⟨[some (.ref (m + 3)), vs kName, vs w], H⟩ = ok (.bool true) ⟨[some (.ref (m + 3)), vs kName, vs w], H⟩ from rfl), e])]
    rfl
  | ids =>
    have e : evalE (callN n) (.append (.idx (.loc 0) (.loc 1)) (.loc 2)) ⟨[some (.ref (m + 3)), vs kIds, vs w], H⟩ = ok .none ⟨[some (.ref (m + 3)), vs kIds, vs w], H.set m (.list (p.ids.map .str ++ [.str w]))⟩ := by
      refine ev_append' (n := m) (ws := p.ids.map .str) (v := .str w) ?_ l1 rfl (by simp; (first | lia | omega))
      simp [eE_loc, eE_none, eE_bool, eE_int, eE_neg, eE_str, eE_op, eE_cmp, eE_between, eE_and, eE_or, eE_ifx, eE_nil, eE_cons, eE_tup, eE_list, eE_flist, eE_dict, eE_call, eE_len, eE_ord, eE_idx, eE_slice, eE_sliceFrom, eE_sliceTo, eE_append, eE_pop, eE_endswith, eE_replace, bd, ok, idxV, l4, List.lookup, lift]
    refine ⟨H.set m (.list (p.ids.map .str ++ [.str w])), ?_, ⟨?_, (ne _ _ _ (by (first | lia | omega))).trans l2, (ne _ _ _ (by (first | lia | omega))).trans l3, (ne _ _ _ (by (first | lia | omega))).trans l4⟩, .set _ (by (first | lia | omega)) (by (first | lia | omega))⟩
    · unfold runBody body_law_take
      rw [show (⟨[V.ref (m + 3), V.str (sName .ids), V.str w].map some ++ List.replicate (3 - [V.ref (m + 3), V.str (sName .ids), V.str w].length) Option.none, H⟩ : St) = ⟨[some (.ref (m + 3)), vs kIds, vs w], H⟩ from rfl]
      rw [x_seq (by
        rw [x_iteF (show evalE (callN n) (.cmp .eq (.loc 1) (.str [110, 97, 109, 101])) ⟨[some (.ref (m + 3)), vs kIds, vs w], H⟩ = ok (.bool false) ⟨[some (.ref (m + 3)), vs kIds, vs w], H⟩ from rfl)]
        rw [x_iteT (show evalE (callN n) _ ⟨[some (.ref (m + 3)), vs kIds, vs w], H⟩ = ok (.bool true) ⟨[some (.ref (m + 3)), vs kIds, vs w], H⟩ from rfl)]
        exact x_expr e)]
      rfl
    · rw [get_set l1]; simp [Part.take]
  | classes =>
    have e : evalE (callN n) (.append (.idx (.loc 0) (.loc 1)) (.loc 2)) ⟨[some (.ref (m + 3)), vs kClasses, vs w], H⟩ = ok .none ⟨[some (.ref (m + 3)), vs kClasses, vs w], H.set (m + 1) (.list (p.classes.map .str ++ [.str w]))⟩ := by
      refine ev_append' (n := m + 1) (ws := p.classes.map .str) (v := .str w) ?_ l2 rfl (by simp; (first | lia | omega))
      simp [eE_loc, eE_none, eE_bool, eE_int, eE_neg, eE_str, eE_op, eE_cmp, eE_between, eE_and, eE_or, eE_ifx, eE_nil, eE_cons, eE_tup, eE_list, eE_flist, eE_dict, eE_call, eE_len, eE_ord, eE_idx, eE_slice, eE_sliceFrom, eE_sliceTo, eE_append, eE_pop, eE_endswith, eE_replace, bd, ok, idxV, l4, List.lookup, lift]
    refine ⟨H.set (m + 1) (.list (p.classes.map .str ++ [.str w])), ?_, ⟨(ne _ _ _ (by (first | lia | omega))).trans l1, ?_, (ne _ _ _ (by (first | lia | omega))).trans l3, (ne _ _ _ (by (first | lia | omega))).trans l4⟩, .set _ (by (first | lia | omega)) (by (first | lia | omega))⟩
    · unfold runBody body_law_take
      rw [show (⟨[V.ref (m + 3), V.str (sName .classes), V.str w].map some ++ List.replicate (3 - [V.ref (m + 3), V.str (sName .classes), V.str w].length) Option.none, H⟩ : St) = ⟨[some (.ref (m + 3)), vs kClasses, vs w], H⟩ from rfl]
      rw [x_seq (by
        rw [x_iteF (show evalE (callN n) (.cmp .eq (.loc 1) (.str [110, 97, 109, 101])) ⟨[some (.ref (m + 3)), vs kClasses, vs w], H⟩ = ok (.bool false) ⟨[some (.ref (m + 3)), vs kClasses, vs w], H⟩ from rfl)]
        rw [x_iteT (show evalE (callN n) _ ⟨[some (.ref (m + 3)), vs kClasses, vs w], H⟩ = ok (.bool true) ⟨[some (.ref (m + 3)), vs kClasses, vs w], H⟩ from rfl)]
        exact x_expr e)]
      rfl
    · rw [get_set l2]; simp [Part.take]
  | attr =>
    have e : evalE (callN n) (.append (.idx (.loc 0) (.str [97, 116, 116, 114, 115])) (.tup (.cons (.loc 2) (.cons .none .nil)))) ⟨[some (.ref (m + 3)), vs (sName .attr), vs w], H⟩ = ok .none ⟨[some (.ref (m + 3)), vs (sName .attr), vs w], H.set (m + 2) (.list (p.attrs.map attrV ++ [attrV (w, none)]))⟩ := by
      refine ev_append' (n := m + 2) (ws := p.attrs.map attrV) (v := attrV (w, none)) ?_ l3 rfl (by simp; (first | lia | omega))
      simp [eE_loc, eE_none, eE_bool, eE_int, eE_neg, eE_str, eE_op, eE_cmp, eE_between, eE_and, eE_or, eE_ifx, eE_nil, eE_cons, eE_tup, eE_list, eE_flist, eE_dict, eE_call, eE_len, eE_ord, eE_idx, eE_slice, eE_sliceFrom, eE_sliceTo, eE_append, eE_pop, eE_endswith, eE_replace, bd, ok, idxV, l4, List.lookup, lift]
    refine ⟨H.set (m + 2) (.list (p.attrs.map attrV ++ [attrV (w, none)])), ?_, ⟨(ne _ _ _ (by (first | lia | omega))).trans l1, (ne _ _ _ (by (first | lia | omega))).trans l2, ?_, (ne _ _ _ (by (first | lia | omega))).trans l4⟩, .set _ (by (first | lia | omega)) (by (first | lia | omega))⟩
    · unfold runBody body_law_take
      rw [show (⟨[V.ref (m + 3), V.str (sName .attr), V.str w].map some ++ List.replicate (3 - [V.ref (m + 3), V.str (sName .attr), V.str w].length) Option.none, H⟩ : St) = ⟨[some (.ref (m + 3)), vs (sName .attr), vs w], H⟩ from rfl]
      rw [x_seqR (v := .str tNamed) (by
        rw [x_iteF (show evalE (callN n) (.cmp .eq (.loc 1) (.str [110, 97, 109, 101])) ⟨[some (.ref (m + 3)), vs (sName .attr), vs w], H⟩ = ok (.bool false) ⟨[some (.ref (m + 3)), vs (sName .attr), vs w], H⟩ from rfl)]
        rw [x_iteF (show evalE (callN n) _ ⟨[some (.ref (m + 3)), vs (sName .attr), vs w], H⟩ = ok (.bool false) ⟨[some (.ref (m + 3)), vs (sName .attr), vs w], H⟩ from rfl)]
        rw [x_iteT (show evalE (callN n) _ ⟨[some (.ref (m + 3)), vs (sName .attr), vs w], H⟩ = ok (.bool true) ⟨[some (.ref (m + 3)), vs (sName .attr), vs w], H⟩ from rfl)]
        rw [x_seq (x_expr e)]
        exact x_ret rfl)]
      rfl
    · rw [get_set l3]; simp [Part.take]
  | value =>
    obtain ⟨as, a, hpa⟩ : ∃ as a, p.attrs = as ++ [a] := ⟨_, _, (List.dropLast_concat_getLast (hv rfl)).symm⟩
    have l3' : H[m + 2]? = some (.list (as.map attrV ++ [attrV a])) := by rw [l3, hpa]; simp
    have hlen : as.length < lim := by rw [hpa] at f3; simp at f3; (first | lia | omega)
    have e : evalE (callN n) (.append (.idx (.loc 0) (.str [97, 116, 116, 114, 115])) (.tup (.cons (.idx (.pop (.idx (.loc 0) (.str [97, 116, 116, 114, 115]))) (.int 0)) (.cons (.loc 2) .nil)))) ⟨[some (.ref (m + 3)), vs (sName .value), vs w], H⟩ = ok .none ⟨[some (.ref (m + 3)), vs (sName .value), vs w], (H.set (m + 2) (.list (as.map attrV))).set (m + 2) (.list (as.map attrV ++ [attrV (a.1, some w)]))⟩ := by
      have hs := get_set (o := .list (as.map attrV)) l3'
      have ea : ∀ (H0 : List O), H0[m + 3]? = some (.dict [(kName, .str p.name), (kIds, .ref m), (kClasses, .ref (m + 1)), (kAttrs, .ref (m + 2))]) → evalE (callN n) (.idx (.loc 0) (.str [97, 116, 116, 114, 115])) ⟨[some (.ref (m + 3)), vs (sName .value), vs w], H0⟩ = ok (.ref (m + 2)) ⟨[some (.ref (m + 3)), vs (sName .value), vs w], H0⟩ := fun H0 h0 => by
        simp [eE_loc, eE_none, eE_bool, eE_int, eE_neg, eE_str, eE_op, eE_cmp, eE_between, eE_and, eE_or, eE_ifx, eE_nil, eE_cons, eE_tup, eE_list, eE_flist, eE_dict, eE_call, eE_len, eE_ord, eE_idx, eE_slice, eE_sliceFrom, eE_sliceTo, eE_append, eE_pop, eE_endswith, eE_replace, bd, ok, idxV, h0, List.lookup, lift]
      have ep : evalE (callN n) (.pop (.idx (.loc 0) (.str [97, 116, 116, 114, 115]))) ⟨[some (.ref (m + 3)), vs (sName .value), vs w], H⟩ = ok (attrV a) ⟨[some (.ref (m + 3)), vs (sName .value), vs w], H.set (m + 2) (.list (as.map attrV))⟩ := by
        rw [eE_pop, ea H l4, bd_ok]
        simp only [l3', List.getLast?_concat, List.dropLast_concat]
      have et : evalE (callN n) (.tup (.cons (.idx (.pop (.idx (.loc 0) (.str [97, 116, 116, 114, 115]))) (.int 0)) (.cons (.loc 2) .nil))) ⟨[some (.ref (m + 3)), vs (sName .value), vs w], H⟩ = ok (attrV (a.1, some w)) ⟨[some (.ref (m + 3)), vs (sName .value), vs w], H.set (m + 2) (.list (as.map attrV))⟩ := by
        rw [eE_tup, eE_cons, eE_idx, ep]
        rfl
      rw [eE_append, ea H l4, bd_ok]
      simp only [l3', et, bd_ok, hs]
      simp [hlen]
    refine ⟨(H.set (m + 2) (.list (as.map attrV))).set (m + 2) (.list (as.map attrV ++ [attrV (a.1, some w)])), ?_, ?_, (Apart.set _ (by (first | lia | omega)) (by (first | lia | omega))).trans (.set _ (by (first | lia | omega)) (by (first | lia | omega)))⟩
    · unfold runBody body_law_take
      rw [show (⟨[V.ref (m + 3), V.str (sName .value), V.str w].map some ++ List.replicate (3 - [V.ref (m + 3), V.str (sName .value), V.str w].length) Option.none, H⟩ : St) = ⟨[some (.ref (m + 3)), vs (sName .value), vs w], H⟩ from rfl]
      rw [x_seqR (v := .str tValued) (by
        rw [x_iteF (show evalE (callN n) (.cmp .eq (.loc 1) (.str [110, 97, 109, 101])) ⟨[some (.ref (m + 3)), vs (sName .value), vs w], H⟩ = ok (.bool false) ⟨[some (.ref (m + 3)), vs (sName .value), vs w], H⟩ from rfl)]
        rw [x_iteF (show evalE (callN n) _ ⟨[some (.ref (m + 3)), vs (sName .value), vs w], H⟩ = ok (.bool false) ⟨[some (.ref (m + 3)), vs (sName .value), vs w], H⟩ from rfl)]
        rw [x_iteF (show evalE (callN n) _ ⟨[some (.ref (m + 3)), vs (sName .value), vs w], H⟩ = ok (.bool false) ⟨[some (.ref (m + 3)), vs (sName .value), vs w], H⟩ from rfl)]
        rw [x_seq (x_expr e)]
        exact x_ret rfl)]
      rfl
    · rw [List.set_set]
      refine ⟨(ne _ _ _ (by (first | lia | omega))).trans l1, (ne _ _ _ (by (first | lia | omega))).trans l2, ?_, (ne _ _ _ (by (first | lia | omega))).trans l4⟩
      rw [get_set l3]
      simp [Part.take, hpa]
end D
end Nt
end

section
set_option genSizeOf false
set_option genInjectivity false
set_option maxRecDepth 100000
set_option autoImplicit false
namespace Nt
namespace D

noncomputable abbrev rdSign : S := (.assign 8 (.slice (.loc 0) (.loc 2) (.op .add (.loc 2) (.int 1))))
noncomputable abbrev rdKind : S := (.assign 9 (.call 20 (.cons (.loc 8) .nil)))
noncomputable abbrev rdWord : S := (.ite (.cmp .eq (.loc 3) (.str [119, 111, 114, 100])) (.seq (.ite (.or (.cmp .eq (.loc 9) (.str [108, 101, 116, 116, 101, 114])) (.and (.cmp .eq (.loc 9) (.str [100, 105, 103, 105, 116])) (.cmp .notIn (.loc 6) (.flist (.cons (.str []) (.cons (.str [45]) .nil)))))) (.seq (.assign 6 (.op .add (.loc 6) (.loc 8))) .cont) .skip) (.seq (.ite (.or (.cmp .isIn (.loc 6) (.flist (.cons (.str []) (.cons (.str [45]) .nil)))) (.and (.cmp .eq (.loc 6) (.str [45, 45])) (.cmp .eq (.loc 8) (.str [62])))) (.ret (.str [97, 32, 115, 101, 108, 101, 99, 116, 111, 114, 32, 108, 97, 99, 107, 115, 32, 97, 32, 119, 111, 114, 100])) .skip) (.assign 3 (.call 21 (.cons (.idx (.idx (.idx (.loc 1) (.neg 1)) (.neg 1)) (.int 1)) (.cons (.loc 5) (.cons (.loc 6) .nil))))))) .skip)
noncomputable abbrev rdQuot : S := (.ite (.cmp .eq (.loc 3) (.str [113, 117, 111, 116, 101, 100])) (.seq (.ite (.cmp .isIn (.loc 8) (.flist (.cons (.str []) (.cons (.str [92]) (.cons (.str [10]) (.cons (.str [13]) (.cons (.str [12]) .nil))))))) (.ret (.str [97, 32, 115, 101, 108, 101, 99, 116, 111, 114, 39, 115, 32, 118, 97, 108, 117, 101, 32, 105, 115, 32, 110, 111, 116, 32, 99, 108, 111, 115, 101, 100])) .skip) (.seq (.ite (.cmp .eq (.loc 8) (.loc 7)) (.assign 3 (.call 21 (.cons (.idx (.idx (.idx (.loc 1) (.neg 1)) (.neg 1)) (.int 1)) (.cons (.str [118, 97, 108, 117, 101]) (.cons (.loc 6) .nil))))) .skip) (.seq (.assign 6 (.op .add (.loc 6) (.loc 8))) .cont))) .skip)
noncomputable abbrev rdBlank : S := (.ite (.cmp .eq (.loc 9) (.str [98, 108, 97, 110, 107])) (.seq (.assign 3 (.ifx (.cmp .eq (.loc 3) (.str [109, 111, 114, 101])) (.str [103, 97, 112]) (.loc 3))) .cont) .skip)
noncomputable abbrev rdGap : S := (.ite (.and (.cmp .eq (.loc 3) (.str [103, 97, 112])) (.cmp .notIn (.loc 8) (.flist (.cons (.str []) (.cons (.str [44]) (.cons (.str [62]) (.cons (.str [43]) (.cons (.str [126]) .nil)))))))) (.unpack [3, 4] (.tup (.cons (.str [112, 97, 114, 116]) (.cons (.str [32]) .nil)))) .skip)
noncomputable abbrev rdMain : S := (.ite (.cmp .isIn (.loc 3) (.flist (.cons (.str [109, 111, 114, 101]) (.cons (.str [103, 97, 112]) .nil)))) (.seq (.ite (.cmp .eq (.loc 8) (.str [])) (.ret (.loc 1)) .skip) (.seq (.ite (.cmp .eq (.loc 8) (.str [44])) (.expr (.append (.loc 1) (.list .nil))) (.ite (.cmp .notIn (.loc 8) (.flist (.cons (.str [62]) (.cons (.str [43]) (.cons (.str [126]) (.cons (.str [35]) (.cons (.str [46]) (.cons (.str [91]) .nil)))))))) (.ret (.str [97, 32, 115, 101, 108, 101, 99, 116, 111, 114, 32, 104, 97, 115, 32, 97, 32, 115, 105, 103, 110, 32, 116, 104, 97, 116, 32, 105, 115, 32, 110, 111, 116, 32, 107, 110, 111, 119, 110, 32, 104, 101, 114, 101])) .skip)) (.ite (.cmp .isIn (.loc 8) (.flist (.cons (.str [44]) (.cons (.str [62]) (.cons (.str [43]) (.cons (.str [126]) .nil)))))) (.unpack [3, 4] (.tup (.cons (.str [112, 97, 114, 116]) (.cons (.replace (.loc 8) [44] []) .nil)))) .skip))) (.ite (.cmp .eq (.loc 3) (.str [112, 97, 114, 116])) (.seq (.ite (.and (.cmp .ne (.loc 9) (.str [108, 101, 116, 116, 101, 114])) (.and (.cmp .ne (.loc 9) (.str [100, 105, 103, 105, 116])) (.cmp .notIn (.loc 8) (.flist (.cons (.str [42]) (.cons (.str [35]) (.cons (.str [46]) (.cons (.str [91]) .nil)))))))) (.ret (.str [97, 32, 115, 101, 108, 101, 99, 116, 111, 114, 32, 108, 97, 99, 107, 115, 32, 97, 32, 112, 97, 114, 116])) .skip) (.seq (.expr (.append (.idx (.loc 1) (.neg 1)) (.tup (.cons (.loc 4) (.cons (.dict [[110, 97, 109, 101], [105, 100, 115], [99, 108, 97, 115, 115, 101, 115], [97, 116, 116, 114, 115]] (.cons (.str []) (.cons (.list .nil) (.cons (.list .nil) (.cons (.list .nil) .nil))))) .nil))))) (.seq (.assign 3 (.str [109, 111, 114, 101])) (.seq (.ite (.cmp .eq (.loc 9) (.str [108, 101, 116, 116, 101, 114])) (.unpack [3, 5, 6] (.tup (.cons (.str [119, 111, 114, 100]) (.cons (.str [110, 97, 109, 101]) (.cons (.loc 8) .nil))))) .skip) (.ite (.cmp .eq (.loc 9) (.str [100, 105, 103, 105, 116])) (.ret (.str [97, 32, 115, 101, 108, 101, 99, 116, 111, 114, 32, 108, 97, 99, 107, 115, 32, 97, 32, 119, 111, 114, 100])) .skip))))) (.ite (.or (.cmp .eq (.loc 3) (.str [98, 114, 97, 99, 107, 101, 116])) (.cmp .eq (.loc 3) (.str [101, 113, 117, 97, 108]))) (.ite (.and (.cmp .eq (.loc 3) (.str [101, 113, 117, 97, 108])) (.cmp .isIn (.loc 8) (.flist (.cons (.str [39]) (.cons (.str [34]) .nil))))) (.unpack [3, 7, 6] (.tup (.cons (.str [113, 117, 111, 116, 101, 100]) (.cons (.loc 8) (.cons (.str []) .nil))))) (.ite (.cmp .eq (.loc 9) (.str [108, 101, 116, 116, 101, 114])) (.seq (.assign 5 (.ifx (.cmp .eq (.loc 3) (.str [98, 114, 97, 99, 107, 101, 116])) (.str [97, 116, 116, 114]) (.str [118, 97, 108, 117, 101]))) (.unpack [3, 6] (.tup (.cons (.str [119, 111, 114, 100]) (.cons (.loc 8) .nil))))) (.ret (.str [97, 32, 115, 101, 108, 101, 99, 116, 111, 114, 32, 108, 97, 99, 107, 115, 32, 97, 32, 119, 111, 114, 100])))) (.ite (.and (.cmp .eq (.loc 3) (.str [110, 97, 109, 101, 100])) (.cmp .eq (.loc 8) (.str [61]))) (.assign 3 (.str [101, 113, 117, 97, 108])) (.ite (.cmp .eq (.loc 8) (.str [93])) (.assign 3 (.str [109, 111, 114, 101])) (.ret (.str [97, 32, 115, 101, 108, 101, 99, 116, 111, 114, 39, 115, 32, 98, 114, 97, 99, 107, 101, 116, 32, 105, 115, 32, 110, 111, 116, 32, 99, 108, 111, 115, 101, 100])))))))
noncomputable abbrev rdBr : S := (.ite (.and (.cmp .eq (.loc 3) (.str [109, 111, 114, 101])) (.cmp .eq (.loc 8) (.str [91]))) (.assign 3 (.str [98, 114, 97, 99, 107, 101, 116])) .skip)
noncomputable abbrev rdHash : S := (.ite (.and (.cmp .eq (.loc 3) (.str [109, 111, 114, 101])) (.cmp .isIn (.loc 8) (.flist (.cons (.str [35]) (.cons (.str [46]) .nil))))) (.unpack [3, 5, 6] (.tup (.cons (.str [119, 111, 114, 100]) (.cons (.ifx (.cmp .eq (.loc 8) (.str [35])) (.str [105, 100, 115]) (.str [99, 108, 97, 115, 115, 101, 115])) (.cons (.str []) .nil))))) .skip)
noncomputable abbrev rdBody : S := .seq rdSign (.seq rdKind (.seq rdWord (.seq rdQuot (.seq rdBlank (.seq rdGap (.seq rdMain (.seq rdBr (rdHash))))))))

noncomputable abbrev s10 (t : List Nat) (q k : Nat) (tag : List Nat) (l4 l5 l6 l7 : Option V) (sg kd : List Nat) (H : List O) : St := ⟨[vs t, some (.ref q), vi k, vs tag, l4, l5, l6, l7, vs sg, vs kd], H⟩

theorem RepPart.bd {F : Nat → Prop} {h : List O} {d : Nat} {p : Part} (x : RepPart F h d p) : RepPart (fun j => F j ∧ j < h.length) h d p := by
  obtain ⟨i, c, a, f1, f2, f3, f4, g1, g2, g3, g4⟩ := x
  have lt : ∀ {i o}, h[i]? = some o → i < h.length := fun e => (List.getElem?_eq_some_iff.mp e).1
  exact ⟨i, c, a, ⟨f1, lt g1⟩, ⟨f2, lt g2⟩, ⟨f3, lt g3⟩, ⟨f4, lt g4⟩, g1, g2, g3, g4⟩
theorem RepItems.bd {F : Nat → Prop} {h : List O} : ∀ {vs : List V} {c : Chain}, RepItems F h vs c → RepItems (fun j => F j ∧ j < h.length) h vs c
  | [], [], _ => trivial
  | v :: vs, (j, p) :: r, x => ⟨let ⟨d, e, y⟩ := x.1; ⟨d, e, y.bd⟩, RepItems.bd x.2⟩
  | [], _ :: _, x => x.elim
  | _ :: _, [], x => x.elim
theorem RepChains.bd {F : Nat → Prop} {h : List O} : ∀ {vs : List V} {c : List Chain}, RepChains F h vs c → RepChains (fun j => F j ∧ j < h.length) h vs c
  | [], [], _ => trivial
  | v :: vs, c :: r, x => ⟨let ⟨d, e, f, ws, g, y⟩ := x.1; ⟨d, e, ⟨f, (List.getElem?_eq_some_iff.mp g).1⟩, ws, g, y.bd⟩, RepChains.bd x.2⟩
  | [], _ :: _, x => x.elim
  | _ :: _, [], x => x.elim

noncomputable def Pre (σ H : List O) : Prop := ∀ j, j < σ.length → H[j]? = σ[j]?
theorem Pre.app {σ H : List O} (h : Pre σ H) : ∃ τ, H = σ ++ τ := by
  refine ⟨H.drop σ.length, ?_⟩
  refine List.ext_getElem? fun j => ?_
  rcases Nat.lt_or_ge j σ.length with q | q
  · rw [List.getElem?_append_left q, h j q]
  · rw [List.getElem?_append_right q, List.getElem?_drop]
    congr 1; (first | lia | omega)
theorem Pre.set {σ H : List O} (h : Pre σ H) {i : Nat} {o : O} (hi : σ.length ≤ i) : Pre σ (H.set i o) := fun j hj => by
  rw [List.getElem?_set_ne (by (first | lia | omega))]; exact h j hj
theorem Pre.more {σ H τ : List O} (h : Pre σ H) : Pre σ (H ++ τ) := fun j hj => by
  have h1 := h j hj
  have : j < H.length := by
    rw [List.getElem?_eq_getElem hj] at h1
    exact (List.getElem?_eq_some_iff.mp h1).1
  rw [List.getElem?_append_left this]; exact h1

noncomputable def F0 (q n j : Nat) : Prop := j ≠ q ∧ j ≠ n
noncomputable def F1 (q n m j : Nat) : Prop := j ≠ q ∧ j ≠ n ∧ (j < m ∨ m + 3 < j)
structure InvP (σ H : List O) (q n b : Nat) (cs : List Chain) (cur : Chain) : Prop where
  pre : Pre σ H
  lq : σ.length ≤ q
  ln : σ.length ≤ n
  qn : q ≠ n
  outer : ∃ ws, H[q]? = some (.list (ws ++ [.ref n])) ∧ ws.length ≤ b ∧ RepChains (F0 q n) H ws cs
  chain : ∃ us, H[n]? = some (.list us) ∧ us.length ≤ b ∧ RepItems (F0 q n) H us cur
structure InvL (σ H : List O) (q n m b : Nat) (x : Ctx) : Prop where
  pre : Pre σ H
  lq : σ.length ≤ q
  ln : σ.length ≤ n
  qn : q ≠ n
  qm : q < m
  nm : n < m
  outer : ∃ ws, H[q]? = some (.list (ws ++ [.ref n])) ∧ ws.length ≤ b ∧ RepChains (F1 q n m) H ws x.cs
  chain : ∃ us, H[n]? = some (.list (us ++ [.tup [.str x.j, .ref (m + 3)]])) ∧ us.length ≤ b ∧ RepItems (F1 q n m) H us x.cur
  live : Live H m x.p
  few : Few x.p b

theorem InvL.le {σ H : List O} {q n m b b' : Nat} {x : Ctx} (h : InvL σ H q n m b x) (l : b ≤ b') : InvL σ H q n m b' x := by
  obtain ⟨ws, e, lw, r⟩ := h.outer
  obtain ⟨us, e', lu, r'⟩ := h.chain
  exact ⟨h.pre, h.lq, h.ln, h.qn, h.qm, h.nm, ⟨ws, e, by (first | lia | omega), r⟩, ⟨us, e', by (first | lia | omega), r'⟩, h.live, h.few.le l⟩
theorem InvP.le {σ H : List O} {q n b b' : Nat} {cs : List Chain} {cur : Chain} (h : InvP σ H q n b cs cur) (l : b ≤ b') : InvP σ H q n b' cs cur := by
  obtain ⟨ws, e, lw, r⟩ := h.outer
  obtain ⟨us, e', lu, r'⟩ := h.chain
  exact ⟨h.pre, h.lq, h.ln, h.qn, ⟨ws, e, by (first | lia | omega), r⟩, ⟨us, e', by (first | lia | omega), r'⟩⟩

theorem InvL.part {σ H : List O} {q n m b : Nat} {x : Ctx} (h : InvL σ H q n m b x) : RepPart (F0 q n) H (m + 3) x.p := by
  have h1 := h.qm
  have h2 := h.nm
  exact ⟨m, m + 1, m + 2, ⟨by (first | lia | omega), by (first | lia | omega)⟩, ⟨by (first | lia | omega), by (first | lia | omega)⟩, ⟨by (first | lia | omega), by (first | lia | omega)⟩, ⟨by (first | lia | omega), by (first | lia | omega)⟩, h.live.dict, h.live.ids, h.live.classes, h.live.attrs⟩
theorem keep10 (q n m : Nat) (H : List O) : Keep (F1 q n m) (F0 q n) H H := ⟨fun _ h => ⟨h.1, h.2.1⟩, fun _ _ _ e => e⟩
/-- the part under way is laid -/
theorem InvL.laid {σ H : List O} {q n m b : Nat} {x : Ctx} (h : InvL σ H q n m b x) : InvP σ H q n (b + 1) x.cs x.laid := by
  obtain ⟨ws, e, lw, r⟩ := h.outer
  obtain ⟨us, e', lu, r'⟩ := h.chain
  exact ⟨h.pre, h.lq, h.ln, h.qn, ⟨ws, e, by (first | lia | omega), r.mono (keep10 q n m H)⟩, ⟨_, e', by simp; (first | lia | omega), (r'.mono (keep10 q n m H)).snoc h.part⟩⟩
/-- a new chain -/
theorem InvL.comma {σ H : List O} {q n m b : Nat} {x : Ctx} (h : InvL σ H q n m b x) : ∃ ws, H[q]? = some (.list (ws ++ [.ref n])) ∧ ws.length ≤ b ∧ InvP σ ((H ++ [O.list []]).set q (O.list (ws ++ [V.ref n] ++ [V.ref H.length]))) q H.length (b + 1) (x.cs ++ [x.laid]) [] := by
  obtain ⟨ws, e, lw, r⟩ := h.outer
  obtain ⟨us, e', lu, r'⟩ := h.chain
  have hq : q < H.length := (List.getElem?_eq_some_iff.mp e).1
  have hn : n < H.length := (List.getElem?_eq_some_iff.mp e').1
  have kp : Keep (fun j => F0 q n j ∧ j < H.length) (F0 q H.length) H ((H ++ [O.list []]).set q (O.list (ws ++ [V.ref n] ++ [V.ref H.length]))) :=
    ⟨fun j hj => ⟨hj.1.1, by (first | lia | omega)⟩, fun j o hj ej => by
      rw [List.getElem?_set_ne (Ne.symm hj.1.1), List.getElem?_append_left hj.2]; exact ej⟩
  have rc : RepChain (F0 q H.length) ((H ++ [O.list []]).set q (O.list (ws ++ [V.ref n] ++ [V.ref H.length]))) n x.laid := by
    refine ⟨⟨Ne.symm h.qn, by (first | lia | omega)⟩, us ++ [.tup [.str x.j, .ref (m + 3)]], ?_, ((r'.mono (keep10 q n m H)).snoc h.part).bd.mono kp⟩
    rw [List.getElem?_set_ne h.qn, List.getElem?_append_left hn]; exact e'
  refine ⟨ws, e, lw, ⟨(h.pre.more).set h.lq, h.lq, by have := h.lq; (first | lia | omega), by (first | lia | omega), ⟨ws ++ [.ref n], ?_, by simp; (first | lia | omega), (((r.mono (keep10 q n m H)).bd).mono kp).snoc rc⟩, ⟨[], ?_, Nat.zero_le _, trivial⟩⟩⟩
  · rw [List.getElem?_set_self (by rw [List.length_append]; (first | lia | omega))]
  · rw [List.getElem?_set_ne (by (first | lia | omega))]
    simp
/-- a new part -/
theorem InvP.fresh {σ H : List O} {q n b : Nat} {cs : List Chain} {cur : Chain} {p0 : Part} (j : List Nat) (h : InvP σ H q n b cs cur) : ∃ us, H[n]? = some (.list us) ∧ us.length ≤ b ∧ InvL σ ((H ++ partO H.length noPart).set n (O.list (us ++ [V.tup [V.str j, V.ref (H.length + 3)]]))) q n H.length b (Ctx.fresh ⟨cs, cur, j, p0⟩) := by
  obtain ⟨ws, e, lw, r⟩ := h.outer
  obtain ⟨us, e', lu, r'⟩ := h.chain
  have hq : q < H.length := (List.getElem?_eq_some_iff.mp e).1
  have hn : n < H.length := (List.getElem?_eq_some_iff.mp e').1
  have kp : Keep (fun j => F0 q n j ∧ j < H.length) (F1 q n H.length) H ((H ++ partO H.length noPart).set n (O.list (us ++ [V.tup [V.str j, V.ref (H.length + 3)]]))) :=
    ⟨fun i hi => ⟨hi.1.1, hi.1.2, .inl hi.2⟩, fun i o hi ei => by
      rw [List.getElem?_set_ne (Ne.symm hi.1.2), List.getElem?_append_left hi.2]; exact ei⟩
  have at_ : ∀ (i : Nat) (o : O), (partO H.length noPart)[i]? = some o → ((H ++ partO H.length noPart).set n (O.list (us ++ [V.tup [V.str j, V.ref (H.length + 3)]])))[H.length + i]? = some o := fun i o ei => by
    rw [List.getElem?_set_ne (by (first | lia | omega)), List.getElem?_append_right (by (first | lia | omega)), show H.length + i - H.length = i from by (first | lia | omega)]; exact ei
  refine ⟨us, e', lu, ⟨(h.pre.more).set h.ln, h.lq, h.ln, h.qn, hq, hn, ⟨ws, ?_, lw, r.bd.mono kp⟩, ⟨us, ?_, lu, r'.bd.mono kp⟩, ⟨at_ 0 _ rfl, at_ 1 _ rfl, at_ 2 _ rfl, at_ 3 _ rfl⟩, ⟨Nat.zero_le _, Nat.zero_le _, Nat.zero_le _⟩⟩⟩
  · rw [List.getElem?_set_ne (Ne.symm h.qn), List.getElem?_append_left hq]; exact e
  · rw [List.getElem?_set_self (by rw [List.length_append]; (first | lia | omega))]; rfl
/-- a word is taken -/
theorem InvL.take {σ H H' : List O} {q n m b : Nat} {x : Ctx} {srt : Srt} {w : List Nat} (h : InvL σ H q n m b x) (hl : Live H' m (x.p.take srt w)) (ha : Apart m H H') : InvL σ H' q n m (b + 1) (x.take srt w) := by
  obtain ⟨ws, e, lw, r⟩ := h.outer
  obtain ⟨us, e', lu, r'⟩ := h.chain
  have kp : Keep (F1 q n m) (F1 q n m) H H' := ⟨fun _ h => h, fun j o hj ej => by rw [ha.same j hj.2.2]; exact ej⟩
  have h1 := h.qm
  have h2 := h.nm
  have h3 := h.lq
  have hf := h.few
  refine ⟨fun j hj => ?_, h.lq, h.ln, h.qn, h.qm, h.nm, ⟨ws, by rw [ha.same q (.inl h1)]; exact e, by (first | lia | omega), r.mono kp⟩, ⟨us, by rw [ha.same n (.inl h2)]; exact e', by (first | lia | omega), r'.mono kp⟩, hl, ?_⟩
  · rw [ha.same j (.inl (by (first | lia | omega)))]; exact h.pre j hj
  · have a1 := hf.ids
    have a2 := hf.classes
    have a3 := hf.attrs
    (first | exact no srt | exact no1 srt | exact no2 srt | exact noE srt | exact noE1 srt | obtain rfl := Option.some.inj srt | obtain rfl := Except.ok.inj srt | obtain rfl := srt | cases srt) <;> refine ⟨?_, ?_, ?_⟩ <;> simp [Ctx.take, Part.take] <;> (first | lia | omega)

theorem pick_last (ws : List V) (v : V) : pick (ws ++ [v]) (-1) = some v := by
  unfold pick
  rw [if_neg (by (first | lia | omega)), if_pos (by simp; (first | lia | omega))]
  have : ((-1 : Int) + ((ws ++ [v]).length : Int)).toNat = ws.length := by simp; (first | lia | omega)
  rw [this]
  simp
end D
end Nt
end

section
set_option genSizeOf false
set_option genInjectivity false
set_option maxRecDepth 100000
set_option autoImplicit false
namespace Nt
namespace D

noncomputable def tPart : List Nat := [112, 97, 114, 116]
noncomputable def tGap : List Nat := [103, 97, 112]
noncomputable def tWord : List Nat := [119, 111, 114, 100]
noncomputable def tBracket : List Nat := [98, 114, 97, 99, 107, 101, 116]
noncomputable def tEqual : List Nat := [101, 113, 117, 97, 108]
noncomputable def tQuoted : List Nat := [113, 117, 111, 116, 101, 100]
noncomputable def kBlank : List Nat := [98, 108, 97, 110, 107]
noncomputable def kEnd : List Nat := [101, 110, 100]
noncomputable def kLetter : List Nat := [108, 101, 116, 116, 101, 114]
noncomputable def kDigit : List Nat := [100, 105, 103, 105, 116]
noncomputable def kMark : List Nat := [109, 97, 114, 107]

/-- the state of the loop, as the machine has it -/
noncomputable def Inv (σ H : List O) (qi ni b : Nat) (q : Q) (x : Ctx) (tag : List Nat) (l4 l5 l6 l7 : Option V) : Prop := match q with
  | .part => tag = tPart ∧ l4 = vs x.j ∧ InvP σ H qi ni b x.cs x.cur
  | .more => tag = tMore ∧ ∃ m, InvL σ H qi ni m b x
  | .gap => tag = tGap ∧ ∃ m, InvL σ H qi ni m b x
  | .word srt w => tag = tWord ∧ l5 = vs (sName srt) ∧ l6 = vs w ∧ w.length ≤ b ∧ (srt = .value → x.p.attrs ≠ []) ∧ ∃ m, InvL σ H qi ni m b x
  | .bracket => tag = tBracket ∧ ∃ m, InvL σ H qi ni m b x
  | .named => tag = tNamed ∧ x.p.attrs ≠ [] ∧ ∃ m, InvL σ H qi ni m b x
  | .equal => tag = tEqual ∧ x.p.attrs ≠ [] ∧ ∃ m, InvL σ H qi ni m b x
  | .valued => tag = tValued ∧ ∃ m, InvL σ H qi ni m b x
  | .quoted qt w => tag = tQuoted ∧ l6 = vs w ∧ l7 = vs [qt] ∧ w.length ≤ b ∧ x.p.attrs ≠ [] ∧ ∃ m, InvL σ H qi ni m b x

theorem Inv.pre {σ H : List O} {qi ni b : Nat} {q : Q} {x : Ctx} {tag : List Nat} {l4 l5 l6 l7 : Option V} (h : Inv σ H qi ni b q x tag l4 l5 l6 l7) : Pre σ H := by
  (first | exact no q | exact no1 q | exact no2 q | exact noE q | exact noE1 q | obtain rfl := Option.some.inj q | obtain rfl := Except.ok.inj q | obtain rfl := q | cases q) <;> simp only [Inv] at h
  · exact h.2.2.pre
  · obtain ⟨_, m, I⟩ := h; exact I.pre
  · obtain ⟨_, m, I⟩ := h; exact I.pre
  · obtain ⟨_, _, _, _, _, m, I⟩ := h; exact I.pre
  · obtain ⟨_, m, I⟩ := h; exact I.pre
  · obtain ⟨_, _, m, I⟩ := h; exact I.pre
  · obtain ⟨_, _, m, I⟩ := h; exact I.pre
  · obtain ⟨_, m, I⟩ := h; exact I.pre
  · obtain ⟨_, _, _, _, _, m, I⟩ := h; exact I.pre

/-- one sign has been read -/
noncomputable def Post (t : List Nat) (k : Nat) (σ : List O) (qi b : Nat) (fl : Fl) (st2 : St) : M (Q × Ctx) → Prop
  | .error e => fl = .ret (.str e) ∧ Pre σ st2.heap
  | .ok (q', x') => (fl = .next ∨ fl = .cont) ∧ ∃ ni tag l4 l5 l6 l7 sg kd H, st2 = s10 t qi k tag l4 l5 l6 l7 sg kd H ∧ Inv σ H qi ni b q' x' tag l4 l5 l6 l7
/-- the text has ended -/
noncomputable def PostE (σ : List O) (qi : Nat) (fl : Fl) (st2 : St) : M (List Chain) → Prop
  | .error e => fl = .ret (.str e) ∧ Pre σ st2.heap
  | .ok cs => fl = .ret (.ref qi) ∧ Pre σ st2.heap ∧ RepSel (fun _ => True) st2.heap qi cs
noncomputable def Does (C : Calls) (S : S) (t : List Nat) (k : Nat) (σ : List O) (qi b : Nat) (q : Q) (x : Ctx) (f : Q → Ctx → Nat → M (Q × Ctx)) (e : Q → Ctx → M (List Chain)) (s : List Nat) (st : St) : Prop :=
  ∃ fl st2, exec C S st = some (.ok fl, st2) ∧ match s with
    | [] => PostE σ qi fl st2 (e q x)
    | c :: _ => Post t k σ qi b fl st2 (f q x c)

theorem InvL.sel {σ H : List O} {q n m b : Nat} {x : Ctx} (h : InvL σ H q n m b x) : RepSel (fun _ => True) H q (x.cs ++ [x.laid]) := by
  obtain ⟨ws, e, lw, r⟩ := h.outer
  obtain ⟨us, e', lu, r'⟩ := h.chain
  have kt : ∀ F : Nat → Prop, Keep F (fun _ => True) H H := fun F => Keep.imp _ fun _ _ => trivial
  refine ⟨_, e, (r.mono (kt _)).snoc ⟨trivial, _, e', ?_⟩⟩
  exact (r'.mono (kt _)).snoc (h.part.mono (kt _))

theorem kind_cases (s : List Nat) : (s = [] ∧ kindOf s = kEnd) ∨ ∃ c r, s = c :: r ∧ ((isSp c = true ∧ kindOf s = kBlank) ∨ (isSp c = false ∧ isDg c = false ∧ isLt c = true ∧ kindOf s = kLetter) ∨ (isSp c = false ∧ isDg c = true ∧ isLt c = false ∧ kindOf s = kDigit) ∨ (isSp c = false ∧ isDg c = false ∧ isLt c = false ∧ kindOf s = kMark)) := by
  cases s with
  | nil => exact .inl ⟨rfl, rfl⟩
  | cons c r =>
    refine .inr ⟨c, r, rfl, ?_⟩
    cases h1 : isSp c with
    | true => exact .inl ⟨rfl, by simp [kindOf, h1, kBlank]⟩
    | false =>
      cases h2 : isDg c with
      | true =>
        have h3 : isLt c = false := by
          cases h3 : isLt c with
          | false => rfl
          | true => rw [lt_not_dg h3] at h2; (first | exact no h2 | exact no1 h2 | exact no2 h2 | exact noE h2 | exact noE1 h2 | obtain rfl := Option.some.inj h2 | obtain rfl := Except.ok.inj h2 | obtain rfl := h2 | cases h2)
        exact .inr (.inr (.inl ⟨rfl, rfl, h3, by simp [kindOf, h1, h2, kDigit]⟩))
      | false =>
        cases h3 : isLt c with
        | true => exact .inr (.inl ⟨rfl, rfl, rfl, by simp [kindOf, h1, h2, h3, kLetter]⟩)
        | false => exact .inr (.inr (.inr ⟨rfl, rfl, rfl, by simp [kindOf, h1, h2, h3, kMark]⟩))

noncomputable abbrev rdTail : S := .seq rdBlank (.seq rdGap (.seq rdMain (.seq rdBr rdHash)))

section
variable {C : Calls} {t : List Nat} {k : Nat} {σ H : List O} {qi ni b : Nat} {x : Ctx} {l4 l5 l6 l7 : Option V} {s : List Nat}

theorem tail_bracket (h : Inv σ H qi ni b .bracket x tBracket l4 l5 l6 l7) : Does C rdTail t k σ qi (b + 4) .bracket x step1 fin1 s (s10 t qi k tBracket l4 l5 l6 l7 (s.take 1) (kindOf s) H) := by
  obtain ⟨_, m, I⟩ := id h
  rcases kind_cases s with ⟨rfl, hk⟩ | ⟨c, r, rfl, ⟨h1, hk⟩ | ⟨h1, h2, h3, hk⟩ | ⟨h1, h2, h3, hk⟩ | ⟨h1, h2, h3, hk⟩⟩ <;> rw [hk]
  · exact ⟨.ret (.str eWord), _, rfl, rfl, I.pre⟩
  · refine ⟨.cont, _, rfl, ?_⟩
    simp only [step1, h1, if_true]
    exact ⟨.inr rfl, ni, _, _, _, _, _, _, _, H, rfl, rfl, m, I.le (by (first | lia | omega))⟩
  · refine ⟨.next, _, rfl, ?_⟩
    simp only [step1, h1, h3, if_true, Bool.false_eq_true, if_false]
    exact ⟨.inl rfl, ni, tWord, l4, vs (sName .attr), vs [c], l7, [c], kLetter, H, rfl, rfl, rfl, rfl, by simp, (fun q => by (first | exact no q | exact no1 q | exact no2 q | exact noE q | exact noE1 q | obtain rfl := Option.some.inj q | obtain rfl := Except.ok.inj q | obtain rfl := q | cases q)), m, I.le (by (first | lia | omega))⟩
  · refine ⟨.ret (.str eWord), _, rfl, ?_⟩
    simp only [step1, h1, h3, Bool.false_eq_true, if_false]
    exact ⟨rfl, I.pre⟩
  · refine ⟨.ret (.str eWord), _, rfl, ?_⟩
    simp only [step1, h1, h3, Bool.false_eq_true, if_false]
    exact ⟨rfl, I.pre⟩

theorem beqF {a b : Nat} (h : a ≠ b) : ([a] == [b]) = false := by simp [h]

theorem tail_named (h : Inv σ H qi ni b .named x tNamed l4 l5 l6 l7) : Does C rdTail t k σ qi (b + 4) .named x step1 fin1 s (s10 t qi k tNamed l4 l5 l6 l7 (s.take 1) (kindOf s) H) := by
  obtain ⟨_, ha, m, I⟩ := id h
  rcases kind_cases s with ⟨rfl, hk⟩ | ⟨c, r, rfl, hh⟩
  · exact ⟨.ret (.str eBrk), _, rfl, rfl, I.pre⟩
  · rcases hh with ⟨h1, hk⟩ | hh
    · rw [hk]
      refine ⟨.cont, _, rfl, ?_⟩
      simp only [step1, h1, if_true]
      exact ⟨.inr rfl, ni, _, _, _, _, _, _, _, H, rfl, rfl, ha, m, I.le (by (first | lia | omega))⟩
    · have h1 : isSp c = false := by rcases hh with h | h | h <;> exact h.1
      by_cases c61 : c = 61
      · subst c61
        refine ⟨.next, _, rfl, ?_⟩
        exact ⟨.inl rfl, ni, _, _, _, _, _, _, _, H, rfl, rfl, ha, m, I.le (by (first | lia | omega))⟩
      by_cases c93 : c = 93
      · subst c93
        refine ⟨.next, _, rfl, ?_⟩
        exact ⟨.inl rfl, ni, _, _, _, _, _, _, _, H, rfl, rfl, m, I.le (by (first | lia | omega))⟩
      have hkb : (kindOf (c :: r) == kBlank) = false := by rcases hh with h | h | h <;> rw [h.2.2.2] <;> rfl
      generalize kindOf (c :: r) = kd at hkb
      let st : St := s10 t qi k tNamed l4 l5 l6 l7 [c] kd H
      have e1 : exec C rdBlank st = ok .next st := by
        rw [x_iteF (st' := st) (by show ok (V.bool (kd == kBlank)) st = _; rw [hkb])]; rfl
      have e2 : exec C rdGap st = ok .next st := rfl
      have e3 : exec C rdMain st = ok (.ret (.str eBrk)) st := by
        rw [x_iteF (show evalE C _ st = ok (.bool false) st from rfl), x_iteF (show evalE C _ st = ok (.bool false) st from rfl), x_iteF (show evalE C _ st = ok (.bool false) st from rfl)]
        rw [x_iteF (st' := st) (by show ok (V.bool ([c] == [61])) st = _; rw [beqF c61])]
        rw [x_iteF (st' := st) (by show ok (V.bool ([c] == [93])) st = _; rw [beqF c93])]
        rfl
      refine ⟨.ret (.str eBrk), st, ?_, ?_⟩
      · show exec C rdTail st = _
        rw [x_seq e1, x_seq e2, x_seqR e3]; rfl
      · simp only [step1, h1, c61, c93, Bool.false_eq_true, if_false]
        exact ⟨rfl, I.pre⟩

theorem tail_valued (h : Inv σ H qi ni b .valued x tValued l4 l5 l6 l7) : Does C rdTail t k σ qi (b + 4) .valued x step1 fin1 s (s10 t qi k tValued l4 l5 l6 l7 (s.take 1) (kindOf s) H) := by
  obtain ⟨_, m, I⟩ := id h
  rcases kind_cases s with ⟨rfl, hk⟩ | ⟨c, r, rfl, hh⟩
  · exact ⟨.ret (.str eBrk), _, rfl, rfl, I.pre⟩
  · rcases hh with ⟨h1, hk⟩ | hh
    · rw [hk]
      refine ⟨.cont, _, rfl, ?_⟩
      simp only [step1, h1, if_true]
      exact ⟨.inr rfl, ni, _, _, _, _, _, _, _, H, rfl, rfl, m, I.le (by (first | lia | omega))⟩
    · have h1 : isSp c = false := by rcases hh with h | h | h <;> exact h.1
      by_cases c93 : c = 93
      · subst c93
        refine ⟨.next, _, rfl, ?_⟩
        exact ⟨.inl rfl, ni, _, _, _, _, _, _, _, H, rfl, rfl, m, I.le (by (first | lia | omega))⟩
      have hkb : (kindOf (c :: r) == kBlank) = false := by rcases hh with h | h | h <;> rw [h.2.2.2] <;> rfl
      generalize kindOf (c :: r) = kd at hkb
      let st : St := s10 t qi k tValued l4 l5 l6 l7 [c] kd H
      have e1 : exec C rdBlank st = ok .next st := by
        rw [x_iteF (st' := st) (by show ok (V.bool (kd == kBlank)) st = _; rw [hkb])]; rfl
      have e2 : exec C rdGap st = ok .next st := rfl
      have e3 : exec C rdMain st = ok (.ret (.str eBrk)) st := by
        rw [x_iteF (show evalE C _ st = ok (.bool false) st from rfl), x_iteF (show evalE C _ st = ok (.bool false) st from rfl), x_iteF (show evalE C _ st = ok (.bool false) st from rfl), x_iteF (show evalE C _ st = ok (.bool false) st from rfl)]
        rw [x_iteF (st' := st) (by show ok (V.bool ([c] == [93])) st = _; rw [beqF c93])]
        rfl
      refine ⟨.ret (.str eBrk), st, ?_, ?_⟩
      · show exec C rdTail st = _
        rw [x_seq e1, x_seq e2, x_seqR e3]; rfl
      · simp only [step1, h1, c93, Bool.false_eq_true, if_false]
        exact ⟨rfl, I.pre⟩

theorem tail_equal (h : Inv σ H qi ni b .equal x tEqual l4 l5 l6 l7) : Does C rdTail t k σ qi (b + 4) .equal x step1 fin1 s (s10 t qi k tEqual l4 l5 l6 l7 (s.take 1) (kindOf s) H) := by
  obtain ⟨_, ha, m, I⟩ := id h
  rcases kind_cases s with ⟨rfl, hk⟩ | ⟨c, r, rfl, hh⟩
  · exact ⟨.ret (.str eWord), _, rfl, rfl, I.pre⟩
  · rcases hh with ⟨h1, hk⟩ | hh
    · rw [hk]
      refine ⟨.cont, _, rfl, ?_⟩
      simp only [step1, h1, if_true]
      exact ⟨.inr rfl, ni, _, _, _, _, _, _, _, H, rfl, rfl, ha, m, I.le (by (first | lia | omega))⟩
    · have h1 : isSp c = false := by rcases hh with h | h | h <;> exact h.1
      by_cases c39 : c = 39
      · subst c39
        refine ⟨.next, _, rfl, ?_⟩
        exact ⟨.inl rfl, ni, _, _, _, _, _, _, _, H, rfl, rfl, rfl, rfl, Nat.zero_le _, ha, m, I.le (by (first | lia | omega))⟩
      by_cases c34 : c = 34
      · subst c34
        refine ⟨.next, _, rfl, ?_⟩
        exact ⟨.inl rfl, ni, _, _, _, _, _, _, _, H, rfl, rfl, rfl, rfl, Nat.zero_le _, ha, m, I.le (by (first | lia | omega))⟩
      have hno : ([[39], [34]] : List (List Nat)).contains [c] = false := by simp [c39, c34]
      have nor : ¬ (c = 39 ∨ c = 34) := by simp [c39, c34]
      have bad : ∀ kd : List Nat, (kd == kBlank) = false → (kd == kLetter) = false → exec C rdTail (s10 t qi k tEqual l4 l5 l6 l7 [c] kd H) = ok (.ret (.str eWord)) (s10 t qi k tEqual l4 l5 l6 l7 [c] kd H) := by
        intro kd k1 k2
        let st : St := s10 t qi k tEqual l4 l5 l6 l7 [c] kd H
        have e1 : exec C rdBlank st = ok .next st := by
          rw [x_iteF (st' := st) (by show ok (V.bool (kd == kBlank)) st = _; rw [k1])]; rfl
        have e3 : exec C rdMain st = ok (.ret (.str eWord)) st := by
          rw [x_iteF (show evalE C _ st = ok (.bool false) st from rfl), x_iteF (show evalE C _ st = ok (.bool false) st from rfl), x_iteT (show evalE C _ st = ok (.bool true) st from rfl)]
          rw [x_iteF (st' := st) (by show ok (V.bool (([[39], [34]] : List (List Nat)).contains [c])) st = _; rw [hno])]
          rw [x_iteF (st' := st) (by show ok (V.bool (kd == kLetter)) st = _; rw [k2])]
          rfl
        rw [x_seq e1, x_seq (show exec C rdGap st = ok .next st from rfl), x_seqR e3]
      rcases hh with ⟨_, h2, h3, hk⟩ | ⟨_, h2, h3, hk⟩ | ⟨_, h2, h3, hk⟩ <;> rw [hk]
      · let st : St := s10 t qi k tEqual l4 l5 l6 l7 [c] kLetter H
        have e3 : exec C rdMain st = ok .next (s10 t qi k tWord l4 (vs (sName .value)) (vs [c]) l7 [c] kLetter H) := by
          rw [x_iteF (show evalE C _ st = ok (.bool false) st from rfl), x_iteF (show evalE C _ st = ok (.bool false) st from rfl), x_iteT (show evalE C _ st = ok (.bool true) st from rfl)]
          rw [x_iteF (st' := st) (by show ok (V.bool (([[39], [34]] : List (List Nat)).contains [c])) st = _; rw [hno])]
          rfl
        refine ⟨.next, s10 t qi k tWord l4 (vs (sName .value)) (vs [c]) l7 [c] kLetter H, ?_, ?_⟩
        · show exec C rdTail st = _
          rw [x_seq (show exec C rdBlank st = ok .next st from rfl), x_seq (show exec C rdGap st = ok .next st from rfl), x_seq e3]; rfl
        · simp only [step1, h1, h3, nor, if_true, Bool.false_eq_true, if_false]
          exact ⟨.inl rfl, ni, tWord, l4, vs (sName .value), vs [c], l7, [c], kLetter, H, rfl, rfl, rfl, rfl, by simp, fun _ => ha, m, I.le (by (first | lia | omega))⟩
      · exact ⟨_, _, bad kDigit rfl rfl, by simp only [step1, h1, h3, nor, Bool.false_eq_true, if_false]; exact ⟨rfl, I.pre⟩⟩
      · exact ⟨_, _, bad kMark rfl rfl, by simp only [step1, h1, h3, nor, Bool.false_eq_true, if_false]; exact ⟨rfl, I.pre⟩⟩
end
end D
end Nt
end

section
set_option genSizeOf false
set_option genInjectivity false
set_option maxRecDepth 100000
set_option autoImplicit false
namespace Nt
namespace D

theorem Inv.le {σ H : List O} {qi ni b b' : Nat} {q : Q} {x : Ctx} {tag : List Nat} {l4 l5 l6 l7 : Option V} (h : Inv σ H qi ni b q x tag l4 l5 l6 l7) (l : b ≤ b') : Inv σ H qi ni b' q x tag l4 l5 l6 l7 := by
  (first | exact no q | exact no1 q | exact no2 q | exact noE q | exact noE1 q | obtain rfl := Option.some.inj q | obtain rfl := Except.ok.inj q | obtain rfl := q | cases q) <;> simp only [Inv] at h ⊢
  · exact ⟨h.1, h.2.1, h.2.2.le l⟩
  · obtain ⟨a, m, I⟩ := h; exact ⟨a, m, I.le l⟩
  · obtain ⟨a, m, I⟩ := h; exact ⟨a, m, I.le l⟩
  · obtain ⟨a1, a2, a3, a4, a5, m, I⟩ := h; exact ⟨a1, a2, a3, Nat.le_trans a4 l, a5, m, I.le l⟩
  · obtain ⟨a, m, I⟩ := h; exact ⟨a, m, I.le l⟩
  · obtain ⟨a, a', m, I⟩ := h; exact ⟨a, a', m, I.le l⟩
  · obtain ⟨a, a', m, I⟩ := h; exact ⟨a, a', m, I.le l⟩
  · obtain ⟨a, m, I⟩ := h; exact ⟨a, m, I.le l⟩
  · obtain ⟨a1, a2, a3, a4, a5, m, I⟩ := h; exact ⟨a1, a2, a3, Nat.le_trans a4 l, a5, m, I.le l⟩
theorem Post.le {t : List Nat} {k : Nat} {σ : List O} {qi b b' : Nat} {fl : Fl} {st2 : St} {r : M (Q × Ctx)} (h : Post t k σ qi b fl st2 r) (l : b ≤ b') : Post t k σ qi b' fl st2 r := by
  match r, h with
  | .error e, h => exact h
  | .ok (q', x'), ⟨a, ni, tag, l4, l5, l6, l7, sg, kd, H, e, I⟩ => exact ⟨a, ni, tag, l4, l5, l6, l7, sg, kd, H, e, I.le l⟩

noncomputable abbrev newPart : S := .expr (.append (.idx (.loc 1) (.neg 1)) (.tup (.cons (.loc 4) (.cons (.dict [[110, 97, 109, 101], [105, 100, 115], [99, 108, 97, 115, 115, 101, 115], [97, 116, 116, 114, 115]] (.cons (.str []) (.cons (.list .nil) (.cons (.list .nil) (.cons (.list .nil) .nil))))) .nil))))
section
variable {C : Calls} {t : List Nat} {k : Nat} {σ H : List O} {qi ni b : Nat} {l4 l5 l6 l7 : Option V} {s : List Nat} {tag sg kd : List Nat}

theorem ev_last {ws : List V} (e : H[qi]? = some (.list (ws ++ [.ref ni]))) : evalE C (.idx (.loc 1) (.neg 1)) (s10 t qi k tag l4 l5 l6 l7 sg kd H) = ok (.ref ni) (s10 t qi k tag l4 l5 l6 l7 sg kd H) := by
  show lift (idxV H (.ref qi) (.int (-1))) _ = _
  simp only [idxV, e, pick_last]
  rfl

theorem ev_newPart {y : Ctx} (I : InvP σ H qi ni b y.cs y.cur) (hb : b < lim) : ∃ H', exec C newPart (s10 t qi k tag (vs y.j) l5 l6 l7 sg kd H) = ok .next (s10 t qi k tag (vs y.j) l5 l6 l7 sg kd H') ∧ ∃ m, InvL σ H' qi ni m b y.fresh := by
  obtain ⟨ws, e, _, _⟩ := I.outer
  obtain ⟨us, e', lu, J⟩ := I.fresh (p0 := y.p) y.j
  refine ⟨_, ?_, _, J⟩
  refine x_expr (v := .none) ?_
  have hn : ni < H.length := (List.getElem?_eq_some_iff.mp e').1
  have ex : evalE C (.tup (.cons (.loc 4) (.cons (.dict [[110, 97, 109, 101], [105, 100, 115], [99, 108, 97, 115, 115, 101, 115], [97, 116, 116, 114, 115]] (.cons (.str []) (.cons (.list .nil) (.cons (.list .nil) (.cons (.list .nil) .nil))))) .nil))) (s10 t qi k tag (vs y.j) l5 l6 l7 sg kd H) = ok (.tup [.str y.j, .ref (H.length + 3)]) (s10 t qi k tag (vs y.j) l5 l6 l7 sg kd (H ++ partO H.length noPart)) := by
    simp [eE_loc, eE_none, eE_bool, eE_int, eE_neg, eE_str, eE_op, eE_cmp, eE_between, eE_and, eE_or, eE_ifx, eE_nil, eE_cons, eE_tup, eE_list, eE_flist, eE_dict, eE_call, eE_len, eE_ord, eE_idx, eE_slice, eE_sliceFrom, eE_sliceTo, eE_append, eE_pop, eE_endswith, eE_replace, bd, ok, partO, noPart]
  rw [eE_append, ev_last e, bd_ok]
  simp only [e', ex, bd_ok]
  rw [List.getElem?_append_left hn, e']
  simp only [show us.length < lim from by (first | lia | omega), if_true]

/-- a part begins -/
theorem main_part {y : Ctx} (I : InvP σ H qi ni b y.cs y.cur) (hb : b < lim) (hns : ∀ c r, s = c :: r → isSp c = false) :
    Does C (.seq rdMain (.seq rdBr rdHash)) t k σ qi (b + 1) .part y (fun _ => partStep) (fun _ _ => .error ePart) s (s10 t qi k tPart (vs y.j) l5 l6 l7 (s.take 1) (kindOf s) H) := by
  rcases kind_cases s with ⟨rfl, hk⟩ | ⟨c, r, rfl, ⟨h1, _⟩ | ⟨h1, h2, h3, hk⟩ | ⟨h1, h2, h3, hk⟩ | ⟨h1, h2, h3, hk⟩⟩
  · exact ⟨.ret (.str ePart), _, rfl, rfl, I.pre⟩
  · rw [hns c r rfl] at h1; (first | exact no h1 | exact no1 h1 | exact no2 h1 | exact noE h1 | exact noE1 h1 | obtain rfl := Option.some.inj h1 | obtain rfl := Except.ok.inj h1 | obtain rfl := h1 | cases h1)
  all_goals rw [hk]
  · -- a letter
    obtain ⟨H', e, m, J⟩ := ev_newPart (C := C) (t := t) (k := k) (tag := tPart) (l5 := l5) (l6 := l6) (l7 := l7) (sg := [c]) (kd := kLetter) I hb
    let st : St := s10 t qi k tPart (vs y.j) l5 l6 l7 [c] kLetter H
    refine ⟨.next, s10 t qi k tWord (vs y.j) (vs (sName .name)) (vs [c]) l7 [c] kLetter H', ?_, ?_⟩
    · have em : exec C rdMain st = ok .next (s10 t qi k tWord (vs y.j) (vs (sName .name)) (vs [c]) l7 [c] kLetter H') := by
        rw [x_iteF (show evalE C _ st = ok (.bool false) st from rfl), x_iteT (show evalE C _ st = ok (.bool true) st from rfl)]
        rw [x_seq (st' := st) (by rw [x_iteF (show evalE C _ st = ok (.bool false) st from rfl)]; rfl), x_seq e]
        rfl
      show exec C _ st = _
      rw [x_seq em]; rfl
    · simp only [partStep, h1, h3, if_true, Bool.false_eq_true, if_false]
      exact ⟨.inl rfl, ni, tWord, _, _, _, _, [c], kLetter, H', rfl, rfl, rfl, rfl, by simp, (fun q => by (first | exact no q | exact no1 q | exact no2 q | exact noE q | exact noE1 q | obtain rfl := Option.some.inj q | obtain rfl := Except.ok.inj q | obtain rfl := q | cases q)), m, J.le (by (first | lia | omega))⟩
  · -- a digit
    obtain ⟨H', e, m, J⟩ := ev_newPart (C := C) (t := t) (k := k) (tag := tPart) (l5 := l5) (l6 := l6) (l7 := l7) (sg := [c]) (kd := kDigit) I hb
    let st : St := s10 t qi k tPart (vs y.j) l5 l6 l7 [c] kDigit H
    refine ⟨.ret (.str eWord), s10 t qi k tMore (vs y.j) l5 l6 l7 [c] kDigit H', ?_, ?_⟩
    · have em : exec C rdMain st = ok (.ret (.str eWord)) (s10 t qi k tMore (vs y.j) l5 l6 l7 [c] kDigit H') := by
        rw [x_iteF (show evalE C _ st = ok (.bool false) st from rfl), x_iteT (show evalE C _ st = ok (.bool true) st from rfl)]
        rw [x_seq (st' := st) (by rw [x_iteF (show evalE C _ st = ok (.bool false) st from rfl)]; rfl), x_seq e]
        rfl
      show exec C _ st = _
      rw [x_seqR em]; rfl
    · simp only [partStep, h1, h2, h3, if_true, Bool.false_eq_true, if_false]
      exact ⟨rfl, J.pre⟩
  · -- a mark
    by_cases h4 : c = 42 ∨ c = 35 ∨ c = 46 ∨ c = 91
    · obtain ⟨H', e, m, J⟩ := ev_newPart (C := C) (t := t) (k := k) (tag := tPart) (l5 := l5) (l6 := l6) (l7 := l7) (sg := [c]) (kd := kMark) I hb
      let st : St := s10 t qi k tPart (vs y.j) l5 l6 l7 [c] kMark H
      have em : exec C rdMain st = ok .next (s10 t qi k tMore (vs y.j) l5 l6 l7 [c] kMark H') := by
        rw [x_iteF (show evalE C _ st = ok (.bool false) st from rfl), x_iteT (show evalE C _ st = ok (.bool true) st from rfl)]
        rw [x_seq (st' := st) (by
          rw [x_iteF (st' := st) (by
            show ok (V.bool (!(([[42], [35], [46], [91]] : List (List Nat)).contains [c]))) _ = _
            rcases h4 with rfl | rfl | rfl | rfl <;> rfl)]
          rfl), x_seq e]
        rfl
      rcases h4 with rfl | rfl | rfl | rfl
      · exact ⟨.next, _, by show exec C _ st = _; rw [x_seq em]; rfl, .inl rfl, ni, tMore, _, _, _, _, _, _, H', rfl, rfl, m, J.le (by (first | lia | omega))⟩
      · exact ⟨.next, _, by show exec C _ st = _; rw [x_seq em]; rfl, .inl rfl, ni, tWord, _, vs (sName .ids), vs [], _, _, _, H', rfl, rfl, rfl, rfl, Nat.zero_le _, (fun q => by (first | exact no q | exact no1 q | exact no2 q | exact noE q | exact noE1 q | obtain rfl := Option.some.inj q | obtain rfl := Except.ok.inj q | obtain rfl := q | cases q)), m, J.le (by (first | lia | omega))⟩
      · exact ⟨.next, _, by show exec C _ st = _; rw [x_seq em]; rfl, .inl rfl, ni, tWord, _, vs (sName .classes), vs [], _, _, _, H', rfl, rfl, rfl, rfl, Nat.zero_le _, (fun q => by (first | exact no q | exact no1 q | exact no2 q | exact noE q | exact noE1 q | obtain rfl := Option.some.inj q | obtain rfl := Except.ok.inj q | obtain rfl := q | cases q)), m, J.le (by (first | lia | omega))⟩
      · exact ⟨.next, _, by show exec C _ st = _; rw [x_seq em]; rfl, .inl rfl, ni, tBracket, _, _, _, _, _, _, H', rfl, rfl, m, J.le (by (first | lia | omega))⟩
    · simp only [not_or] at h4
      let st : St := s10 t qi k tPart (vs y.j) l5 l6 l7 [c] kMark H
      have em : exec C rdMain st = ok (.ret (.str ePart)) st := by
        rw [x_iteF (show evalE C _ st = ok (.bool false) st from rfl), x_iteT (show evalE C _ st = ok (.bool true) st from rfl)]
        refine x_seqR ?_
        rw [x_iteT (st' := st) (by
            show ok (V.bool (!(([[42], [35], [46], [91]] : List (List Nat)).contains [c]))) _ = _
            rw [show ([[42], [35], [46], [91]] : List (List Nat)).contains [c] = false from by simp [h4]]
            rfl)]
        rfl
      refine ⟨.ret (.str ePart), st, ?_, ?_⟩
      · show exec C _ st = _
        rw [x_seqR em]; rfl
      · simp only [partStep, h1, h2, h3, h4, Bool.false_eq_true, if_false]
        exact ⟨rfl, I.pre⟩

theorem Does.seq {S1 S2 : S} {b' : Nat} {q : Q} {x : Ctx} {f : Q → Ctx → Nat → M (Q × Ctx)} {e : Q → Ctx → M (List Chain)} {st st1 : St} (h : exec C S1 st = ok .next st1) (d : Does C S2 t k σ qi b' q x f e s st1) : Does C (.seq S1 S2) t k σ qi b' q x f e s st := by
  obtain ⟨fl, st2, e1, p⟩ := d
  exact ⟨fl, st2, by rw [x_seq h]; exact e1, p⟩

theorem tail_part {x : Ctx} (h : Inv σ H qi ni b .part x tPart l4 l5 l6 l7) (hb : b < lim) : Does C rdTail t k σ qi (b + 4) .part x step1 fin1 s (s10 t qi k tPart l4 l5 l6 l7 (s.take 1) (kindOf s) H) := by
  obtain ⟨_, rfl, I⟩ := id h
  rcases kind_cases s with ⟨rfl, hk⟩ | ⟨c, r, rfl, hh⟩
  · exact ⟨.ret (.str ePart), _, rfl, rfl, I.pre⟩
  · rcases hh with ⟨h1, hk⟩ | hh
    · rw [hk]
      refine ⟨.cont, _, rfl, ?_⟩
      simp only [step1, partStep, h1, if_true]
      exact ⟨.inr rfl, ni, _, _, _, _, _, _, _, H, rfl, rfl, rfl, I.le (by (first | lia | omega))⟩
    · have h1 : isSp c = false := by rcases hh with h | h | h <;> exact h.1
      have hkb : (kindOf (c :: r) == kBlank) = false := by rcases hh with h | h | h <;> rw [h.2.2.2] <;> rfl
      have d := main_part (C := C) (t := t) (k := k) (l5 := l5) (l6 := l6) (l7 := l7) (s := c :: r) I hb (fun c' r' e => by (first | exact no e | exact no1 e | exact no2 e | exact noE e | exact noE1 e | obtain rfl := Option.some.inj e | obtain rfl := Except.ok.inj e | obtain rfl := e | cases e); exact h1)
      generalize kindOf (c :: r) = kd at hkb d
      have e1 : exec C rdBlank (s10 t qi k tPart (vs x.j) l5 l6 l7 [c] kd H) = ok .next (s10 t qi k tPart (vs x.j) l5 l6 l7 [c] kd H) := by
        rw [x_iteF (st' := s10 t qi k tPart (vs x.j) l5 l6 l7 [c] kd H) (by show ok (V.bool (kd == kBlank)) _ = _; rw [hkb])]; rfl
      obtain ⟨fl, st2, e, p⟩ := Does.seq e1 (Does.seq (show exec C rdGap _ = ok .next (s10 t qi k tPart (vs x.j) l5 l6 l7 [c] kd H) from rfl) d)
      refine ⟨fl, st2, e, ?_⟩
      show Post t k σ qi (b + 4) fl st2 (partStep x c)
      exact Post.le (b := b + 1) p (by (first | lia | omega))

theorem tail_ends {x : Ctx} {m : Nat} (q : Q) (hq : q = .more ∨ q = .gap) (tg : List Nat) (htg : tg = tMore ∨ tg = tGap) (I : InvL σ H qi ni m b x) (hb : b + 2 < lim) {c : Nat} {r : List Nat} (hc : c = 44 ∨ c = 62 ∨ c = 43 ∨ c = 126) :
    Does C rdTail t k σ qi (b + 4) q x step1 fin1 (c :: r) (s10 t qi k tg l4 l5 l6 l7 [c] (kindOf (c :: r)) H) := by
  by_cases h44 : c = 44
  · subst h44
    obtain ⟨ws, e, lw, J⟩ := I.comma
    have hqi : qi < H.length := (List.getElem?_eq_some_iff.mp e).1
    have ea : exec C (.expr (.append (.loc 1) (.list .nil))) (s10 t qi k tg l4 l5 l6 l7 [44] kMark H) = ok .next (s10 t qi k tg l4 l5 l6 l7 [44] kMark ((H ++ [O.list []]).set qi (O.list (ws ++ [V.ref ni] ++ [V.ref H.length])))) := by
      refine x_expr (v := .none) ?_
      have e2 : (H ++ [O.list []])[qi]? = some (.list (ws ++ [V.ref ni])) := by rw [List.getElem?_append_left hqi]; exact e
      have hl : (ws ++ [V.ref ni]).length < lim := by simp; (first | lia | omega)
      rw [eE_append, show evalE C (.loc 1) (s10 t qi k tg l4 l5 l6 l7 [44] kMark H) = ok (.ref qi) (s10 t qi k tg l4 l5 l6 l7 [44] kMark H) from rfl, bd_ok]
      simp only [e]
      rw [show evalE C (.list .nil) (s10 t qi k tg l4 l5 l6 l7 [44] kMark H) = ok (.ref H.length) (s10 t qi k tg l4 l5 l6 l7 [44] kMark (H ++ [O.list []])) from rfl, bd_ok]
      simp only [e2, hl, if_true]
    let H' := (H ++ [O.list []]).set qi (O.list (ws ++ [V.ref ni] ++ [V.ref H.length]))
    have em : exec C rdMain (s10 t qi k tg l4 l5 l6 l7 [44] kMark H) = ok .next (s10 t qi k tPart (vs []) l5 l6 l7 [44] kMark H') := by
      rw [x_iteT (show evalE C _ (s10 t qi k tg l4 l5 l6 l7 [44] kMark H) = ok (.bool true) (s10 t qi k tg l4 l5 l6 l7 [44] kMark H) from by rcases htg with rfl | rfl <;> rfl)]
      rw [x_seq (st' := s10 t qi k tg l4 l5 l6 l7 [44] kMark H) rfl]
      rw [x_seq (st' := s10 t qi k tg l4 l5 l6 l7 [44] kMark H') (by rw [x_iteT (show evalE C _ (s10 t qi k tg l4 l5 l6 l7 [44] kMark H) = ok (.bool true) (s10 t qi k tg l4 l5 l6 l7 [44] kMark H) from rfl)]; exact ea)]
      rfl
    have p : Post t k σ qi (b + 4) .next (s10 t qi k tPart (vs []) l5 l6 l7 [44] kMark H') (.ok (.part, x.comma)) := ⟨.inl rfl, H.length, tPart, _, _, _, _, _, _, H', rfl, rfl, rfl, J.le (by (first | lia | omega))⟩
    refine ⟨.next, s10 t qi k tPart (vs []) l5 l6 l7 [44] kMark H', ?_, ?_⟩
    · show exec C rdTail (s10 t qi k tg l4 l5 l6 l7 [44] kMark H) = _
      rw [x_seq (show exec C rdBlank (s10 t qi k tg l4 l5 l6 l7 [44] kMark H) = ok .next (s10 t qi k tg l4 l5 l6 l7 [44] kMark H) from rfl), x_seq (show exec C rdGap (s10 t qi k tg l4 l5 l6 l7 [44] kMark H) = ok .next (s10 t qi k tg l4 l5 l6 l7 [44] kMark H) from by rcases htg with rfl | rfl <;> rfl), x_seq em]
      rfl
    · rcases hq with rfl | rfl <;> exact p
  · have hc' : c = 62 ∨ c = 43 ∨ c = 126 := by (first | lia | omega)
    have p : Post t k σ qi (b + 4) .next (s10 t qi k tPart (vs [c]) l5 l6 l7 [c] kMark H) (.ok (.part, x.join [c])) := ⟨.inl rfl, ni, tPart, _, _, _, _, _, _, H, rfl, rfl, rfl, I.laid.le (by (first | lia | omega))⟩
    refine ⟨.next, s10 t qi k tPart (vs [c]) l5 l6 l7 [c] kMark H, ?_, ?_⟩
    · rcases hc' with rfl | rfl | rfl <;> rcases htg with rfl | rfl <;> rfl
    · rcases hq with rfl | rfl <;> rcases hc' with rfl | rfl | rfl <;> exact p

theorem tail_more {x : Ctx} (h : Inv σ H qi ni b .more x tMore l4 l5 l6 l7) (hb : b + 2 < lim) : Does C rdTail t k σ qi (b + 4) .more x step1 fin1 s (s10 t qi k tMore l4 l5 l6 l7 (s.take 1) (kindOf s) H) := by
  obtain ⟨_, m, I⟩ := id h
  rcases kind_cases s with ⟨rfl, hk⟩ | ⟨c, r, rfl, hh⟩
  · exact ⟨.ret (.ref qi), _, rfl, rfl, I.pre, I.sel⟩
  · rcases hh with ⟨h1, hk⟩ | hh
    · rw [hk]
      refine ⟨.cont, _, rfl, ?_⟩
      simp only [step1, h1, if_true]
      exact ⟨.inr rfl, ni, _, _, _, _, _, _, _, H, rfl, rfl, m, I.le (by (first | lia | omega))⟩
    · have h1 : isSp c = false := by rcases hh with h | h | h <;> exact h.1
      by_cases hj : c = 44 ∨ c = 62 ∨ c = 43 ∨ c = 126
      · exact tail_ends .more (.inl rfl) tMore (.inl rfl) I hb hj
      by_cases hi : c = 35 ∨ c = 46 ∨ c = 91
      · rcases hi with rfl | rfl | rfl
        · exact ⟨.next, _, rfl, .inl rfl, ni, tWord, _, vs (sName .ids), vs [], _, _, _, H, rfl, rfl, rfl, rfl, Nat.zero_le _, (fun q => by (first | exact no q | exact no1 q | exact no2 q | exact noE q | exact noE1 q | obtain rfl := Option.some.inj q | obtain rfl := Except.ok.inj q | obtain rfl := q | cases q)), m, I.le (by (first | lia | omega))⟩
        · exact ⟨.next, _, rfl, .inl rfl, ni, tWord, _, vs (sName .classes), vs [], _, _, _, H, rfl, rfl, rfl, rfl, Nat.zero_le _, (fun q => by (first | exact no q | exact no1 q | exact no2 q | exact noE q | exact noE1 q | obtain rfl := Option.some.inj q | obtain rfl := Except.ok.inj q | obtain rfl := q | cases q)), m, I.le (by (first | lia | omega))⟩
        · exact ⟨.next, _, rfl, .inl rfl, ni, tBracket, _, _, _, _, _, _, H, rfl, rfl, m, I.le (by (first | lia | omega))⟩
      · simp only [not_or] at hj hi
        have hkb : (kindOf (c :: r) == kBlank) = false := by rcases hh with h | h | h <;> rw [h.2.2.2] <;> rfl
        generalize kindOf (c :: r) = kd at hkb
        let st : St := s10 t qi k tMore l4 l5 l6 l7 [c] kd H
        have e1 : exec C rdBlank st = ok .next st := by
          rw [x_iteF (st' := st) (by show ok (V.bool (kd == kBlank)) st = _; rw [hkb])]; rfl
        have em : exec C rdMain st = ok (.ret (.str eSign)) st := by
          rw [x_iteT (show evalE C _ st = ok (.bool true) st from rfl), x_seq (st' := st) rfl]
          refine x_seqR ?_
          rw [x_iteF (st' := st) (by show ok (V.bool ([c] == [44])) st = _; rw [beqF hj.1])]
          rw [x_iteT (st' := st) (by
            show ok (V.bool (!(([[62], [43], [126], [35], [46], [91]] : List (List Nat)).contains [c]))) _ = _
            rw [show ([[62], [43], [126], [35], [46], [91]] : List (List Nat)).contains [c] = false from by simp [hj, hi]]
            rfl)]
          rfl
        refine ⟨.ret (.str eSign), st, ?_, ?_⟩
        · show exec C rdTail st = _
          rw [x_seq e1, x_seq (show exec C rdGap st = ok .next st from rfl), x_seqR em]; rfl
        · have hjo : isJoint c = false := by simp [isJoint, hj]
          simp only [step1, h1, hj, hi, hjo, Bool.false_eq_true, if_false]
          exact ⟨rfl, I.pre⟩

theorem tail_gap {x : Ctx} (h : Inv σ H qi ni b .gap x tGap l4 l5 l6 l7) (hb : b + 2 < lim) : Does C rdTail t k σ qi (b + 4) .gap x step1 fin1 s (s10 t qi k tGap l4 l5 l6 l7 (s.take 1) (kindOf s) H) := by
  obtain ⟨_, m, I⟩ := id h
  rcases kind_cases s with ⟨rfl, hk⟩ | ⟨c, r, rfl, hh⟩
  · exact ⟨.ret (.ref qi), _, rfl, rfl, I.pre, I.sel⟩
  · rcases hh with ⟨h1, hk⟩ | hh
    · rw [hk]
      refine ⟨.cont, _, rfl, ?_⟩
      simp only [step1, h1, if_true]
      exact ⟨.inr rfl, ni, _, _, _, _, _, _, _, H, rfl, rfl, m, I.le (by (first | lia | omega))⟩
    · have h1 : isSp c = false := by rcases hh with h | h | h <;> exact h.1
      by_cases hj : c = 44 ∨ c = 62 ∨ c = 43 ∨ c = 126
      · exact tail_ends .gap (.inr rfl) tGap (.inr rfl) I hb hj
      · simp only [not_or] at hj
        have hkb : (kindOf (c :: r) == kBlank) = false := by rcases hh with h | h | h <;> rw [h.2.2.2] <;> rfl
        have d := main_part (C := C) (t := t) (k := k) (l5 := l5) (l6 := l6) (l7 := l7) (s := c :: r) (y := x.join [32]) I.laid (by (first | lia | omega)) (fun c' r' e => by (first | exact no e | exact no1 e | exact no2 e | exact noE e | exact noE1 e | obtain rfl := Option.some.inj e | obtain rfl := Except.ok.inj e | obtain rfl := e | cases e); exact h1)
        generalize kindOf (c :: r) = kd at hkb d
        let st : St := s10 t qi k tGap l4 l5 l6 l7 [c] kd H
        have e1 : exec C rdBlank st = ok .next st := by
          rw [x_iteF (st' := st) (by show ok (V.bool (kd == kBlank)) st = _; rw [hkb])]; rfl
        have eg : exec C rdGap st = ok .next (s10 t qi k tPart (vs [32]) l5 l6 l7 [c] kd H) := by
          rw [x_iteT (st' := st) (by
            show ok (V.bool (!(([[], [44], [62], [43], [126]] : List (List Nat)).contains [c]))) _ = _
            rw [show ([[], [44], [62], [43], [126]] : List (List Nat)).contains [c] = false from by simp [hj]]
            rfl)]
          rfl
        obtain ⟨fl, st2, e, p⟩ := Does.seq e1 (Does.seq eg d)
        refine ⟨fl, st2, e, ?_⟩
        have hjo : isJoint c = false := by simp [isJoint, hj]
        have : step1 .gap x c = partStep (x.join [32]) c := by
          simp only [step1, h1, hj, hjo, Bool.false_eq_true, if_false]
        show Post t k σ qi (b + 4) fl st2 (step1 .gap x c)
        rw [this]
        exact Post.le (b := b + 1 + 1) p (by (first | lia | omega))
end
end D
end Nt
end

section
set_option genSizeOf false
set_option genInjectivity false
set_option maxRecDepth 100000
set_option autoImplicit false
namespace Nt
namespace D

section
variable {C : Calls} {a b c : E} {st st1 st2 st3 : St} {u v w : V}
theorem ev_call3 {f : Nat} {r : Except (List Nat) V} {h : List O} (ha : evalE C a st = ok u st1) (hb : evalE C b st1 = ok v st2) (hc : evalE C c st2 = ok w st3) (hf : C f [u, v, w] st3.heap = some (r, h)) : evalE C (.call f (.cons a (.cons b (.cons c .nil)))) st = some (r, ⟨st3.loc, h⟩) := by
  simp only [eE_loc, eE_none, eE_bool, eE_int, eE_neg, eE_str, eE_op, eE_cmp, eE_between, eE_and, eE_or, eE_ifx, eE_nil, eE_cons, eE_tup, eE_list, eE_flist, eE_dict, eE_call, eE_len, eE_ord, eE_idx, eE_slice, eE_sliceFrom, eE_sliceTo, eE_append, eE_pop, eE_endswith, eE_replace, ha, hb, hc, bd_ok, hf]
end

section
variable {n : Nat} {t : List Nat} {k : Nat} {σ H : List O} {qi ni b : Nat} {x : Ctx} {l4 l5 l6 l7 : Option V} {s : List Nat} {tag sg kd : List Nat}

theorem ev_part {C : Calls} {m : Nat} (I : InvL σ H qi ni m b x) : evalE C (.idx (.idx (.idx (.loc 1) (.neg 1)) (.neg 1)) (.int 1)) (s10 t qi k tag l4 l5 l6 l7 sg kd H) = ok (.ref (m + 3)) (s10 t qi k tag l4 l5 l6 l7 sg kd H) := by
  obtain ⟨ws, e, _, _⟩ := I.outer
  obtain ⟨us, e', _, _⟩ := I.chain
  have h2 : evalE C (.idx (.idx (.loc 1) (.neg 1)) (.neg 1)) (s10 t qi k tag l4 l5 l6 l7 sg kd H) = ok (.tup [.str x.j, .ref (m + 3)]) (s10 t qi k tag l4 l5 l6 l7 sg kd H) := by
    rw [eE_idx, ev_last e, bd_ok]
    show lift (idxV H (.ref ni) (.int (-1))) _ = _
    simp only [idxV, e', pick_last]
    rfl
  rw [eE_idx, h2]
  rfl

/-- a word is taken -/
theorem ev_take {m : Nat} {srt : Srt} {w : List Nat} {es : E} (I : InvL σ H qi ni m b x) (hb : b + 2 < lim) (hv : srt = .value → x.p.attrs ≠ []) (hs : evalE (callN (n + 2)) es (s10 t qi k tag l4 l5 (vs w) l7 sg kd H) = ok (.str (sName srt)) (s10 t qi k tag l4 l5 (vs w) l7 sg kd H)) :
    ∃ H', exec (callN (n + 2)) (.assign 3 (.call 21 (.cons (.idx (.idx (.idx (.loc 1) (.neg 1)) (.neg 1)) (.int 1)) (.cons es (.cons (.loc 6) .nil))))) (s10 t qi k tag l4 l5 (vs w) l7 sg kd H) = ok .next (s10 t qi k (tagAfter srt) l4 l5 (vs w) l7 sg kd H') ∧ InvL σ H' qi ni m (b + 1) (x.take srt w) := by
  obtain ⟨H', e, L, A⟩ := c21 (n + 1) H m x.p srt w I.live (I.few.le (by (first | lia | omega))) hv
  have ec := ev_call3 (C := callN (n + 2)) (f := 21) (c := .loc 6) (u := .ref (m + 3)) (v := .str (sName srt)) (w := .str w) (st3 := s10 t qi k tag l4 l5 (vs w) l7 sg kd H) (ev_part I) hs rfl e
  exact ⟨H', x_assign ec, I.take L A⟩

theorem tail_all {C : Calls} {q : Q} (hq : ∀ t w, q ≠ .word t w) (hq' : ∀ t w, q ≠ .quoted t w) (h : Inv σ H qi ni b q x tag l4 l5 l6 l7) (hb : b + 2 < lim) : Does C rdTail t k σ qi (b + 4) q x step1 fin1 s (s10 t qi k tag l4 l5 l6 l7 (s.take 1) (kindOf s) H) := by
  cases q with
  | part => obtain ⟨rfl, h2⟩ := id h; exact tail_part h (by (first | lia | omega))
  | more => obtain ⟨rfl, h2⟩ := id h; exact tail_more h hb
  | gap => obtain ⟨rfl, h2⟩ := id h; exact tail_gap h hb
  | bracket => obtain ⟨rfl, h2⟩ := id h; exact tail_bracket h
  | named => obtain ⟨rfl, h2⟩ := id h; exact tail_named h
  | equal => obtain ⟨rfl, h2⟩ := id h; exact tail_equal h
  | valued => obtain ⟨rfl, h2⟩ := id h; exact tail_valued h
  | word t w => exact absurd rfl (hq t w)
  | quoted t w => exact absurd rfl (hq' t w)
theorem after_inv {m : Nat} {srt : Srt} {w : List Nat} (I : InvL σ H qi ni m b (x.take srt w)) : Inv σ H qi ni b (after srt) (x.take srt w) (tagAfter srt) l4 l5 l6 l7 := by
  cases srt with
  | name => exact ⟨rfl, m, I⟩
  | ids => exact ⟨rfl, m, I⟩
  | classes => exact ⟨rfl, m, I⟩
  | attr => exact ⟨rfl, by simp [Ctx.take, Part.take], m, I⟩
  | value => exact ⟨rfl, m, I⟩

theorem quot_skip {C : Calls} (ht : (tag == tQuoted) = false) : exec C rdQuot (s10 t qi k tag l4 l5 l6 l7 sg kd H) = ok .next (s10 t qi k tag l4 l5 l6 l7 sg kd H) := by
  rw [x_iteF (st' := s10 t qi k tag l4 l5 l6 l7 sg kd H) (by show ok (V.bool (tag == tQuoted)) _ = _; rw [ht])]
  rfl
theorem word_skip {C : Calls} (ht : (tag == tWord) = false) : exec C rdWord (s10 t qi k tag l4 l5 l6 l7 sg kd H) = ok .next (s10 t qi k tag l4 l5 l6 l7 sg kd H) := by
  rw [x_iteF (st' := s10 t qi k tag l4 l5 l6 l7 sg kd H) (by show ok (V.bool (tag == tWord)) _ = _; rw [ht])]
  rfl

theorem Does.stop {C : Calls} {S1 S2 : S} {b' : Nat} {q : Q} {f : Q → Ctx → Nat → M (Q × Ctx)} {e : Q → Ctx → M (List Chain)} {st st2 : St} {fl : Fl} (hfl : fl ≠ .next) (h : exec C S1 st = ok fl st2) (p : match s with
    | [] => PostE σ qi fl st2 (e q x)
    | c :: _ => Post t k σ qi b' fl st2 (f q x c)) : Does C (.seq S1 S2) t k σ qi b' q x f e s st := by
  refine ⟨fl, st2, ?_, p⟩
  simp only [eS_skip, eS_cont, eS_seq, eS_assign, eS_unpack, eS_aug, eS_setItem, eS_expr, eS_ret, eS_raise, eS_ite, eS_while, eS_forRange, eS_forList, h, bd_ok]
  cases fl with
  | next => exact absurd rfl hfl
  | cont => rfl
  | ret v => rfl

/-- within quotes -/
theorem does_quoted {qt : Nat} {w : List Nat} (h : Inv σ H qi ni b (.quoted qt w) x tag l4 l5 l6 l7) (hb : b + 2 < lim) :
    Does (callN (n + 2)) (.seq rdQuot rdTail) t k σ qi (b + 5) (.quoted qt w) x step1 fin1 s (s10 t qi k tag l4 l5 l6 l7 (s.take 1) (kindOf s) H) := by
  obtain ⟨rfl, rfl, rfl, hw, ha, m, I⟩ := id h
  generalize kindOf s = kd
  let st : St := s10 t qi k tQuoted l4 l5 (vs w) (vs [qt]) (s.take 1) kd H
  have t1 : evalE (callN (n + 2)) (.cmp .eq (.loc 3) (.str [113, 117, 111, 116, 101, 100])) st = ok (.bool true) st := rfl
  have t2 : evalE (callN (n + 2)) (.cmp .isIn (.loc 8) (.flist (.cons (.str []) (.cons (.str [92]) (.cons (.str [10]) (.cons (.str [13]) (.cons (.str [12]) .nil))))))) st = ok (.bool (([[], [92], [10], [13], [12]] : List (List Nat)).contains (s.take 1))) st := rfl
  cases s with
  | nil =>
    refine Does.stop (fl := .ret (.str eVal)) (by simp) (st2 := st) ?_ ⟨rfl, I.pre⟩
    rw [x_iteT t1, x_seqR (v := .str eVal) (st' := st) (by rw [x_iteT t2]; rfl)]
  | cons c r =>
    by_cases hc : c = 92 ∨ c = 10 ∨ c = 13 ∨ c = 12
    · have f2 : ([[], [92], [10], [13], [12]] : List (List Nat)).contains ((c :: r).take 1) = true := by rcases hc with rfl | rfl | rfl | rfl <;> rfl
      rw [f2] at t2
      refine Does.stop (fl := .ret (.str eVal)) (by simp) (st2 := st) ?_ ?_
      · rw [x_iteT t1, x_seqR (v := .str eVal) (st' := st) (by rw [x_iteT t2]; rfl)]
      · simp only [step1, hc, if_true]; exact ⟨rfl, I.pre⟩
    · have f2 : ([[], [92], [10], [13], [12]] : List (List Nat)).contains ((c :: r).take 1) = false := by
        simp only [not_or] at hc
        simp [hc]
      rw [f2] at t2
      have s1 : exec (callN (n + 2)) (.ite (.cmp .isIn (.loc 8) (.flist (.cons (.str []) (.cons (.str [92]) (.cons (.str [10]) (.cons (.str [13]) (.cons (.str [12]) .nil))))))) (.ret (.str [97, 32, 115, 101, 108, 101, 99, 116, 111, 114, 39, 115, 32, 118, 97, 108, 117, 101, 32, 105, 115, 32, 110, 111, 116, 32, 99, 108, 111, 115, 101, 100])) .skip) st = ok .next st := by rw [x_iteF t2]; rfl
      have t3 : evalE (callN (n + 2)) (.cmp .eq (.loc 8) (.loc 7)) st = ok (.bool ([c] == [qt])) st := rfl
      have add : ∀ (tg : List Nat) (G : List O), exec (callN (n + 2)) (.assign 6 (.op .add (.loc 6) (.loc 8))) (s10 t qi k tg l4 l5 (vs w) (vs [qt]) [c] kd G) = ok .next (s10 t qi k tg l4 l5 (vs (w ++ [c])) (vs [qt]) [c] kd G) := fun tg G => by
        refine x_assign (v := .str (w ++ [c])) (st' := s10 t qi k tg l4 l5 (vs w) (vs [qt]) [c] kd G) ?_
        have hz : w.length + [c].length ≤ lim := by simp; (first | lia | omega)
        show lift (if w.length + [c].length ≤ lim then some (V.str (w ++ [c])) else none) _ = _
        rw [if_pos hz]; rfl
      by_cases hq : c = qt
      · subst hq
        have f3 : (([c] : List Nat) == [c]) = true := by simp
        rw [f3] at t3
        obtain ⟨H', e, J⟩ := ev_take (n := n) (t := t) (k := k) (tag := tQuoted) (l4 := l4) (l5 := l5) (l7 := vs [c]) (sg := [c]) (kd := kd) (srt := .value) (w := w) (es := .str [118, 97, 108, 117, 101]) I hb (fun _ => ha) rfl
        refine Does.stop (fl := .cont) (by simp) (st2 := s10 t qi k tValued l4 l5 (vs (w ++ [c])) (vs [c]) [c] kd H') ?_ ?_
        · rw [x_iteT t1, x_seq s1, x_seq (by rw [x_iteT t3]; exact e), x_seq (add _ _)]
          rfl
        · simp only [step1, hc, if_true, if_false]
          exact ⟨.inr rfl, ni, tValued, _, _, _, _, _, _, H', rfl, rfl, m, J.le (by (first | lia | omega))⟩
      · rw [beqF hq] at t3
        refine Does.stop (fl := .cont) (by simp) (st2 := s10 t qi k tQuoted l4 l5 (vs (w ++ [c])) (vs [qt]) [c] kd H) ?_ ?_
        · rw [x_iteT t1, x_seq s1, x_seq (st' := st) (by rw [x_iteF t3]; rfl)]
          rw [show st = s10 t qi k tQuoted l4 l5 (vs w) (vs [qt]) [c] kd H from rfl, x_seq (add _ _)]
          rfl
        · simp only [step1, hc, hq, if_false]
          exact ⟨.inr rfl, ni, tQuoted, _, _, _, _, _, _, H, rfl, rfl, rfl, rfl, by simp; (first | lia | omega), ha, m, I.le (by (first | lia | omega))⟩

noncomputable abbrev rd3 : S := .seq rdWord (.seq rdQuot rdTail)
theorem contains_bare (w : List Nat) : ([[], [45]] : List (List Nat)).contains w = bareless w := by
  rw [Bool.eq_iff_iff]
  simp [bareless]

theorem Does.mono {C : Calls} {S0 : S} {b1 b2 : Nat} {q : Q} {f : Q → Ctx → Nat → M (Q × Ctx)} {e : Q → Ctx → M (List Chain)} {st : St} (d : Does C S0 t k σ qi b1 q x f e s st) (l : b1 ≤ b2) : Does C S0 t k σ qi b2 q x f e s st := by
  obtain ⟨fl, st2, h, p⟩ := d
  refine ⟨fl, st2, h, ?_⟩
  cases s with
  | nil => exact p
  | cons c r => exact Post.le p l

theorem does_all {q : Q} (h : Inv σ H qi ni b q x tag l4 l5 l6 l7) (hb : b + 4 < lim) :
    Does (callN (n + 2)) rd3 t k σ qi (b + 6) q x step fin s (s10 t qi k tag l4 l5 l6 l7 (s.take 1) (kindOf s) H) := by
  have plain : ∀ (q : Q), (∀ t w, q ≠ .word t w) → (∀ t w, q ≠ .quoted t w) → Inv σ H qi ni b q x tag l4 l5 l6 l7 → (tag == tWord) = false → (tag == tQuoted) = false → Does (callN (n + 2)) rd3 t k σ qi (b + 6) q x step fin s (s10 t qi k tag l4 l5 l6 l7 (s.take 1) (kindOf s) H) := by
    intro q h1 h2 h h3 h4
    have d := (Does.seq (word_skip h3) (Does.seq (quot_skip h4) (tail_all (C := callN (n + 2)) (t := t) (k := k) (s := s) h1 h2 h (by (first | lia | omega))))).mono (b2 := b + 6) (by (first | lia | omega))
    obtain ⟨fl, st2, e, p⟩ := d
    refine ⟨fl, st2, e, ?_⟩
    cases s with
    | nil => (first | exact no q | exact no1 q | exact no2 q | exact noE q | exact noE1 q | obtain rfl := Option.some.inj q | obtain rfl := Except.ok.inj q | obtain rfl := q | cases q) <;> first | exact p | exact absurd rfl (h1 _ _)
    | cons c r => (first | exact no q | exact no1 q | exact no2 q | exact noE q | exact noE1 q | obtain rfl := Option.some.inj q | obtain rfl := Except.ok.inj q | obtain rfl := q | cases q) <;> first | exact p | exact absurd rfl (h1 _ _)
  cases q with
  | part => obtain ⟨rfl, _⟩ := id h; exact plain _ (by simp) (by simp) h rfl rfl
  | more => obtain ⟨rfl, _⟩ := id h; exact plain _ (by simp) (by simp) h rfl rfl
  | gap => obtain ⟨rfl, _⟩ := id h; exact plain _ (by simp) (by simp) h rfl rfl
  | bracket => obtain ⟨rfl, _⟩ := id h; exact plain _ (by simp) (by simp) h rfl rfl
  | named => obtain ⟨rfl, _⟩ := id h; exact plain _ (by simp) (by simp) h rfl rfl
  | equal => obtain ⟨rfl, _⟩ := id h; exact plain _ (by simp) (by simp) h rfl rfl
  | valued => obtain ⟨rfl, _⟩ := id h; exact plain _ (by simp) (by simp) h rfl rfl
  | quoted qt w =>
    have ht : tag = tQuoted := h.1
    have hsk : (tag == tWord) = false := by rw [ht]; rfl
    obtain ⟨fl, st2, e, p⟩ := (Does.seq (word_skip hsk) (does_quoted (n := n) (t := t) (k := k) (s := s) h (by (first | lia | omega)))).mono (b2 := b + 6) (by (first | lia | omega))
    exact ⟨fl, st2, e, by (first | exact no s | exact no1 s | exact no2 s | exact noE s | exact noE1 s | obtain rfl := Option.some.inj s | obtain rfl := Except.ok.inj s | obtain rfl := s | cases s) <;> exact p⟩
  | word srt w =>
    obtain ⟨rfl, rfl, rfl, hw, hv, m, I⟩ := id h
    let st : St := s10 t qi k tWord l4 (vs (sName srt)) (vs w) l7 (s.take 1) (kindOf s) H
    have t1 : evalE (callN (n + 2)) (.cmp .eq (.loc 3) (.str [119, 111, 114, 100])) st = ok (.bool true) st := rfl
    have t2 : evalE (callN (n + 2)) (.or (.cmp .eq (.loc 9) (.str [108, 101, 116, 116, 101, 114])) (.and (.cmp .eq (.loc 9) (.str [100, 105, 103, 105, 116])) (.cmp .notIn (.loc 6) (.flist (.cons (.str []) (.cons (.str [45]) .nil)))))) st = ok (.bool (kindOf s == kLetter || (kindOf s == kDigit && !bareless w))) st := by
      refine ev_or' (ev_cmp' (u := .str (kindOf s)) (v := .str kLetter) rfl rfl rfl) fun _ => ev_and' (ev_cmp' (u := .str (kindOf s)) (v := .str kDigit) rfl rfl rfl) fun _ => ev_cmp' (u := .str w) (v := .lst [.str [], .str [45]]) rfl rfl ?_
      show some (!(([[], [45]] : List (List Nat)).contains w)) = _
      rw [contains_bare]
    have t3 : evalE (callN (n + 2)) (.or (.cmp .isIn (.loc 6) (.flist (.cons (.str []) (.cons (.str [45]) .nil)))) (.and (.cmp .eq (.loc 6) (.str [45, 45])) (.cmp .eq (.loc 8) (.str [62])))) st = ok (.bool (bareless w || (w == [45, 45] && s.take 1 == [62]))) st := by
      refine ev_or' (ev_cmp' (u := .str w) (v := .lst [.str [], .str [45]]) rfl rfl ?_) fun _ => ev_and' (ev_cmp' (u := .str w) (v := .str [45, 45]) rfl rfl rfl) fun _ => ev_cmp' (u := .str (s.take 1)) (v := .str [62]) rfl rfl rfl
      show some (([[], [45]] : List (List Nat)).contains w) = _
      rw [contains_bare]
    by_cases hgo : (kindOf s == kLetter || (kindOf s == kDigit && !bareless w)) = true
    · rw [hgo] at t2
      obtain ⟨c, r, rfl, hcc⟩ : ∃ c r, s = c :: r ∧ (isLt c || (isDg c && !bareless w)) = true := by
        rcases kind_cases s with ⟨rfl, hk⟩ | ⟨c, r, rfl, ⟨h1, hk⟩ | ⟨h1, h2, h3, hk⟩ | ⟨h1, h2, h3, hk⟩ | ⟨h1, h2, h3, hk⟩⟩ <;> rw [hk] at hgo
        · (first | exact no hgo | exact no1 hgo | exact no2 hgo | exact noE hgo | exact noE1 hgo | obtain rfl := Option.some.inj hgo | obtain rfl := Except.ok.inj hgo | obtain rfl := hgo | cases hgo)
        · (first | exact no hgo | exact no1 hgo | exact no2 hgo | exact noE hgo | exact noE1 hgo | obtain rfl := Option.some.inj hgo | obtain rfl := Except.ok.inj hgo | obtain rfl := hgo | cases hgo)
        · exact ⟨c, r, rfl, by rw [h3]; rfl⟩
        · exact ⟨c, r, rfl, by rw [h2, h3]; exact hgo⟩
        · (first | exact no hgo | exact no1 hgo | exact no2 hgo | exact noE hgo | exact noE1 hgo | obtain rfl := Option.some.inj hgo | obtain rfl := Except.ok.inj hgo | obtain rfl := hgo | cases hgo)
      refine Does.stop (fl := .cont) (by simp) (st2 := s10 t qi k tWord l4 (vs (sName srt)) (vs (w ++ [c])) l7 [c] (kindOf (c :: r)) H) ?_ ?_
      · rw [x_iteT t1]
        refine x_seqC ?_
        rw [x_iteT t2, x_seq (st' := s10 t qi k tWord l4 (vs (sName srt)) (vs (w ++ [c])) l7 [c] (kindOf (c :: r)) H) ?_]
        · rfl
        · refine x_assign (v := .str (w ++ [c])) (st' := st) ?_
          have hz : w.length + [c].length ≤ lim := by simp; (first | lia | omega)
          show lift (if w.length + [c].length ≤ lim then some (V.str (w ++ [c])) else none) _ = _
          rw [if_pos hz]; rfl
      · simp only [step, hcc, if_true]
        exact ⟨.inr rfl, ni, tWord, _, _, _, _, _, _, H, rfl, rfl, rfl, rfl, by simp; (first | lia | omega), hv, m, I.le (by (first | lia | omega))⟩
    · have hgo : (kindOf s == kLetter || (kindOf s == kDigit && !bareless w)) = false := by simpa using hgo
      rw [hgo] at t2
      have hno : ∀ c r, s = c :: r → (isLt c || (isDg c && !bareless w)) = false := by
        intro c r e
        rcases kind_cases s with ⟨rfl, hk⟩ | ⟨c', r', e', hh⟩
        · (first | exact no e | exact no1 e | exact no2 e | exact noE e | exact noE1 e | obtain rfl := Option.some.inj e | obtain rfl := Except.ok.inj e | obtain rfl := e | cases e)
        · rw [e] at e'; (first | exact no e' | exact no1 e' | exact no2 e' | exact noE e' | exact noE1 e' | obtain rfl := Option.some.inj e' | obtain rfl := Except.ok.inj e' | obtain rfl := e' | cases e')
          rcases hh with ⟨h1, hk⟩ | ⟨h1, h2, h3, hk⟩ | ⟨h1, h2, h3, hk⟩ | ⟨h1, h2, h3, hk⟩ <;> rw [hk] at hgo
          · rw [sp_not_lt h1, sp_not_dg h1]; rfl
          · (first | exact no hgo | exact no1 hgo | exact no2 hgo | exact noE hgo | exact noE1 hgo | obtain rfl := Option.some.inj hgo | obtain rfl := Except.ok.inj hgo | obtain rfl := hgo | cases hgo)
          · rw [h2, h3]; exact hgo
          · rw [h2, h3]; rfl
      have s1 : exec (callN (n + 2)) (.ite (.or (.cmp .eq (.loc 9) (.str [108, 101, 116, 116, 101, 114])) (.and (.cmp .eq (.loc 9) (.str [100, 105, 103, 105, 116])) (.cmp .notIn (.loc 6) (.flist (.cons (.str []) (.cons (.str [45]) .nil)))))) (.seq (.assign 6 (.op .add (.loc 6) (.loc 8))) .cont) .skip) st = ok .next st := by rw [x_iteF t2]; rfl
      by_cases hbad : (bareless w || (w == [45, 45] && s.take 1 == [62])) = true
      · rw [hbad] at t3
        refine Does.stop (fl := .ret (.str eWord)) (by simp) (st2 := st) ?_ ?_
        · rw [x_iteT t1, x_seq s1, x_seqR (v := .str eWord) (st' := st) (by rw [x_iteT t3]; rfl)]
        · cases s with
          | nil =>
            have hbl : bareless w = true := by simpa using hbad
            simp only [fin, hbl, if_true]
            exact ⟨rfl, I.pre⟩
          | cons c r =>
            have : (bareless w || (w == [45, 45] && c == 62)) = true := by simpa using hbad
            simp only [step, hno c r rfl, this, if_true, Bool.false_eq_true, if_false]
            exact ⟨rfl, I.pre⟩
      · have hbad : (bareless w || (w == [45, 45] && s.take 1 == [62])) = false := by simpa using hbad
        rw [hbad] at t3
        obtain ⟨H', e, J⟩ := ev_take (n := n) (t := t) (k := k) (tag := tWord) (l4 := l4) (l5 := vs (sName srt)) (l7 := l7) (sg := s.take 1) (kd := kindOf s) (srt := srt) (w := w) (es := .loc 5) I (by (first | lia | omega)) hv rfl
        have sw : exec (callN (n + 2)) rdWord st = ok .next (s10 t qi k (tagAfter srt) l4 (vs (sName srt)) (vs w) l7 (s.take 1) (kindOf s) H') := by
          rw [x_iteT t1, x_seq s1, x_seq (st' := st) (by rw [x_iteF t3]; rfl)]
          exact e
        have hnq : (tagAfter srt == tQuoted) = false := by (first | exact no srt | exact no1 srt | exact no2 srt | exact noE srt | exact noE1 srt | obtain rfl := Option.some.inj srt | obtain rfl := Except.ok.inj srt | obtain rfl := srt | cases srt) <;> rfl
        have d := (Does.seq sw (Does.seq (quot_skip hnq) (tail_all (C := callN (n + 2)) (t := t) (k := k) (s := s) (q := after srt) (by (first | exact no srt | exact no1 srt | exact no2 srt | exact noE srt | exact noE1 srt | obtain rfl := Option.some.inj srt | obtain rfl := Except.ok.inj srt | obtain rfl := srt | cases srt) <;> simp [after]) (by (first | exact no srt | exact no1 srt | exact no2 srt | exact noE srt | exact noE1 srt | obtain rfl := Option.some.inj srt | obtain rfl := Except.ok.inj srt | obtain rfl := srt | cases srt) <;> simp [after]) (after_inv J) (by (first | lia | omega))))).mono (b2 := b + 6) (by (first | lia | omega))
        obtain ⟨fl, st2, e2, p⟩ := d
        refine ⟨fl, st2, e2, ?_⟩
        cases s with
        | nil =>
          have hbl : bareless w = false := by simpa using hbad
          simp only [fin, hbl, Bool.false_eq_true, if_false]
          exact p
        | cons c r =>
          have : (bareless w || (w == [45, 45] && c == 62)) = false := by simpa using hbad
          simp only [step, hno c r rfl, this, Bool.false_eq_true, if_false]
          exact p
end
end D
end Nt
end

section
set_option genSizeOf false
set_option genInjectivity false
set_option maxRecDepth 100000
set_option autoImplicit false
namespace Nt
namespace D

noncomputable abbrev z10 (t : List Nat) (q : Nat) (l2 : Option V) (tag : List Nat) (l4 l5 l6 l7 l8 l9 : Option V) (H : List O) : St := ⟨[vs t, some (.ref q), l2, vs tag, l4, l5, l6, l7, l8, l9], H⟩
theorem range_cons (k n : Nat) : (List.range' k (n + 1)).map (fun i => V.int (Int.ofNat i)) = .int (k : Int) :: (List.range' (k + 1) n).map (fun i => V.int (Int.ofNat i)) := by
  rw [List.range'_succ]; rfl

theorem read_loop (n : Nat) (t : List Nat) (hz : t.length + 1 < fuel) (σ : List O) (qi : Nat) : ∀ (s : List Nat) (k : Nat), t.drop k = s → k ≤ t.length → ∀ (ni : Nat) (q : Q) (x : Ctx) (tag : List Nat) (l2 l4 l5 l6 l7 l8 l9 : Option V) (H : List O), Inv σ H qi ni (6 * k) q x tag l4 l5 l6 l7 →
    ∃ fl st2, forL 2 (exec (callN (n + 2)) rdBody) ((List.range' k (s.length + 1)).map fun i => .int (Int.ofNat i)) (z10 t qi l2 tag l4 l5 l6 l7 l8 l9 H) = some (.ok fl, st2) ∧ PostE σ qi fl st2 (run q x s) := by
  intro s
  have one : ∀ (s : List Nat) (k : Nat), t.drop k = s → k ≤ t.length → ∀ (ni : Nat) (q : Q) (x : Ctx) (tag : List Nat) (l2 l4 l5 l6 l7 l8 l9 : Option V) (H : List O), Inv σ H qi ni (6 * k) q x tag l4 l5 l6 l7 →
      Does (callN (n + 2)) rdBody t k σ qi (6 * (k + 1)) q x step fin s ((z10 t qi l2 tag l4 l5 l6 l7 l8 l9 H).put 2 (.int (k : Int))) := by
    intro s k hd hk ni q x tag l2 l4 l5 l6 l7 l8 l9 H I
    have flim : 6 * t.length + 10 < lim := by
      have : 6 * fuel + 10 < lim := by decide
      (first | lia | omega)
    have d := does_all (n := n) (t := t) (k := k) (s := s) I (by (first | lia | omega))
    have e1 : exec (callN (n + 2)) rdSign ((z10 t qi l2 tag l4 l5 l6 l7 l8 l9 H).put 2 (.int (k : Int))) = ok .next (z10 t qi (vi k) tag l4 l5 l6 l7 (vs (s.take 1)) l9 H) := by
      refine x_assign (v := .str (s.take 1)) (st' := z10 t qi (vi k) tag l4 l5 l6 l7 l8 l9 H) ?_
      show ok (V.str (sliceV t (k : Int) ((k : Int) + 1))) _ = _
      rw [slice1 t k hk, hd]
      rfl
    have ec := ev_call1 (C := callN (n + 2)) (f := 20) (a := .loc 8) (st := z10 t qi (vi k) tag l4 l5 l6 l7 (vs (s.take 1)) l9 H) (u := .str (s.take 1)) (st' := z10 t qi (vi k) tag l4 l5 l6 l7 (vs (s.take 1)) l9 H) rfl (c20' (n + 1) s H)
    have e2 : exec (callN (n + 2)) rdKind (z10 t qi (vi k) tag l4 l5 l6 l7 (vs (s.take 1)) l9 H) = ok .next (s10 t qi k tag l4 l5 l6 l7 (s.take 1) (kindOf s) H) := x_assign ec
    exact Does.mono (b1 := 6 * k + 6) (Does.seq e1 (Does.seq e2 d)) (by (first | lia | omega))
  induction s with
  | nil =>
    intro k hd hk ni q x tag l2 l4 l5 l6 l7 l8 l9 H I
    obtain ⟨fl, st2, e, p⟩ := one [] k hd hk ni q x tag l2 l4 l5 l6 l7 l8 l9 H I
    have p : PostE σ qi fl st2 (fin q x) := p
    refine ⟨fl, st2, ?_, p⟩
    rw [show ([] : List Nat).length + 1 = 0 + 1 from rfl, range_cons]
    simp only [forL, e]
    cases hf : fin q x with
    | ok cs => rw [hf] at p; rw [p.1]; rfl
    | error er => rw [hf] at p; rw [p.1]; rfl
  | cons c r ih =>
    intro k hd hk ni q x tag l2 l4 l5 l6 l7 l8 l9 H I
    obtain ⟨hkc, hd1, hk1⟩ := drop_cons hd
    obtain ⟨fl, st2, e, p⟩ := one (c :: r) k hd hk ni q x tag l2 l4 l5 l6 l7 l8 l9 H I
    have p : Post t k σ qi (6 * (k + 1)) fl st2 (step q x c) := p
    rw [show (c :: r).length + 1 = (r.length + 1) + 1 from rfl, range_cons, run_step]
    simp only [forL, e]
    cases hf : step q x c with
    | error er =>
      rw [hf] at p
      obtain ⟨rfl, hp⟩ := p
      exact ⟨_, st2, rfl, rfl, hp⟩
    | ok y =>
      obtain ⟨q', x'⟩ := y
      rw [hf] at p
      obtain ⟨hfl, ni', tag', l4', l5', l6', l7', sg, kd, H', rfl, I'⟩ := p
      obtain ⟨fl2, st3, e2, p2⟩ := ih (k + 1) hd1 hk1 ni' q' x' tag' (vi k) l4' l5' l6' l7' (vs sg) (vs kd) H' I'
      refine ⟨fl2, st3, ?_, p2⟩
      rcases hfl with rfl | rfl <;> exact e2

theorem runBody_of {C : Calls} {ns : Nat} {b : S} {args : List V} {h : List O} {st st2 : St} {v : V} (hst : (⟨args.map some ++ List.replicate (ns - args.length) Option.none, h⟩ : St) = st) (he : exec C b st = some (.ok (.ret v), st2)) : runBody C ns b args h = some (.ok v, st2.heap) := by
  unfold runBody
  rw [hst, he]
theorem body22_eq : body_law_read = .seq (.assign 1 (.list (.cons (.list .nil) .nil))) (.seq (.unpack [3, 4, 5, 6, 7] (.tup (.cons (.str [112, 97, 114, 116]) (.cons (.str []) (.cons (.str []) (.cons (.str []) (.cons (.str []) .nil))))))) (.forRange 2 (.op .add (.len (.loc 0)) (.int 1)) rdBody)) := by
  unfold body_law_read rdBody rdSign rdKind rdWord rdQuot rdBlank rdGap rdMain rdBr rdHash
  rfl
theorem callN_eq {n i np ns : Nat} {b : S} {args : List V} {σ : List O} (hi : i ≠ 23) (hb : bodyOf i = some (np, ns, b)) (hl : args.length = np) : callN (n + 1) i args σ = runBody (callN n) ns b args σ := by
  simp only [callN, if_neg hi, hb, hl, if_true]
theorem c22 (n : Nat) (t : List Nat) (hz : t.length + 1 < fuel) (σ : List O) :
    ∃ τ, (∃ e, callN (n + 3) 22 [.str t] σ = some (.ok (.str e), σ ++ τ) ∧ run .part ctx0 t = .error e) ∨
      ∃ q cs, callN (n + 3) 22 [.str t] σ = some (.ok (.ref q), σ ++ τ) ∧ run .part ctx0 t = .ok cs ∧ RepSel (fun _ => True) (σ ++ τ) q cs := by
  have hrun : callN (n + 3) 22 [.str t] σ = runBody (callN (n + 2)) 10 body_law_read [.str t] σ := callN_eq (by decide) (show bodyOf 22 = some (1, 10, body_law_read) from rfl) rfl
  simp only [hrun]
  let H0 : List O := σ ++ [O.list []] ++ [O.list [V.ref σ.length]]
  have hl1 : (σ ++ [O.list []]).length = σ.length + 1 := by simp
  have x0 : exec (callN (n + 2)) (.assign 1 (.list (.cons (.list .nil) .nil))) ⟨[vs t, none, none, none, none, none, none, none, none, none], σ⟩ = ok .next ⟨[vs t, some (.ref (σ.length + 1)), none, none, none, none, none, none, none, none], H0⟩ := by
    rw [← hl1]
    rfl
  have x1 : exec (callN (n + 2)) (.unpack [3, 4, 5, 6, 7] (.tup (.cons (.str [112, 97, 114, 116]) (.cons (.str []) (.cons (.str []) (.cons (.str []) (.cons (.str []) .nil))))))) ⟨[vs t, some (.ref (σ.length + 1)), none, none, none, none, none, none, none, none], H0⟩ = ok .next (z10 t (σ.length + 1) none tPart (vs []) (vs []) (vs []) (vs []) none none H0) := rfl
  have I0 : InvP σ H0 (σ.length + 1) σ.length (6 * 0) [] [] := by
    refine ⟨(Pre.more (Pre.more fun j hj => rfl)), by (first | lia | omega), Nat.le_refl _, by (first | lia | omega), ⟨[], ?_, Nat.zero_le _, trivial⟩, ⟨[], ?_, Nat.zero_le _, trivial⟩⟩
    · show (σ ++ [O.list []] ++ [O.list [V.ref σ.length]])[σ.length + 1]? = _
      rw [← hl1]; simp
    · show (σ ++ [O.list []] ++ [O.list [V.ref σ.length]])[σ.length]? = _
      rw [List.getElem?_append_left (by simp)]; simp
  obtain ⟨fl, st2, e, p⟩ := read_loop n t hz σ (σ.length + 1) t 0 rfl (Nat.zero_le _) σ.length .part ctx0 tPart none (vs []) (vs []) (vs []) (vs []) none none H0 ⟨rfl, rfl, I0⟩
  have ef : exec (callN (n + 2)) (.forRange 2 (.op .add (.len (.loc 0)) (.int 1)) rdBody) (z10 t (σ.length + 1) none tPart (vs []) (vs []) (vs []) (vs []) none none H0) = some (.ok fl, st2) := by
    have el : evalE (callN (n + 2)) (.op .add (.len (.loc 0)) (.int 1)) (z10 t (σ.length + 1) none tPart (vs []) (vs []) (vs []) (vs []) none none H0) = ok (.int ((t.length : Int) + 1)) (z10 t (σ.length + 1) none tPart (vs []) (vs []) (vs []) (vs []) none none H0) := rfl
    have hbnd : (0 : Int) ≤ (t.length : Int) + 1 ∧ (t.length : Int) + 1 < 2 ^ 40 := by
      have : fuel = 1000000 := rfl
      (first | lia | omega)
    rw [eS_forRange, el, bd_ok]
    simp only [if_pos hbnd]
    rw [show ((t.length : Int) + 1).toNat = t.length + 1 from by (first | lia | omega), List.range_eq_range']
    exact e
  have hx : exec (callN (n + 2)) body_law_read ⟨[vs t, none, none, none, none, none, none, none, none, none], σ⟩ = some (.ok fl, st2) := by
    rw [body22_eq, x_seq x0, x_seq x1]
    exact ef
  have hret : ∀ v, fl = .ret v → runBody (callN (n + 2)) 10 body_law_read [.str t] σ = some (.ok v, st2.heap) := fun v e => by
    subst e
    exact runBody_of rfl hx
  cases hr : run .part ctx0 t with
  | error er =>
    rw [hr] at p
    obtain ⟨rfl, hp⟩ := p
    obtain ⟨τ, hτ⟩ := hp.app
    exact ⟨τ, .inl ⟨er, by rw [← hτ]; exact hret _ rfl, rfl⟩⟩
  | ok cs =>
    rw [hr] at p
    obtain ⟨rfl, hp, hs⟩ := p
    obtain ⟨τ, hτ⟩ := hp.app
    exact ⟨τ, .inr ⟨σ.length + 1, cs, by rw [← hτ]; exact hret _ rfl, rfl, by rw [← hτ]; exact hs⟩⟩
end D
end Nt
end

section
set_option genSizeOf false
set_option genInjectivity false
set_option maxRecDepth 100000
set_option autoImplicit false
namespace Nt
namespace D

theorem len_err {e : List Nat} (h : e = eWord ∨ e = eVal ∨ e = eBrk ∨ e = ePart ∨ e = eSign ∨ e = []) : e.length ≤ lim := by
  rcases h with rfl | rfl | rfl | rfl | rfl | rfl <;> decide
noncomputable def IsErr (e : List Nat) : Prop := e = eWord ∨ e = eVal ∨ e = eBrk ∨ e = ePart ∨ e = eSign ∨ e = []
theorem partStep_err {x : Ctx} {c : Nat} {e : List Nat} (h : partStep x c = .error e) : IsErr e := by
  unfold partStep at h
  repeat' (split at h)
  all_goals first | ((first | exact no h | exact no1 h | exact no2 h | exact noE h | exact noE1 h | obtain rfl := Option.some.inj h | obtain rfl := Except.ok.inj h | obtain rfl := h | cases h); unfold IsErr; simp) | (first | exact no h | exact no1 h | exact no2 h | exact noE h | exact noE1 h | obtain rfl := Option.some.inj h | obtain rfl := Except.ok.inj h | obtain rfl := h | cases h)
theorem step1_err {q : Q} {x : Ctx} {c : Nat} {e : List Nat} (h : step1 q x c = .error e) : IsErr e := by
  (first | exact no q | exact no1 q | exact no2 q | exact noE q | exact noE1 q | obtain rfl := Option.some.inj q | obtain rfl := Except.ok.inj q | obtain rfl := q | cases q) <;> simp only [step1] at h
  case part => exact partStep_err h
  case gap =>
    repeat' (split at h)
    all_goals first | exact partStep_err h | ((first | exact no h | exact no1 h | exact no2 h | exact noE h | exact noE1 h | obtain rfl := Option.some.inj h | obtain rfl := Except.ok.inj h | obtain rfl := h | cases h); unfold IsErr; simp) | (first | exact no h | exact no1 h | exact no2 h | exact noE h | exact noE1 h | obtain rfl := Option.some.inj h | obtain rfl := Except.ok.inj h | obtain rfl := h | cases h)
  all_goals
    repeat' (split at h)
    all_goals first | ((first | exact no h | exact no1 h | exact no2 h | exact noE h | exact noE1 h | obtain rfl := Option.some.inj h | obtain rfl := Except.ok.inj h | obtain rfl := h | cases h); unfold IsErr; simp) | (first | exact no h | exact no1 h | exact no2 h | exact noE h | exact noE1 h | obtain rfl := Option.some.inj h | obtain rfl := Except.ok.inj h | obtain rfl := h | cases h)
theorem step_err {q : Q} {x : Ctx} {c : Nat} {e : List Nat} (h : step q x c = .error e) : IsErr e := by
  (first | exact no q | exact no1 q | exact no2 q | exact noE q | exact noE1 q | obtain rfl := Option.some.inj q | obtain rfl := Except.ok.inj q | obtain rfl := q | cases q)
  case word t w =>
    simp only [step] at h
    split at h
    · (first | exact no h | exact no1 h | exact no2 h | exact noE h | exact noE1 h | obtain rfl := Option.some.inj h | obtain rfl := Except.ok.inj h | obtain rfl := h | cases h)
    · split at h
      · (first | exact no h | exact no1 h | exact no2 h | exact noE h | exact noE1 h | obtain rfl := Option.some.inj h | obtain rfl := Except.ok.inj h | obtain rfl := h | cases h); unfold IsErr; simp
      · exact step1_err h
  all_goals (simp only [step] at h; exact step1_err h)
theorem fin1_err {q : Q} {x : Ctx} {e : List Nat} (h : fin1 q x = .error e) : IsErr e := by
  (first | exact no q | exact no1 q | exact no2 q | exact noE q | exact noE1 q | obtain rfl := Option.some.inj q | obtain rfl := Except.ok.inj q | obtain rfl := q | cases q) <;> simp only [fin1] at h <;> (first | exact no h | exact no1 h | exact no2 h | exact noE h | exact noE1 h | obtain rfl := Option.some.inj h | obtain rfl := Except.ok.inj h | obtain rfl := h | cases h) <;> unfold IsErr <;> simp
theorem run_isErr : ∀ (s : List Nat) (q : Q) (x : Ctx) (e : List Nat), run q x s = .error e → IsErr e := by
  intro s
  induction s with
  | nil =>
    intro q x e h
    have h : fin q x = .error e := h
    (first | exact no q | exact no1 q | exact no2 q | exact noE q | exact noE1 q | obtain rfl := Option.some.inj q | obtain rfl := Except.ok.inj q | obtain rfl := q | cases q)
    case word t w =>
      simp only [fin] at h
      split at h
      · (first | exact no h | exact no1 h | exact no2 h | exact noE h | exact noE1 h | obtain rfl := Option.some.inj h | obtain rfl := Except.ok.inj h | obtain rfl := h | cases h); unfold IsErr; simp
      · exact fin1_err h
    all_goals (simp only [fin] at h; exact fin1_err h)
  | cons c s ih =>
    intro q x e h
    rw [run_step] at h
    split at h
    · exact ih _ _ _ h
    · rename_i hs
      (first | exact no h | exact no1 h | exact no2 h | exact noE h | exact noE1 h | obtain rfl := Option.some.inj h | obtain rfl := Except.ok.inj h | obtain rfl := h | cases h)
      exact step_err hs

theorem c23 (n : Nat) (t : List Nat) (hz : t.length + 1 < fuel) (nm : NM t) (σ : List O) :
    ∃ τ, (∃ e, callN (n + 9) 23 [.str t] σ = some (.ok (.str e), σ ++ τ) ∧ run .part ctx0 t = .error e) ∨
      ∃ q cs, callN (n + 9) 23 [.str t] σ = some (.ok (.ref q), σ ++ τ) ∧ run .part ctx0 t = .ok cs ∧ RepSel (fun _ => True) (σ ++ τ) q cs := by
  obtain ⟨τ, ⟨e, h1, h2⟩ | ⟨q, cs, h1, h2, h3⟩⟩ := c10 n t hz nm σ
  · refine ⟨τ, .inl ⟨e, ?_, h2⟩⟩
    have := len_err (run_isErr _ _ _ _ h2)
    show (match callN (n + 8) 10 [.str t] σ with
      | some (Except.error w, h) => if w.length ≤ lim then some (Except.ok (V.str w), h) else Option.none
      | r => r) = _
    rw [h1]
    simp only [this, if_true]
  · refine ⟨τ, .inr ⟨q, cs, ?_, h2, h3⟩⟩
    show (match callN (n + 8) 10 [.str t] σ with
      | some (Except.error w, h) => if w.length ≤ lim then some (Except.ok (V.str w), h) else Option.none
      | r => r) = _
    rw [h1]

/-- the hand: a script and a place -/
noncomputable def HandAt (g : Nat) (H : List O) : Prop := ∃ (sc : List Int) (place : Nat), sc ≠ [] ∧ sc.length ≤ 63 ∧ H[g]? = some (.list [.lst (sc.map .int), .int (place : Nat)])
structure Grow (g : Nat) (H H' : List O) : Prop where
  len : H.length ≤ H'.length
  same : ∀ j o, j ≠ g → H[j]? = some o → H'[j]? = some o
theorem Grow.refl (g : Nat) (H : List O) : Grow g H H := ⟨Nat.le_refl _, fun _ _ _ h => h⟩
theorem Grow.trans {g : Nat} {H H' H'' : List O} (a : Grow g H H') (b : Grow g H' H'') : Grow g H H'' := ⟨Nat.le_trans a.len b.len, fun j o n h => b.same j o n (a.same j o n h)⟩
theorem HandAt.lt {g : Nat} {H : List O} (h : HandAt g H) : g < H.length := let ⟨_, _, _, _, e⟩ := h; (List.getElem?_eq_some_iff.mp e).1

theorem ev_op {C : Calls} {o : Op2} {a b : E} {st st1 st2 : St} {x y v : V} (ha : evalE C a st = ok x st1) (hb : evalE C b st1 = ok y st2) (h : opV o x y = some v) : evalE C (.op o a b) st = ok v st2 := by
  rw [eE_op, ha, bd_ok, hb, bd_ok, h]; rfl
theorem c11 (n g size : Nat) (H : List O) (hs : 0 < size) (h : HandAt g H) : ∃ r H', r < size ∧ callN (n + 1) 11 [.ref g, .int (size : Nat)] H = some (.ok (.int (r : Nat)), H') ∧ HandAt g H' ∧ Grow g H H' ∧ H'.length = H.length := by
  obtain ⟨sc, place, h1, h2, h3⟩ := h
  have hl : 0 < sc.length := List.length_pos_iff.mpr h1
  have hm : place % sc.length < sc.length := Nat.mod_lt _ hl
  let z : Int := Int.fmod (sc[place % sc.length] + Int.fdiv (place : Int) (sc.length : Int)) (size : Int)
  have z0 : 0 ≤ z := Int.fmod_nonneg_of_pos _ (by (first | lia | omega))
  have z1 : z < size := Int.fmod_lt_of_pos _ (by (first | lia | omega))
  let H' := H.set g (.list [.lst (sc.map .int), .int ((place + 1 : Nat) : Int)])
  have hg : g < H.length := (List.getElem?_eq_some_iff.mp h3).1
  have hs' : H'[g]? = some (.list [.lst (sc.map .int), .int ((place + 1 : Nat) : Int)]) := List.getElem?_set_self hg
  refine ⟨z.toNat, H', by (first | lia | omega), ?_, ⟨sc, place + 1, h1, h2, hs'⟩, ⟨by simp [H'], fun j o nj e => by rw [List.getElem?_set_ne (Ne.symm nj)]; exact e⟩, by simp [H']⟩
  rw [callN_eq (by decide) (show bodyOf 11 = some (2, 4, body_law_draw) from rfl) rfl]
  have hz : ((z.toNat : Nat) : Int) = z := Int.toNat_of_nonneg z0
  have x1 : exec (callN n) (.assign 2 (.idx (.loc 0) (.int 0))) ⟨[some (.ref g), some (.int size), none, none], H⟩ = ok .next ⟨[some (.ref g), some (.int size), some (.lst (sc.map .int)), none], H⟩ := by
    refine x_assign (v := .lst (sc.map .int)) (st' := ⟨[some (.ref g), some (.int size), none, none], H⟩) ?_
    simp [eE_loc, eE_none, eE_bool, eE_int, eE_neg, eE_str, eE_op, eE_cmp, eE_between, eE_and, eE_or, eE_ifx, eE_nil, eE_cons, eE_tup, eE_list, eE_flist, eE_dict, eE_call, eE_len, eE_ord, eE_idx, eE_slice, eE_sliceFrom, eE_sliceTo, eE_append, eE_pop, eE_endswith, eE_replace, bd, ok, idxV, h3, pick, lift]
  have x2 : exec (callN n) (.assign 3 (.idx (.loc 0) (.int 1))) ⟨[some (.ref g), some (.int size), some (.lst (sc.map .int)), none], H⟩ = ok .next ⟨[some (.ref g), some (.int size), some (.lst (sc.map .int)), vi place], H⟩ := by
    refine x_assign (v := .int place) (st' := ⟨[some (.ref g), some (.int size), some (.lst (sc.map .int)), none], H⟩) ?_
    simp [eE_loc, eE_none, eE_bool, eE_int, eE_neg, eE_str, eE_op, eE_cmp, eE_between, eE_and, eE_or, eE_ifx, eE_nil, eE_cons, eE_tup, eE_list, eE_flist, eE_dict, eE_call, eE_len, eE_ord, eE_idx, eE_slice, eE_sliceFrom, eE_sliceTo, eE_append, eE_pop, eE_endswith, eE_replace, bd, ok, idxV, h3, pick, lift]
  have x3 : exec (callN n) (.setItem (.loc 0) (.int 1) (.op .add (.loc 3) (.int 1))) ⟨[some (.ref g), some (.int size), some (.lst (sc.map .int)), vi place], H⟩ = ok .next ⟨[some (.ref g), some (.int size), some (.lst (sc.map .int)), vi place], H'⟩ := by
    simp [eS_skip, eS_cont, eS_seq, eS_assign, eS_unpack, eS_aug, eS_setItem, eS_expr, eS_ret, eS_raise, eS_ite, eS_while, eS_forRange, eS_forList, eE_loc, eE_none, eE_bool, eE_int, eE_neg, eE_str, eE_op, eE_cmp, eE_between, eE_and, eE_or, eE_ifx, eE_nil, eE_cons, eE_tup, eE_list, eE_flist, eE_dict, eE_call, eE_len, eE_ord, eE_idx, eE_slice, eE_sliceFrom, eE_sliceTo, eE_append, eE_pop, eE_endswith, eE_replace, bd, ok, lift, opV, storeV, h3, H']
  have e4 : evalE (callN n) (.op .mod (.op .add (.idx (.loc 2) (.op .mod (.loc 3) (.len (.loc 2)))) (.op .fdiv (.loc 3) (.len (.loc 2)))) (.loc 1)) ⟨[some (.ref g), some (.int size), some (.lst (sc.map .int)), vi place], H'⟩ = ok (.int z) ⟨[some (.ref g), some (.int size), some (.lst (sc.map .int)), vi place], H'⟩ := by
    have f1 : (Int.fmod (place : Int) (sc.length : Int)) = ((place % sc.length : Nat) : Int) := (Int.ofNat_fmod _ _).symm
    have p1 : pick (sc.map V.int) (Int.fmod (place : Int) (sc.length : Int)) = some (.int sc[place % sc.length]) := by
      rw [f1]
      unfold pick
      rw [if_pos (by (first | lia | omega)), Int.toNat_natCast, List.getElem?_map, List.getElem?_eq_getElem hm]
      rfl
    have n0 : ((sc.map V.int).length : Int) ≠ 0 := by simp; (first | lia | omega)
    have hb : (0 : Int) < ((sc.map V.int).length : Int) ∧ ((sc.map V.int).length : Int) < 1000000 := by simp; (first | lia | omega)
    have sz : (size : Int) ≠ 0 := by (first | lia | omega)
    let st : St := ⟨[some (.ref g), some (.int size), some (.lst (sc.map .int)), vi place], H'⟩
    have hll : ((sc.map V.int).length : Int) = (sc.length : Int) := by simp
    have l2 : evalE (callN n) (.len (.loc 2)) st = ok (.int (sc.length : Int)) st := by
      rw [← hll]; rfl
    rw [hll] at n0 hb
    have a1 : evalE (callN n) (.op .mod (.loc 3) (.len (.loc 2))) st = ok (.int (Int.fmod (place : Int) (sc.length : Int))) st := ev_op (x := .int place) rfl l2 (by simp only [opV, n0, if_false])
    have a2 : evalE (callN n) (.idx (.loc 2) (.op .mod (.loc 3) (.len (.loc 2)))) st = ok (.int sc[place % sc.length]) st := by
      rw [eE_idx, show evalE (callN n) (.loc 2) st = ok (.lst (sc.map .int)) st from rfl, bd_ok, a1, bd_ok]
      simp only [idxV, p1]
      rfl
    have a3 : evalE (callN n) (.op .fdiv (.loc 3) (.len (.loc 2))) st = ok (.int (Int.fdiv (place : Int) (sc.length : Int))) st := ev_op (x := .int place) rfl l2 (by simp only [opV, hb, and_self, if_true])
    exact ev_op (ev_op a2 a3 rfl) (show evalE (callN n) (.loc 1) st = ok (.int size) st from rfl) (by simp only [opV, sz, if_false]; rfl)
  refine runBody_of (st := ⟨[some (.ref g), some (.int size), none, none], H⟩) (st2 := ⟨[some (.ref g), some (.int size), some (.lst (sc.map .int)), vi place], H'⟩) rfl ?_
  unfold body_law_draw
  rw [x_seq x1, x_seq x2, x_seq x3, x_ret e4, hz]
  rfl

theorem ev_draw (n g size : Nat) {st : St} (hs : 0 < size) (hl : st.loc[0]? = some (some (.ref g))) (h : HandAt g st.heap) : ∃ r H', r < size ∧ evalE (callN (n + 1)) (.call 11 (.cons (.loc 0) (.cons (.int size) .nil))) st = ok (.int (r : Nat)) ⟨st.loc, H'⟩ ∧ HandAt g H' ∧ Grow g st.heap H' ∧ H'.length = st.heap.length := by
  obtain ⟨r, H', h1, h2, h3, h4, h5⟩ := c11 n g size st.heap hs h
  refine ⟨r, H', h1, ?_, h3, h4, h5⟩
  exact ev_call2 (u := .ref g) (v := .int size) (st' := st) (st'' := st) (by simp only [eE_loc, eE_none, eE_bool, eE_int, eE_neg, eE_str, eE_op, eE_cmp, eE_between, eE_and, eE_or, eE_ifx, eE_nil, eE_cons, eE_tup, eE_list, eE_flist, eE_dict, eE_call, eE_len, eE_ord, eE_idx, eE_slice, eE_sliceFrom, eE_sliceTo, eE_append, eE_pop, eE_endswith, eE_replace, hl]) rfl h2

theorem ev_idx {C : Calls} {es i : E} {st st2 : St} {ws : List V} {r : Nat} {v : V} (h1 : evalE C es st = ok (.lst ws) st) (h2 : evalE C i st = ok (.int (r : Nat)) st2) (h3 : ws[r]? = some v) : evalE C (.idx (.flist es) i) st = ok v st2 := by
  rw [eE_idx, eE_flist, h1, bd_ok, h2, bd_ok]
  simp only [idxV, pick, if_pos (show (0 : Int) ≤ (r : Int) from by (first | lia | omega)), Int.toNat_natCast, h3]
  rfl

noncomputable def words : List (List Nat) := [[97], [45, 98], [90, 57], [45, 45], [128, 45, 49], [45, 45, 49], [95, 120, 45]]
noncomputable def gaps : List (List Nat) := [[], [32], [], [9, 13], [10, 12, 32]]
theorem at_mem {α : Type} {l : List α} {r : Nat} (h : r < l.length) : ∃ v ∈ l, l[r]? = some v := ⟨l[r], List.getElem_mem h, List.getElem?_eq_getElem h⟩

theorem c12 (n g : Nat) (H : List O) (h : HandAt g H) : ∃ w ∈ words, ∃ H', callN (n + 2) 12 [.ref g] H = some (.ok (.str w), H') ∧ HandAt g H' ∧ Grow g H H' ∧ H'.length = H.length := by
  obtain ⟨r, H', h1, h2, h3, h4, h5⟩ := ev_draw n g 7 (st := ⟨[some (.ref g)], H⟩) (by (first | lia | omega)) rfl h
  obtain ⟨w, hw, hr⟩ := at_mem (l := words) (r := r) h1
  refine ⟨w, hw, H', ?_, h3, h4, h5⟩
  rw [callN_eq (by decide) (show bodyOf 12 = some (1, 1, body_law_word) from rfl) rfl]
  refine runBody_of (st := ⟨[some (.ref g)], H⟩) (st2 := ⟨[some (.ref g)], H'⟩) rfl ?_
  unfold body_law_word
  rw [x_ret (ev_idx (ws := words.map .str) (v := .str w) rfl h2 (by rw [List.getElem?_map, hr]; rfl))]
  rfl
theorem c13 (n g : Nat) (H : List O) (h : HandAt g H) : ∃ w ∈ gaps, ∃ H', callN (n + 2) 13 [.ref g] H = some (.ok (.str w), H') ∧ HandAt g H' ∧ Grow g H H' ∧ H'.length = H.length := by
  obtain ⟨r, H', h1, h2, h3, h4, h5⟩ := ev_draw n g 5 (st := ⟨[some (.ref g)], H⟩) (by (first | lia | omega)) rfl h
  obtain ⟨w, hw, hr⟩ := at_mem (l := gaps) (r := r) h1
  refine ⟨w, hw, H', ?_, h3, h4, h5⟩
  rw [callN_eq (by decide) (show bodyOf 13 = some (1, 1, body_law_gap) from rfl) rfl]
  refine runBody_of (st := ⟨[some (.ref g)], H⟩) (st2 := ⟨[some (.ref g)], H'⟩) rfl ?_
  unfold body_law_gap
  rw [x_ret (ev_idx (ws := gaps.map .str) (v := .str w) rfl h2 (by rw [List.getElem?_map, hr]; rfl))]
  rfl
theorem ev_word (n g : Nat) {st : St} (hl : st.loc[0]? = some (some (.ref g))) (h : HandAt g st.heap) : ∃ w ∈ words, ∃ H', evalE (callN (n + 2)) (.call 12 (.cons (.loc 0) .nil)) st = ok (.str w) ⟨st.loc, H'⟩ ∧ HandAt g H' ∧ Grow g st.heap H' ∧ H'.length = st.heap.length := by
  obtain ⟨w, hw, H', h2, h3, h4, h5⟩ := c12 n g st.heap h
  exact ⟨w, hw, H', ev_call1 (u := .ref g) (st' := st) (by simp only [eE_loc, eE_none, eE_bool, eE_int, eE_neg, eE_str, eE_op, eE_cmp, eE_between, eE_and, eE_or, eE_ifx, eE_nil, eE_cons, eE_tup, eE_list, eE_flist, eE_dict, eE_call, eE_len, eE_ord, eE_idx, eE_slice, eE_sliceFrom, eE_sliceTo, eE_append, eE_pop, eE_endswith, eE_replace, hl]) h2, h3, h4, h5⟩
theorem ev_gap (n g : Nat) {st : St} (hl : st.loc[0]? = some (some (.ref g))) (h : HandAt g st.heap) : ∃ w ∈ gaps, ∃ H', evalE (callN (n + 2)) (.call 13 (.cons (.loc 0) .nil)) st = ok (.str w) ⟨st.loc, H'⟩ ∧ HandAt g H' ∧ Grow g st.heap H' ∧ H'.length = st.heap.length := by
  obtain ⟨w, hw, H', h2, h3, h4, h5⟩ := c13 n g st.heap h
  exact ⟨w, hw, H', ev_call1 (u := .ref g) (st' := st) (by simp only [eE_loc, eE_none, eE_bool, eE_int, eE_neg, eE_str, eE_op, eE_cmp, eE_between, eE_and, eE_or, eE_ifx, eE_nil, eE_cons, eE_tup, eE_list, eE_flist, eE_dict, eE_call, eE_len, eE_ord, eE_idx, eE_slice, eE_sliceFrom, eE_sliceTo, eE_append, eE_pop, eE_endswith, eE_replace, hl]) h2, h3, h4, h5⟩

theorem for_inv {i : Nat} {b : St → Res Fl} (P : Nat → St → Prop) (N : Nat) (h : ∀ k st, k < N → P k st → ∃ st2, b (st.put i (.int (k : Int))) = ok .next st2 ∧ P (k + 1) st2) : ∀ st, P 0 st → ∃ st2, forL i b ((List.range N).map fun k => .int (Int.ofNat k)) st = ok .next st2 ∧ P N st2 := by
  have go : ∀ (m k : Nat), k + m = N → ∀ st, P k st → ∃ st2, forL i b ((List.range' k m).map fun k => .int (Int.ofNat k)) st = ok .next st2 ∧ P N st2 := by
    intro m
    induction m with
    | zero => intro k hk st hp; exact ⟨st, rfl, by rw [← hk]; exact hp⟩
    | succ m ih =>
      intro k hk st hp
      obtain ⟨st2, e, p2⟩ := h k st (by (first | lia | omega)) hp
      obtain ⟨st3, e3, p3⟩ := ih (k + 1) (by (first | lia | omega)) st2 p2
      refine ⟨st3, ?_, p3⟩
      rw [range_cons]
      simp only [forL, e, bd_ok]
      exact e3
  intro st hp
  rw [List.range_eq_range']
  exact go N 0 (by (first | lia | omega)) st hp
theorem x_for {C : Calls} {i : Nat} {e : E} {b : S} {st st1 st2 : St} {N : Nat} (h : evalE C e st = ok (.int (N : Nat)) st1) (hN : N < 1000) (hf : forL i (exec C b) ((List.range N).map fun k => .int (Int.ofNat k)) st1 = ok .next st2) : exec C (.forRange i e b) st = ok .next st2 := by
  rw [eS_forRange, h, bd_ok]
  simp only [if_pos (show (0 : Int) ≤ (N : Int) ∧ (N : Int) < 2 ^ 40 from by (first | lia | omega)), Int.toNat_natCast]
  exact hf
end D
end Nt
end

section
set_option genSizeOf false
set_option genInjectivity false
set_option maxRecDepth 100000
set_option autoImplicit false
namespace Nt
namespace D

noncomputable def Cl : List Nat → Bool
  | [] => true
  | c :: s => !([45, 45, 62].isPrefixOf (c :: s)) && Cl s
noncomputable def NL (s : List Nat) : Prop := s.head? ≠ some 62 ∧ s.take 2 ≠ [45, 62]
theorem Cl.app {a b : List Nat} (ha : Cl a = true) (hb : Cl b = true) (n : NL b) : Cl (a ++ b) = true := by
  induction a with
  | nil => exact hb
  | cons c a ih =>
    simp only [Cl, Bool.and_eq_true, Bool.not_eq_true'] at ha
    simp only [List.cons_append, Cl, Bool.and_eq_true, Bool.not_eq_true']
    refine ⟨?_, ih ha.2⟩
    cases h : [45, 45, 62].isPrefixOf (c :: (a ++ b)) with
    | false => rfl
    | true =>
      exfalso
      match a, ha, h with
      | [], _, h =>
        match b, n, h with
        | [], _, h => simp [List.isPrefixOf] at h
        | [d], _, h => simp [List.isPrefixOf] at h
        | d :: e :: r, n, h =>
          simp [List.isPrefixOf] at h
          exact n.2 (by simp [← h.2.1, ← h.2.2])
      | [d], _, h =>
        match b, n, h with
        | [], _, h => simp [List.isPrefixOf] at h
        | e :: r, n, h =>
          simp [List.isPrefixOf] at h
          exact n.1 (by simp [← h.2.2])
      | d :: e :: r, ha, h =>
        simp [List.isPrefixOf] at h ha
        (first | lia | omega)
theorem NL.app {a b : List Nat} (n : NL a) (ha : a ≠ []) (hb : b.head? ≠ some 62) : NL (a ++ b) := by
  match a, ha, n with
  | [c], _, n =>
    refine ⟨by simpa using n.1, fun h => ?_⟩
    cases b with
    | nil => simp at h
    | cons d b => simp at h; exact hb (by simp [h.2])
  | c :: d :: r, _, n => exact ⟨by simpa using n.1, by simpa using n.2⟩
theorem endsW_cons {c : Nat} {s : List Nat} (h : endsW (c :: s) [45, 45] = false) : endsW s [45, 45] = false := by
  cases q : endsW s [45, 45] with
  | false => rfl
  | true =>
    simp only [endsW, Bool.and_eq_true, decide_eq_true_eq, List.length_cons, List.length_nil] at q
    obtain ⟨h1, h2⟩ := q
    simp only [endsW, List.length_cons, List.length_nil, Bool.and_eq_false_iff, decide_eq_false_iff_not] at h
    rcases h with h | h
    · (first | lia | omega)
    · rw [show s.length + 1 - (0 + 1 + 1) = (s.length - (0 + 1 + 1)) + 1 from by (first | lia | omega), List.drop_succ_cons] at h
      rw [h] at h2; (first | exact no h2 | exact no1 h2 | exact no2 h2 | exact noE h2 | exact noE1 h2 | obtain rfl := Option.some.inj h2 | obtain rfl := Except.ok.inj h2 | obtain rfl := h2 | cases h2)
theorem Cl.gt {a : List Nat} (ha : Cl a = true) (he : endsW a [45, 45] = false) : Cl (a ++ [62]) = true := by
  induction a with
  | nil => rfl
  | cons c a ih =>
    simp only [Cl, Bool.and_eq_true, Bool.not_eq_true'] at ha
    simp only [List.cons_append, Cl, Bool.and_eq_true, Bool.not_eq_true']
    refine ⟨?_, ih ha.2 (endsW_cons he)⟩
    cases h : [45, 45, 62].isPrefixOf (c :: (a ++ [62])) with
    | false => rfl
    | true =>
      exfalso
      match a, ha, he, h with
      | [], _, _, h => simp [List.isPrefixOf] at h
      | [d], _, he, h =>
        simp [List.isPrefixOf] at h
        rw [← h.1, ← h.2] at he
        simp [endsW] at he
      | d :: e :: r, ha, _, h =>
        simp [List.isPrefixOf] at h ha
        (first | lia | omega)
theorem Cl.nm : ∀ {s : List Nat}, Cl s = true → NM s
  | [], _ => NM.nil
  | c :: s, h => by
    simp only [Cl, Bool.and_eq_true, Bool.not_eq_true'] at h
    refine NM.cons (Cl.nm h.2) fun q => ?_
    obtain ⟨_, h2⟩ := h
    match s, h2, q with
    | [], _, q => simp at q
    | d :: s, h2, q =>
      simp only [List.take_succ_cons, List.cons.injEq] at q
      obtain ⟨_, rfl, q⟩ := q
      simp only [Cl, Bool.and_eq_true, Bool.not_eq_true'] at h2
      match s, h2, q with
      | [], _, q => simp at q
      | e :: s, h2, q =>
        simp only [List.take_succ_cons, List.cons.injEq] at q
        obtain ⟨rfl, q⟩ := q
        match s, h2, q with
        | [], _, q => simp at q
        | f :: s, h2, q =>
          simp at q
          simp [List.isPrefixOf, q] at h2

/-- what may stand behind a text that ends in a word -/
noncomputable def After (s r : List Nat) : Prop := ∀ c r', r = c :: r' → isWs c = false ∧ (endsW s [45, 45] = true → c ≠ 62)
structure Piece (w : List Nat) : Prop where
  cl : Cl w = true
  nl : NL w
  short : w.length ≤ 4
theorem word_piece {w : List Nat} (h : w ∈ words) : Piece w ∧ w ≠ [] ∧ w.all isWs = true ∧ (∀ c r, w = c :: r → isLt c = true) := by
  simp only [words, List.mem_cons, List.not_mem_nil, or_false] at h
  rcases h with rfl | rfl | rfl | rfl | rfl | rfl | rfl <;> exact ⟨⟨rfl, ⟨by decide, by decide⟩, by decide⟩, by decide, by decide, fun c r e => by (first | exact no e | exact no1 e | exact no2 e | exact noE e | exact noE1 e | obtain rfl := Option.some.inj e | obtain rfl := Except.ok.inj e | obtain rfl := e | cases e); decide⟩
theorem gap_piece {w : List Nat} (h : w ∈ gaps) : Piece w ∧ w.all isSp = true := by
  simp only [gaps, List.mem_cons, List.not_mem_nil, or_false] at h
  rcases h with rfl | rfl | rfl | rfl | rfl <;> exact ⟨⟨rfl, ⟨by decide, by decide⟩, by decide⟩, by decide⟩
theorem span_all {p : Nat → Bool} {w r : List Nat} (hw : w.all p = true) (hr : ∀ c r', r = c :: r' → p c = false) : (w ++ r).takeWhile p = w ∧ (w ++ r).dropWhile p = r := by
  induction w with
  | nil =>
    cases r with
    | nil => exact ⟨rfl, rfl⟩
    | cons c r => exact ⟨by rw [List.nil_append, List.takeWhile_cons_of_neg (by simp [hr c r rfl])], by rw [List.nil_append, List.dropWhile_cons_of_neg (by simp [hr c r rfl])]⟩
  | cons a w ih =>
    simp only [List.all_cons, Bool.and_eq_true] at hw
    rw [List.cons_append, List.takeWhile_cons_of_pos hw.1, List.dropWhile_cons_of_pos hw.1]
    exact ⟨by rw [(ih hw.2).1], (ih hw.2).2⟩
theorem word_good {w r : List Nat} (h : w ∈ words) (ha : After w r) : badWord w r = false := by
  simp only [words, List.mem_cons, List.not_mem_nil, or_false] at h
  rcases h with rfl | rfl | rfl | rfl | rfl | rfl | rfl
  · rfl
  · rfl
  · rfl
  · cases r with
    | nil => rfl
    | cons c r =>
      have := (ha c r rfl).2 (by decide)
      simp [badWord, bare, isDg, this]
  · rfl
  · rfl
  · rfl
theorem word_rd {w r : List Nat} (h : w ∈ words) (ha : After w r) : (w ++ r).takeWhile isWs = w ∧ (w ++ r).dropWhile isWs = r ∧ badWord w r = false := by
  obtain ⟨h1, h2⟩ := span_all (word_piece h).2.2.1 (fun c r' e => (ha c r' e).1)
  exact ⟨h1, h2, word_good h ha⟩
section
variable {x : Ctx} {w r g : List Nat}
theorem word_cons (h : w ∈ words) : ∃ c s, w = c :: s ∧ isLt c = true ∧ c ≠ 39 ∧ c ≠ 34 := by
  simp only [words, List.mem_cons, List.not_mem_nil, or_false] at h
  rcases h with rfl | rfl | rfl | rfl | rfl | rfl | rfl <;> exact ⟨_, _, rfl, by decide, by decide, by decide⟩
theorem rd_bracket (h : w ∈ words) (ha : After w r) : run .bracket x (w ++ r) = run .named (x.take .attr w) r := by
  obtain ⟨h1, h2, h3⟩ := word_rd h ha
  obtain ⟨c, s, rfl, hc, _⟩ := word_cons h
  have := entry_q (q := .bracket) (srt := .attr) x (s := c :: s ++ r) (fun d r' e => by (first | exact no e | exact no1 e | exact no2 e | exact noE e | exact noE1 e | obtain rfl := Option.some.inj e | obtain rfl := Except.ok.inj e | obtain rfl := e | cases e); exact lt_not_sp hc) rfl fun d r' e => by
    (first | exact no e | exact no1 e | exact no2 e | exact noE e | exact noE1 e | obtain rfl := Option.some.inj e | obtain rfl := Except.ok.inj e | obtain rfl := e | cases e)
    simp only [step, step1, lt_not_sp hc]; rfl
  rw [h1, h2, h3] at this
  exact this
theorem rd_equal (h : w ∈ words) (ha : After w r) : run .equal x (w ++ r) = run .valued (x.take .value w) r := by
  obtain ⟨h1, h2, h3⟩ := word_rd h ha
  obtain ⟨c, s, rfl, hc, n1, n2⟩ := word_cons h
  have := entry_q (q := .equal) (srt := .value) x (s := c :: s ++ r) (fun d r' e => by (first | exact no e | exact no1 e | exact no2 e | exact noE e | exact noE1 e | obtain rfl := Option.some.inj e | obtain rfl := Except.ok.inj e | obtain rfl := e | cases e); exact lt_not_sp hc) rfl fun d r' e => by
    (first | exact no e | exact no1 e | exact no2 e | exact noE e | exact noE1 e | obtain rfl := Option.some.inj e | obtain rfl := Except.ok.inj e | obtain rfl := e | cases e)
    simp only [step, step1, lt_not_sp hc, n1, n2, or_self, if_false]; rfl
  rw [h1, h2, h3] at this
  exact this
theorem rd_name (h : w ∈ words) (ha : After w r) : run .part x (w ++ r) = run .more (x.fresh.take .name w) r := by
  obtain ⟨h1, h2, h3⟩ := word_rd h ha
  obtain ⟨c, s, rfl, hc, n1, n2⟩ := word_cons h
  have e := entry (srt := .name) (x := x.fresh) (c := c) (s := s ++ r) (by simp [isWs, hc])
  rw [if_pos hc] at e
  have st : step .part x c = .ok (.word .name [c], x.fresh) := by simp [step, step1, partStep, lt_not_sp hc, hc]
  rw [List.cons_append, run_of st, e]
  rw [show c :: (s ++ r) = c :: s ++ r from rfl, h1, h2, h3]
  rfl
theorem rd_id (h : w ∈ words) (ha : After w r) : run .more x (35 :: (w ++ r)) = run .more (x.take .ids w) r := by
  obtain ⟨h1, h2, h3⟩ := word_rd h ha
  rw [run_of (show step .more x 35 = .ok (.word .ids [], x) from rfl), run_word _ [] (fun _ _ e => by (first | exact no e | exact no1 e | exact no2 e | exact noE e | exact noE1 e | obtain rfl := Option.some.inj e | obtain rfl := Except.ok.inj e | obtain rfl := e | cases e)), List.nil_append, h1, h2, h3]
  rfl
theorem rd_class (h : w ∈ words) (ha : After w r) : run .more x (46 :: (w ++ r)) = run .more (x.take .classes w) r := by
  obtain ⟨h1, h2, h3⟩ := word_rd h ha
  rw [run_of (show step .more x 46 = .ok (.word .classes [], x) from rfl), run_word _ [] (fun _ _ e => by (first | exact no e | exact no1 e | exact no2 e | exact noE e | exact noE1 e | obtain rfl := Option.some.inj e | obtain rfl := Except.ok.inj e | obtain rfl := e | cases e)), List.nil_append, h1, h2, h3]
  rfl
theorem drop_gap (h : g.all isSp = true) : (g ++ r).dropWhile isSp = r.dropWhile isSp := by
  induction g with
  | nil => rfl
  | cons a g ih =>
    simp only [List.all_cons, Bool.and_eq_true] at h
    rw [List.cons_append, List.dropWhile_cons_of_pos h.1, ih h.2]
theorem rd_gap {q : Q} (hq : skips q = true) (h : g.all isSp = true) : run q x (g ++ r) = run q x r := by
  rw [run_sp hq, drop_gap h, ← run_sp hq]
theorem after_gap (hg : g.all isSp = true) (hr : ∀ c r', r = c :: r' → isWs c = false ∧ (endsW w [45, 45] = true → g = [] → c ≠ 62)) : After w (g ++ r) := by
  intro c r' e
  cases g with
  | nil => exact ⟨(hr c r' e).1, fun h => (hr c r' e).2 h rfl⟩
  | cons a g =>
    (first | exact no e | exact no1 e | exact no2 e | exact noE e | exact noE1 e | obtain rfl := Option.some.inj e | obtain rfl := Except.ok.inj e | obtain rfl := e | cases e)
    simp only [List.all_cons, Bool.and_eq_true] at hg
    exact ⟨by simp [isWs, sp_not_lt hg.1, sp_not_dg hg.1], fun _ q => by subst q; simp [isSp] at hg⟩
end

theorem ev_add {C : Calls} {a b : E} {st st1 st2 : St} {x y : List Nat} (ha : evalE C a st = ok (.str x) st1) (hb : evalE C b st1 = ok (.str y) st2) (h : x.length + y.length ≤ 100000) : evalE C (.op .add a b) st = ok (.str (x ++ y)) st2 :=
  ev_op ha hb (by
    have : x.length + y.length ≤ lim := by have : 100000 ≤ lim := by decide
                                           (first | lia | omega)
    simp only [opV, this, if_true])
end D
end Nt
end

section
set_option genSizeOf false
set_option genInjectivity false
set_option maxRecDepth 100000
set_option autoImplicit false
namespace Nt
namespace D

/-- a bracket, written: what stands behind its opening -/
structure BrT (s : List Nat) (a : List Nat × Option (List Nat)) : Prop where
  rd : ∀ (x : Ctx) r, run .bracket x (s ++ r) = run .more (x.attr a) r
  cl : Cl (91 :: s) = true
  short : s.length ≤ 40
  nodash : endsW (91 :: s) [45, 45] = false

theorem ends_br (s : List Nat) : endsW (s ++ [93]) [45, 45] = false := by
  cases q : endsW (s ++ [93]) [45, 45] with
  | false => rfl
  | true =>
    simp only [endsW, Bool.and_eq_true, beq_iff_eq] at q
    have := congrArg List.getLast? q.2
    rw [List.getLast?_drop] at this
    simp at this
theorem nl1 {c : Nat} (h : c ≠ 62) : NL [c] := ⟨by simp [h], by simp⟩
theorem clApp {a b : List Nat} (h : Cl a = true) (p : Piece b) : Cl (a ++ b) = true := Cl.app h p.cl p.nl
theorem ev_cons {C : Calls} {a b : E} {st st1 st2 : St} {x : V} {ws : List V} (ha : evalE C a st = ok x st1) (hb : evalE C b st1 = ok (.lst ws) st2) : evalE C (.cons a b) st = ok (.lst (x :: ws)) st2 := by
  rw [eE_cons, ha, bd_ok, hb, bd_ok]
theorem piece1 {c : Nat} (h : c ≠ 62) : Piece [c] := ⟨by simp [Cl, List.isPrefixOf], nl1 h, by simp⟩

theorem br_bare {nm g1 g2 : List Nat} (h1 : g1 ∈ gaps) (h2 : nm ∈ words) (h3 : g2 ∈ gaps) : BrT (g1 ++ nm ++ g2 ++ [93]) (nm, none) := by
  obtain ⟨p1, s1⟩ := gap_piece h1
  obtain ⟨p2, _⟩ := word_piece h2
  obtain ⟨p3, s3⟩ := gap_piece h3
  refine ⟨fun x r => ?_, ?_, ?_, ?_⟩
  · rw [show g1 ++ nm ++ g2 ++ [93] ++ r = g1 ++ (nm ++ (g2 ++ 93 :: r)) from by simp, rd_gap rfl s1, rd_bracket h2 (after_gap s3 fun c r' e => by (first | exact no e | exact no1 e | exact no2 e | exact noE e | exact noE1 e | obtain rfl := Option.some.inj e | obtain rfl := Except.ok.inj e | obtain rfl := e | cases e); exact ⟨by decide, fun _ _ => by decide⟩), rd_gap rfl s3]
    rw [run_of (show step .named (x.take .attr nm) 93 = .ok (.more, x.take .attr nm) from rfl)]
    rfl
  · have : (91 :: (g1 ++ nm ++ g2 ++ [93])) = [91] ++ g1 ++ nm ++ g2 ++ [93] := by simp
    rw [this]
    exact clApp (clApp (clApp (clApp (piece1 (c := 91) (by decide)).cl p1) p2) p3) (piece1 (by decide))
  · have a1 := p1.short
    have a2 := p2.short
    have a3 := p3.short
    simp; (first | lia | omega)
  · exact ends_br (91 :: (g1 ++ nm ++ g2))
theorem br_word {nm g1 g2 g3 g4 v : List Nat} (h1 : g1 ∈ gaps) (h2 : nm ∈ words) (h3 : g2 ∈ gaps) (h4 : g3 ∈ gaps) (h5 : v ∈ words) (h6 : g4 ∈ gaps) : BrT (g1 ++ nm ++ g2 ++ [61] ++ g3 ++ v ++ g4 ++ [93]) (nm, some v) := by
  obtain ⟨p1, s1⟩ := gap_piece h1
  obtain ⟨p2, _⟩ := word_piece h2
  obtain ⟨p3, s3⟩ := gap_piece h3
  obtain ⟨p4, s4⟩ := gap_piece h4
  obtain ⟨p5, _⟩ := word_piece h5
  obtain ⟨p6, s6⟩ := gap_piece h6
  refine ⟨fun x r => ?_, ?_, ?_, ?_⟩
  · rw [show g1 ++ nm ++ g2 ++ [61] ++ g3 ++ v ++ g4 ++ [93] ++ r = g1 ++ (nm ++ (g2 ++ 61 :: (g3 ++ (v ++ (g4 ++ 93 :: r))))) from by simp, rd_gap rfl s1, rd_bracket h2 (after_gap s3 fun c r' e => by (first | exact no e | exact no1 e | exact no2 e | exact noE e | exact noE1 e | obtain rfl := Option.some.inj e | obtain rfl := Except.ok.inj e | obtain rfl := e | cases e); exact ⟨by decide, fun _ _ => by decide⟩), rd_gap rfl s3]
    rw [run_of (show step .named (x.take .attr nm) 61 = .ok (.equal, x.take .attr nm) from rfl), rd_gap rfl s4, rd_equal h5 (after_gap s6 fun c r' e => by (first | exact no e | exact no1 e | exact no2 e | exact noE e | exact noE1 e | obtain rfl := Option.some.inj e | obtain rfl := Except.ok.inj e | obtain rfl := e | cases e); exact ⟨by decide, fun _ _ => by decide⟩), rd_gap rfl s6]
    rw [run_of (show step .valued ((x.take .attr nm).take .value v) 93 = .ok (.more, (x.take .attr nm).take .value v) from rfl), take_attr_value]
  · have : (91 :: (g1 ++ nm ++ g2 ++ [61] ++ g3 ++ v ++ g4 ++ [93])) = [91] ++ g1 ++ nm ++ g2 ++ [61] ++ g3 ++ v ++ g4 ++ [93] := by simp
    rw [this]
    exact clApp (clApp (clApp (clApp (clApp (clApp (clApp (clApp (piece1 (c := 91) (by decide)).cl p1) p2) p3) (piece1 (by decide))) p4) p5) p6) (piece1 (by decide))
  · have a1 := p1.short
    have a2 := p2.short
    have a3 := p3.short
    have a4 := p4.short
    have a5 := p5.short
    have a6 := p6.short
    simp; (first | lia | omega)
  · exact ends_br (91 :: (g1 ++ nm ++ g2 ++ [61] ++ g3 ++ v ++ g4))
noncomputable def qvals (o : Nat) : List (List Nat) := [[], [93], [97, 44, 32, 98], [49, 62], [61], [o]]
theorem qval_piece {o qt : Nat} {v : List Nat} (ho : (o = 34 ∧ qt = 39) ∨ (o = 39 ∧ qt = 34)) (h : v ∈ qvals o) : Piece v ∧ v.all (fun c => !stopQ qt c) = true := by
  simp only [qvals, List.mem_cons, List.not_mem_nil, or_false] at h
  rcases ho with ⟨rfl, rfl⟩ | ⟨rfl, rfl⟩ <;> rcases h with rfl | rfl | rfl | rfl | rfl | rfl <;> exact ⟨⟨rfl, ⟨by decide, by decide⟩, by decide⟩, by decide⟩
theorem rd_quoted {qt : Nat} {v r : List Nat} {x : Ctx} (hq : qt = 39 ∨ qt = 34) (hv : v.all (fun c => !stopQ qt c) = true) : run .equal x (qt :: (v ++ qt :: r)) = run .valued (x.take .value v) r := by
  have e1 : step .equal x qt = .ok (.quoted qt [], x) := by rcases hq with rfl | rfl <;> rfl
  rw [run_of e1]
  have hstop : (fun c => !stopQ qt c) qt = false := by rcases hq with rfl | rfl <;> rfl
  obtain ⟨h1, h2⟩ := span_all (r := qt :: r) hv (fun c r' e => by (first | exact no e | exact no1 e | exact no2 e | exact noE e | exact noE1 e | obtain rfl := Option.some.inj e | obtain rfl := Except.ok.inj e | obtain rfl := e | cases e); exact hstop)
  have := (run_quoted (q := qt) (x := x) (v ++ qt :: r) []).1 r h2 (by (first | lia | omega)) (by (first | lia | omega)) (by (first | lia | omega)) (by (first | lia | omega))
  rw [this, h1]; rfl
theorem br_quoted {nm g1 g2 g3 g4 v : List Nat} {o qt : Nat} (ho : (o = 34 ∧ qt = 39) ∨ (o = 39 ∧ qt = 34)) (h1 : g1 ∈ gaps) (h2 : nm ∈ words) (h3 : g2 ∈ gaps) (h4 : g3 ∈ gaps) (h5 : v ∈ qvals o) (h6 : g4 ∈ gaps) : BrT (g1 ++ nm ++ g2 ++ [61] ++ g3 ++ [qt] ++ v ++ [qt] ++ g4 ++ [93]) (nm, some v) := by
  obtain ⟨p1, s1⟩ := gap_piece h1
  obtain ⟨p2, _⟩ := word_piece h2
  obtain ⟨p3, s3⟩ := gap_piece h3
  obtain ⟨p4, s4⟩ := gap_piece h4
  obtain ⟨p5, s5⟩ := qval_piece ho h5
  obtain ⟨p6, s6⟩ := gap_piece h6
  have hq : qt = 39 ∨ qt = 34 := ho.elim (fun h => .inl h.2) (fun h => .inr h.2)
  have hq62 : qt ≠ 62 := by (first | lia | omega)
  refine ⟨fun x r => ?_, ?_, ?_, ?_⟩
  · rw [show g1 ++ nm ++ g2 ++ [61] ++ g3 ++ [qt] ++ v ++ [qt] ++ g4 ++ [93] ++ r = g1 ++ (nm ++ (g2 ++ 61 :: (g3 ++ (qt :: (v ++ qt :: (g4 ++ 93 :: r)))))) from by simp, rd_gap rfl s1, rd_bracket h2 (after_gap s3 fun c r' e => by (first | exact no e | exact no1 e | exact no2 e | exact noE e | exact noE1 e | obtain rfl := Option.some.inj e | obtain rfl := Except.ok.inj e | obtain rfl := e | cases e); exact ⟨by decide, fun _ _ => by decide⟩), rd_gap rfl s3]
    rw [run_of (show step .named (x.take .attr nm) 61 = .ok (.equal, x.take .attr nm) from rfl), rd_gap rfl s4, rd_quoted hq s5, rd_gap rfl s6]
    rw [run_of (show step .valued ((x.take .attr nm).take .value v) 93 = .ok (.more, (x.take .attr nm).take .value v) from rfl), take_attr_value]
  · have : (91 :: (g1 ++ nm ++ g2 ++ [61] ++ g3 ++ [qt] ++ v ++ [qt] ++ g4 ++ [93])) = [91] ++ g1 ++ nm ++ g2 ++ [61] ++ g3 ++ [qt] ++ v ++ [qt] ++ g4 ++ [93] := by simp
    rw [this]
    exact clApp (clApp (clApp (clApp (clApp (clApp (clApp (clApp (clApp (clApp (piece1 (c := 91) (by decide)).cl p1) p2) p3) (piece1 (by decide))) p4) (piece1 hq62)) p5) (piece1 hq62)) p6) (piece1 (by decide))
  · have a1 := p1.short
    have a2 := p2.short
    have a3 := p3.short
    have a4 := p4.short
    have a5 := p5.short
    have a6 := p6.short
    simp; (first | lia | omega)
  · exact ends_br (91 :: (g1 ++ nm ++ g2 ++ [61] ++ g3 ++ [qt] ++ v ++ [qt] ++ g4))

theorem c14 (n g : Nat) (H : List O) (h : HandAt g H) : ∃ s a H', callN (n + 3) 14 [.ref g] H = some (.ok (.tup [.str (91 :: s), attrV a]), H') ∧ HandAt g H' ∧ Grow g H H' ∧ H'.length = H.length ∧ BrT s a := by
  let C := callN (n + 2)
  let S0 (a b c d e : Option V) (H : List O) : St := ⟨[some (.ref g), a, b, c, d, e], H⟩
  rw [callN_eq (by decide) (show bodyOf 14 = some (1, 6, body_law_bracket) from rfl) rfl]
  obtain ⟨nm, w1, H1, e1, hh1, gr1, l1⟩ := ev_word n g (st := S0 none none none none none H) rfl h
  have x1 : exec C (.assign 1 (.call 12 (.cons (.loc 0) .nil))) (S0 none none none none none H) = ok .next (S0 (vs nm) none none none none H1) := x_assign e1
  obtain ⟨g1, w2, H2, e2, hh2, gr2, l2⟩ := ev_gap n g (st := S0 (vs nm) none none none none H1) rfl hh1
  have b1 := (word_piece w1).1.short
  have b2 := (gap_piece w2).1.short
  have x2 : exec C (.assign 2 (.op .add (.op .add (.str [91]) (.call 13 (.cons (.loc 0) .nil))) (.loc 1))) (S0 (vs nm) none none none none H1) = ok .next (S0 (vs nm) (vs ([91] ++ g1 ++ nm)) none none none H2) :=
    x_assign (ev_add (ev_add (C := C) (a := .str [91]) (st1 := S0 (vs nm) none none none none H1) rfl e2 (by simp; (first | lia | omega))) (show evalE C (.loc 1) (S0 (vs nm) none none none none H2) = ok (.str nm) (S0 (vs nm) none none none none H2) from rfl) (by simp; (first | lia | omega)))
  obtain ⟨g2, w3, H3, e3, hh3, gr3, l3⟩ := ev_gap n g (st := S0 (vs nm) (vs ([91] ++ g1 ++ nm)) none none none H2) rfl hh2
  have b3 := (gap_piece w3).1.short
  have x3 : exec C (.assign 2 (.op .add (.loc 2) (.call 13 (.cons (.loc 0) .nil)))) (S0 (vs nm) (vs ([91] ++ g1 ++ nm)) none none none H2) = ok .next (S0 (vs nm) (vs ([91] ++ g1 ++ nm ++ g2)) none none none H3) :=
    x_assign (ev_add (C := C) (a := .loc 2) (st1 := S0 (vs nm) (vs ([91] ++ g1 ++ nm)) none none none H2) rfl e3 (by simp; (first | lia | omega)))
  generalize htx : [91] ++ g1 ++ nm ++ g2 = tx at x3
  have btx : tx.length ≤ 13 := by rw [← htx]; simp; (first | lia | omega)
  obtain ⟨d1, H4, hd1, e4, hh4, gr4, l4⟩ := ev_draw (n + 1) g 3 (st := S0 (vs nm) (vs tx) none none none H3) (by (first | lia | omega)) rfl hh3
  have gr14 : Grow g H H4 := ((gr1.trans gr2).trans gr3).trans gr4
  have len4 : H4.length = H.length := by rw [l4]; exact l3.trans (l2.trans l1)
  have q4 : evalE C (.cmp .eq (.call 11 (.cons (.loc 0) (.cons (.int 3) .nil))) (.int 0)) (S0 (vs nm) (vs tx) none none none H3) = ok (.bool ((d1 : Int) == 0)) (S0 (vs nm) (vs tx) none none none H4) := by
    rw [eE_cmp, e4, bd_ok]; rfl
  by_cases hd0 : d1 = 0
  · subst hd0
    refine ⟨g1 ++ nm ++ g2 ++ [93], (nm, none), H4, ?_, hh4, gr14, len4, br_bare w2 w1 w3⟩
    refine runBody_of (st := S0 none none none none none H) (st2 := S0 (vs nm) (vs tx) none none none H4) rfl ?_
    unfold body_law_bracket
    rw [x_seq x1, x_seq x2, x_seq x3]
    have er : evalE C (.tup (.cons (.op .add (.loc 2) (.str [93])) (.cons (.tup (.cons (.loc 1) (.cons .none .nil))) .nil))) (S0 (vs nm) (vs tx) none none none H4) = ok (.tup [.str (91 :: (g1 ++ nm ++ g2 ++ [93])), attrV (nm, none)]) (S0 (vs nm) (vs tx) none none none H4) := by
      rw [eE_tup, eE_cons, ev_add (C := C) (a := .loc 2) (b := .str [93]) (st1 := S0 (vs nm) (vs tx) none none none H4) (st2 := S0 (vs nm) (vs tx) none none none H4) (x := tx) (y := [93]) rfl rfl (by simp; (first | lia | omega)), ← htx]
      simp [eE_loc, eE_none, eE_bool, eE_int, eE_neg, eE_str, eE_op, eE_cmp, eE_between, eE_and, eE_or, eE_ifx, eE_nil, eE_cons, eE_tup, eE_list, eE_flist, eE_dict, eE_call, eE_len, eE_ord, eE_idx, eE_slice, eE_sliceFrom, eE_sliceTo, eE_append, eE_pop, eE_endswith, eE_replace, bd, ok, attrV, optV, S0]
    exact x_seqR (by rw [x_iteT q4]; exact x_ret er)
  · have f4 : ((d1 : Int) == 0) = false := by simp; (first | lia | omega)
    rw [f4] at q4
    have x4 : exec C (.ite (.cmp .eq (.call 11 (.cons (.loc 0) (.cons (.int 3) .nil))) (.int 0)) (.ret (.tup (.cons (.op .add (.loc 2) (.str [93])) (.cons (.tup (.cons (.loc 1) (.cons .none .nil))) .nil)))) .skip) (S0 (vs nm) (vs tx) none none none H3) = ok .next (S0 (vs nm) (vs tx) none none none H4) := by rw [x_iteF q4]; rfl
    obtain ⟨g3, w5, H5, e5, hh5, gr5, l5⟩ := ev_gap n g (st := S0 (vs nm) (vs tx) none none none H4) rfl hh4
    have b5 := (gap_piece w5).1.short
    have x5 : exec C (.assign 2 (.op .add (.op .add (.loc 2) (.str [61])) (.call 13 (.cons (.loc 0) .nil)))) (S0 (vs nm) (vs tx) none none none H4) = ok .next (S0 (vs nm) (vs (tx ++ [61] ++ g3)) none none none H5) :=
      x_assign (ev_add (ev_add (C := C) (a := .loc 2) (b := .str [61]) (st1 := S0 (vs nm) (vs tx) none none none H4) (st2 := S0 (vs nm) (vs tx) none none none H4) rfl rfl (by simp; (first | lia | omega))) e5 (by simp; (first | lia | omega)))
    obtain ⟨d2, H6, hd2, e6, hh6, gr6, l6⟩ := ev_draw (n + 1) g 3 (st := S0 (vs nm) (vs (tx ++ [61] ++ g3)) none none none H5) (by (first | lia | omega)) rfl hh5
    have x6 : exec C (.assign 3 (.call 11 (.cons (.loc 0) (.cons (.int 3) .nil)))) (S0 (vs nm) (vs (tx ++ [61] ++ g3)) none none none H5) = ok .next (S0 (vs nm) (vs (tx ++ [61] ++ g3)) (vi d2) none none H6) := x_assign e6
    have q7 : evalE C (.cmp .eq (.loc 3) (.int 0)) (S0 (vs nm) (vs (tx ++ [61] ++ g3)) (vi d2) none none H6) = ok (.bool ((d2 : Int) == 0)) (S0 (vs nm) (vs (tx ++ [61] ++ g3)) (vi d2) none none H6) := rfl
    have gr16 : Grow g H H6 := (gr14.trans gr5).trans gr6
    have len6 : H6.length = H.length := by rw [l6]; exact l5.trans len4
    -- the end
    have fin : ∀ (u v : List Nat) (l5' : Option V) (G : List O), u.length ≤ 35 → HandAt g G → ∃ g4 ∈ gaps, ∃ G', exec C (.ret (.tup (.cons (.op .add (.op .add (.loc 2) (.call 13 (.cons (.loc 0) .nil))) (.str [93])) (.cons (.tup (.cons (.loc 1) (.cons (.loc 4) .nil))) .nil)))) (S0 (vs nm) (vs u) (vi d2) (vs v) l5' G) = some (.ok (.ret (.tup [.str (u ++ g4 ++ [93]), attrV (nm, some v)])), S0 (vs nm) (vs u) (vi d2) (vs v) l5' G') ∧ HandAt g G' ∧ Grow g G G' ∧ G'.length = G.length := by
      intro u v l5' G hu hG
      obtain ⟨g4, w8, G', e8, hh8, gr8, l8⟩ := ev_gap n g (st := S0 (vs nm) (vs u) (vi d2) (vs v) l5' G) rfl hG
      have b8 := (gap_piece w8).1.short
      refine ⟨g4, w8, G', ?_, hh8, gr8, l8⟩
      have er : evalE C (.tup (.cons (.op .add (.op .add (.loc 2) (.call 13 (.cons (.loc 0) .nil))) (.str [93])) (.cons (.tup (.cons (.loc 1) (.cons (.loc 4) .nil))) .nil))) (S0 (vs nm) (vs u) (vi d2) (vs v) l5' G) = ok (.tup [.str (u ++ g4 ++ [93]), attrV (nm, some v)]) (S0 (vs nm) (vs u) (vi d2) (vs v) l5' G') := by
        rw [eE_tup, eE_cons, ev_add (ev_add (C := C) (a := .loc 2) (st1 := S0 (vs nm) (vs u) (vi d2) (vs v) l5' G) rfl e8 (by (first | lia | omega))) (show evalE C (.str [93]) (S0 (vs nm) (vs u) (vi d2) (vs v) l5' G') = ok (.str [93]) (S0 (vs nm) (vs u) (vi d2) (vs v) l5' G') from rfl) (by simp; (first | lia | omega))]
        simp [eE_loc, eE_none, eE_bool, eE_int, eE_neg, eE_str, eE_op, eE_cmp, eE_between, eE_and, eE_or, eE_ifx, eE_nil, eE_cons, eE_tup, eE_list, eE_flist, eE_dict, eE_call, eE_len, eE_ord, eE_idx, eE_slice, eE_sliceFrom, eE_sliceTo, eE_append, eE_pop, eE_endswith, eE_replace, bd, ok, attrV, optV, S0]
      exact x_ret er
    by_cases hd20 : d2 = 0
    · subst hd20
      obtain ⟨v, w7, H7, e7, hh7, gr7, l7⟩ := ev_word n g (st := S0 (vs nm) (vs (tx ++ [61] ++ g3)) (vi 0) none none H6) rfl hh6
      have b7 := (word_piece w7).1.short
      have x7 : exec C (.ite (.cmp .eq (.loc 3) (.int 0)) (.seq (.assign 4 (.call 12 (.cons (.loc 0) .nil))) (.assign 2 (.op .add (.loc 2) (.loc 4))))
          (.seq (.assign 5 (.idx (.flist (.cons (.str [39]) (.cons (.str [34]) .nil))) (.op .sub (.loc 3) (.int 1)))) (.seq (.assign 4 (.idx (.flist (.cons (.str []) (.cons (.str [93]) (.cons (.str [97, 44, 32, 98]) (.cons (.str [49, 62]) (.cons (.str [61]) (.cons (.idx (.flist (.cons (.str [34]) (.cons (.str [39]) .nil))) (.op .sub (.loc 3) (.int 1))) .nil))))))) (.call 11 (.cons (.loc 0) (.cons (.int 6) .nil))))) (.assign 2 (.op .add (.op .add (.op .add (.loc 2) (.loc 5)) (.loc 4)) (.loc 5)))))) (S0 (vs nm) (vs (tx ++ [61] ++ g3)) (vi 0) none none H6) = ok .next (S0 (vs nm) (vs (tx ++ [61] ++ g3 ++ v)) (vi 0) (vs v) none H7) := by
        rw [x_iteT q7, x_seq (x_assign e7)]
        exact x_assign (ev_add (C := C) (a := .loc 2) (b := .loc 4) (st := S0 (vs nm) (vs (tx ++ [61] ++ g3)) (vi 0) (vs v) none H7) (st1 := S0 (vs nm) (vs (tx ++ [61] ++ g3)) (vi 0) (vs v) none H7) (st2 := S0 (vs nm) (vs (tx ++ [61] ++ g3)) (vi 0) (vs v) none H7) rfl rfl (by simp; (first | lia | omega)))
      obtain ⟨g4, w8, H8, x8, hh8, gr8, l8⟩ := fin (tx ++ [61] ++ g3 ++ v) v none H7 (by simp; (first | lia | omega)) hh7
      refine ⟨g1 ++ nm ++ g2 ++ [61] ++ g3 ++ v ++ g4 ++ [93], (nm, some v), H8, ?_, hh8, (gr16.trans gr7).trans gr8, by rw [l8, l7]; exact len6, br_word w2 w1 w3 w5 w7 w8⟩
      refine runBody_of (st := S0 none none none none none H) (st2 := S0 (vs nm) (vs (tx ++ [61] ++ g3 ++ v)) (vi 0) (vs v) none H8) rfl ?_
      unfold body_law_bracket
      rw [x_seq x1, x_seq x2, x_seq x3, x_seq x4, x_seq x5, x_seq x6, x_seq x7, x8, ← htx]
      simp
    · have f7 : ((d2 : Int) == 0) = false := by simp; (first | lia | omega)
      rw [f7] at q7
      obtain ⟨o, qt, ho, hq1, hq2⟩ : ∃ o qt : Nat, ((o = 34 ∧ qt = 39) ∨ (o = 39 ∧ qt = 34)) ∧ ([V.str [39], V.str [34]])[d2 - 1]? = some (.str [qt]) ∧ ([V.str [34], V.str [39]])[d2 - 1]? = some (.str [o]) := by
        have : d2 = 1 ∨ d2 = 2 := by (first | lia | omega)
        rcases this with rfl | rfl
        · exact ⟨34, 39, .inl ⟨rfl, rfl⟩, rfl, rfl⟩
        · exact ⟨39, 34, .inr ⟨rfl, rfl⟩, rfl, rfl⟩
      have sub : ∀ (a b c d : Option V) (G : List O), evalE C (.op .sub (.loc 3) (.int 1)) (S0 a b (vi d2) c d G) = ok (.int ((d2 - 1 : Nat) : Int)) (S0 a b (vi d2) c d G) := fun a b c d G => by
        show ok (V.int ((d2 : Int) - 1)) _ = _
        rw [show ((d2 : Int) - 1) = ((d2 - 1 : Nat) : Int) from by (first | lia | omega)]
      have x7 : exec C (.assign 5 (.idx (.flist (.cons (.str [39]) (.cons (.str [34]) .nil))) (.op .sub (.loc 3) (.int 1)))) (S0 (vs nm) (vs (tx ++ [61] ++ g3)) (vi d2) none none H6) = ok .next (S0 (vs nm) (vs (tx ++ [61] ++ g3)) (vi d2) none (vs [qt]) H6) :=
        x_assign (ev_idx (C := C) (es := .cons (.str [39]) (.cons (.str [34]) .nil)) (ws := [.str [39], .str [34]]) rfl (sub _ _ _ _ _) hq1)
      obtain ⟨d3, H7, hd3, e7, hh7, gr7, l7⟩ := ev_draw (n + 1) g 6 (st := S0 (vs nm) (vs (tx ++ [61] ++ g3)) (vi d2) none (vs [qt]) H6) (by (first | lia | omega)) rfl hh6
      obtain ⟨v, hv, hvr⟩ := at_mem (l := qvals o) (r := d3) hd3
      have b7 := (qval_piece ho hv).1.short
      have es : evalE C (.cons (.str []) (.cons (.str [93]) (.cons (.str [97, 44, 32, 98]) (.cons (.str [49, 62]) (.cons (.str [61]) (.cons (.idx (.flist (.cons (.str [34]) (.cons (.str [39]) .nil))) (.op .sub (.loc 3) (.int 1))) .nil)))))) (S0 (vs nm) (vs (tx ++ [61] ++ g3)) (vi d2) none (vs [qt]) H6) = ok (.lst ((qvals o).map .str)) (S0 (vs nm) (vs (tx ++ [61] ++ g3)) (vi d2) none (vs [qt]) H6) := by
        have ei := ev_idx (C := C) (es := .cons (.str [34]) (.cons (.str [39]) .nil)) (ws := [.str [34], .str [39]]) (st := S0 (vs nm) (vs (tx ++ [61] ++ g3)) (vi d2) none (vs [qt]) H6) rfl (sub (vs nm) (vs (tx ++ [61] ++ g3)) none (vs [qt]) H6) hq2
        exact ev_cons rfl (ev_cons rfl (ev_cons rfl (ev_cons rfl (ev_cons rfl (ev_cons ei rfl)))))
      have x8 : exec C (.assign 4 (.idx (.flist (.cons (.str []) (.cons (.str [93]) (.cons (.str [97, 44, 32, 98]) (.cons (.str [49, 62]) (.cons (.str [61]) (.cons (.idx (.flist (.cons (.str [34]) (.cons (.str [39]) .nil))) (.op .sub (.loc 3) (.int 1))) .nil))))))) (.call 11 (.cons (.loc 0) (.cons (.int 6) .nil))))) (S0 (vs nm) (vs (tx ++ [61] ++ g3)) (vi d2) none (vs [qt]) H6) = ok .next (S0 (vs nm) (vs (tx ++ [61] ++ g3)) (vi d2) (vs v) (vs [qt]) H7) :=
        x_assign (ev_idx es e7 (by rw [List.getElem?_map, hvr]; rfl))
      have x9 : exec C (.assign 2 (.op .add (.op .add (.op .add (.loc 2) (.loc 5)) (.loc 4)) (.loc 5))) (S0 (vs nm) (vs (tx ++ [61] ++ g3)) (vi d2) (vs v) (vs [qt]) H7) = ok .next (S0 (vs nm) (vs (tx ++ [61] ++ g3 ++ [qt] ++ v ++ [qt])) (vi d2) (vs v) (vs [qt]) H7) := by
        let st : St := S0 (vs nm) (vs (tx ++ [61] ++ g3)) (vi d2) (vs v) (vs [qt]) H7
        exact x_assign (ev_add (ev_add (ev_add (C := C) (a := .loc 2) (b := .loc 5) (st := st) (st1 := st) (st2 := st) rfl rfl (by simp; (first | lia | omega))) (show evalE C (.loc 4) st = ok (.str v) st from rfl) (by simp; (first | lia | omega))) (show evalE C (.loc 5) st = ok (.str [qt]) st from rfl) (by simp; (first | lia | omega)))
      obtain ⟨g4, w8, H8, xf, hh8, gr8, l8⟩ := fin (tx ++ [61] ++ g3 ++ [qt] ++ v ++ [qt]) v (vs [qt]) H7 (by simp; (first | lia | omega)) hh7
      refine ⟨g1 ++ nm ++ g2 ++ [61] ++ g3 ++ [qt] ++ v ++ [qt] ++ g4 ++ [93], (nm, some v), H8, ?_, hh8, (gr16.trans gr7).trans gr8, by rw [l8, l7]; exact len6, br_quoted ho w2 w1 w3 w5 hv w8⟩
      refine runBody_of (st := S0 none none none none none H) (st2 := S0 (vs nm) (vs (tx ++ [61] ++ g3 ++ [qt] ++ v ++ [qt])) (vi d2) (vs v) (vs [qt]) H8) rfl ?_
      unfold body_law_bracket
      rw [x_seq x1, x_seq x2, x_seq x3, x_seq x4, x_seq x5, x_seq x6, x_seq (by rw [x_iteF q7, x_seq x7, x_seq x8]; exact x9), xf, ← htx]
      simp
end D
end Nt
end

section
set_option genSizeOf false
set_option genInjectivity false
set_option maxRecDepth 100000
set_option autoImplicit false
namespace Nt
namespace D

noncomputable def PStart (c : Nat) : Prop := isLt c = true ∨ c = 42 ∨ c = 35 ∨ c = 46 ∨ c = 91
structure PT (s : List Nat) (p : Part) : Prop where
  rd : s ≠ [] → ∀ (x : Ctx) r, After s r → run .part x (s ++ r) = run .more { x with p := p } r
  nil : s = [] → p = noPart
  cl : Cl s = true
  nl : s ≠ [] → NL s
  hd : ∀ c r, s = c :: r → PStart c

theorem pt_star : PT [42] noPart := ⟨fun _ x r _ => run_of rfl, fun h => (by (first | exact no h | exact no1 h | exact no2 h | exact noE h | exact noE1 h | obtain rfl := Option.some.inj h | obtain rfl := Except.ok.inj h | obtain rfl := h | cases h)), rfl, fun _ => nl1 (by decide), fun c r e => (by (first | exact no e | exact no1 e | exact no2 e | exact noE e | exact noE1 e | obtain rfl := Option.some.inj e | obtain rfl := Except.ok.inj e | obtain rfl := e | cases e); exact .inr (.inl rfl))⟩
theorem pt_nil : PT [] noPart := ⟨fun h => absurd rfl h, fun _ => rfl, rfl, fun h => absurd rfl h, fun c r e => by cases e⟩
theorem pt_word {w : List Nat} (h : w ∈ words) : PT w { noPart with name := w } := by
  obtain ⟨p, ne, _, hl⟩ := word_piece h
  exact ⟨fun _ x r ha => rd_name h ha, fun e => absurd e ne, p.cl, fun _ => p.nl, fun c r e => .inl (hl c r e)⟩
theorem endsW_app {a b : List Nat} (h : endsW b [45, 45] = true) : endsW (a ++ b) [45, 45] = true := by
  induction a with
  | nil => exact h
  | cons c a ih =>
    cases q : endsW (c :: (a ++ b)) [45, 45] with
    | true => exact q
    | false => rw [endsW_cons q] at ih; (first | exact no ih | exact no1 ih | exact no2 ih | exact noE ih | exact noE1 ih | obtain rfl := Option.some.inj ih | obtain rfl := Except.ok.inj ih | obtain rfl := ih | cases ih)
theorem After.tail {a b r : List Nat} (h : After (a ++ b) r) : After b r := fun c r' e => ⟨(h c r' e).1, fun q => (h c r' e).2 (endsW_app q)⟩

theorem PT.item {s : List Nat} {p p' : Part} {c0 : Nat} {it : List Nat} (h : PT s p) (hc : c0 = 35 ∨ c0 = 46 ∨ c0 = 91) (hit : ∀ (x : Ctx) r, After (c0 :: it) r → run .more { x with p := p } (c0 :: (it ++ r)) = run .more { x with p := p' } r) (hcl : Cl (c0 :: it) = true) : PT (s ++ c0 :: it) p' := by
  have nl0 : NL (c0 :: it) := ⟨by rcases hc with rfl | rfl | rfl <;> simp, by rcases hc with rfl | rfl | rfl <;> simp⟩
  refine ⟨fun _ x r ha => ?_, fun e => by simp at e, Cl.app h.cl hcl nl0, fun _ => ?_, fun c r e => ?_⟩
  · have hb := hit x r ha.tail
    cases s with
    | nil =>
      have hp := h.nil rfl
      subst hp
      rw [← hb]
      show run .part x (c0 :: (it ++ r)) = _
      rcases hc with rfl | rfl | rfl <;> rfl
    | cons a s =>
      rw [List.append_assoc, h.rd (by simp) x (c0 :: it ++ r) (fun c r' e => by
        (first | exact no e | exact no1 e | exact no2 e | exact noE e | exact noE1 e | obtain rfl := Option.some.inj e | obtain rfl := Except.ok.inj e | obtain rfl := e | cases e)
        rcases hc with rfl | rfl | rfl <;> exact ⟨by decide, fun _ => by decide⟩)]
      exact hb
  · cases s with
    | nil => exact nl0
    | cons a s => exact NL.app (h.nl (by simp)) (by simp) (by rcases hc with rfl | rfl | rfl <;> simp)
  · cases s with
    | nil => (first | exact no e | exact no1 e | exact no2 e | exact noE e | exact noE1 e | obtain rfl := Option.some.inj e | obtain rfl := Except.ok.inj e | obtain rfl := e | cases e); exact .inr (.inr hc)
    | cons a s => (first | exact no e | exact no1 e | exact no2 e | exact noE e | exact noE1 e | obtain rfl := Option.some.inj e | obtain rfl := Except.ok.inj e | obtain rfl := e | cases e); exact h.hd _ s rfl
theorem PT.bracket {s s' : List Nat} {p : Part} {a : List Nat × Option (List Nat)} (h : PT s p) (b : BrT s' a) : PT (s ++ 91 :: s') { p with attrs := p.attrs ++ [a] } :=
  h.item (.inr (.inr rfl)) (fun x r _ => by rw [run_of (show step .more { x with p := p } 91 = .ok (.bracket, { x with p := p }) from rfl), b.rd]; rfl) b.cl
theorem PT.id {s w : List Nat} {p : Part} (h : PT s p) (hw : w ∈ words) : PT (s ++ 35 :: w) (p.take .ids w) :=
  h.item (.inl rfl) (fun x r ha => rd_id hw (After.tail (a := [35]) ha)) (clApp (piece1 (c := 35) (by decide)).cl (word_piece hw).1)
theorem PT.class_ {s w : List Nat} {p : Part} (h : PT s p) (hw : w ∈ words) : PT (s ++ 46 :: w) (p.take .classes w) :=
  h.item (.inr (.inl rfl)) (fun x r ha => rd_class hw (After.tail (a := [46]) ha)) (clApp (piece1 (c := 46) (by decide)).cl (word_piece hw).1)

theorem Live.grow {g m : Nat} {H H' : List O} {p : Part} (h : Live H m p) (gr : Grow g H H') (hg : g < m) : Live H' m p :=
  ⟨gr.same _ _ (by (first | lia | omega)) h.ids, gr.same _ _ (by (first | lia | omega)) h.classes, gr.same _ _ (by (first | lia | omega)) h.attrs, gr.same _ _ (by (first | lia | omega)) h.dict⟩
theorem Live.addIds {m : Nat} {H : List O} {p : Part} (h : Live H m p) (w : List Nat) : Live (H.set m (.list (p.ids.map .str ++ [.str w]))) m (p.take .ids w) :=
  ⟨by rw [get_set h.ids]; simp [Part.take], by rw [List.getElem?_set_ne (by (first | lia | omega))]; exact h.classes, by rw [List.getElem?_set_ne (by (first | lia | omega))]; exact h.attrs, by rw [List.getElem?_set_ne (by (first | lia | omega))]; exact h.dict⟩
theorem Live.addClasses {m : Nat} {H : List O} {p : Part} (h : Live H m p) (w : List Nat) : Live (H.set (m + 1) (.list (p.classes.map .str ++ [.str w]))) m (p.take .classes w) :=
  ⟨by rw [List.getElem?_set_ne (by (first | lia | omega))]; exact h.ids, by rw [get_set h.classes]; simp [Part.take], by rw [List.getElem?_set_ne (by (first | lia | omega))]; exact h.attrs, by rw [List.getElem?_set_ne (by (first | lia | omega))]; exact h.dict⟩
theorem Live.addAttrs {m : Nat} {H : List O} {p : Part} (h : Live H m p) (a : List Nat × Option (List Nat)) : Live (H.set (m + 2) (.list (p.attrs.map attrV ++ [attrV a]))) m { p with attrs := p.attrs ++ [a] } :=
  ⟨by rw [List.getElem?_set_ne (by (first | lia | omega))]; exact h.ids, by rw [List.getElem?_set_ne (by (first | lia | omega))]; exact h.classes, by rw [get_set h.attrs]; simp, by rw [List.getElem?_set_ne (by (first | lia | omega))]; exact h.dict⟩
theorem Grow.set {g i : Nat} {H G : List O} {o : O} (h : Grow g H G) (hi : H.length ≤ i) : Grow g H (G.set i o) := ⟨by rw [List.length_set]; exact h.len, fun j o' n e => by
  have := (List.getElem?_eq_some_iff.mp e).1
  rw [List.getElem?_set_ne (by (first | lia | omega))]; exact h.same j o' n e⟩
theorem Grow.app {g : Nat} {H G τ : List O} (h : Grow g H G) : Grow g H (G ++ τ) := ⟨by rw [List.length_append]; have := h.len; (first | lia | omega), fun j o n e => by
  have := h.same j o n e
  rw [List.getElem?_append_left (List.getElem?_eq_some_iff.mp this).1]; exact this⟩
theorem HandAt.app {g : Nat} {H τ : List O} (h : HandAt g H) : HandAt g (H ++ τ) := by
  obtain ⟨sc, pl, a, b, c⟩ := h
  exact ⟨sc, pl, a, b, by rw [List.getElem?_append_left (List.getElem?_eq_some_iff.mp c).1]; exact c⟩
theorem HandAt.set {g i : Nat} {H : List O} {o : O} (h : HandAt g H) (hi : i ≠ g) : HandAt g (H.set i o) := by
  obtain ⟨sc, pl, a, b, c⟩ := h
  exact ⟨sc, pl, a, b, by rw [List.getElem?_set_ne hi]; exact c⟩

noncomputable abbrev s9p (g : Nat) (w : List Nat) (l2 : Option V) (tx : List Nat) (d : Nat) (l5 l6 l7 l8 : Option V) (H : List O) : St := ⟨[some (.ref g), vs w, l2, vs tx, some (.ref d), l5, l6, l7, l8], H⟩
noncomputable abbrev body15 : S := .seq (.assign 6 (.call 11 (.cons (.loc 0) (.cons (.int 3) .nil))))
    (.ite (.cmp .eq (.loc 6) (.int 0))
      (.seq (.unpack [7, 8] (.call 14 (.cons (.loc 0) .nil)))
      (.seq (.assign 3 (.op .add (.loc 3) (.loc 7)))
      (.expr (.append (.idx (.loc 4) (.str [97, 116, 116, 114, 115])) (.loc 8)))))
      (.seq (.assign 1 (.call 12 (.cons (.loc 0) .nil)))
      (.seq (.assign 3 (.op .add (.op .add (.loc 3) (.idx (.flist (.cons (.str [35]) (.cons (.str [46]) .nil))) (.op .sub (.loc 6) (.int 1)))) (.loc 1)))
      (.expr (.append (.idx (.loc 4) (.idx (.flist (.cons (.str [105, 100, 115]) (.cons (.str [99, 108, 97, 115, 115, 101, 115]) .nil))) (.op .sub (.loc 6) (.int 1)))) (.loc 1))))))

theorem part_step (n g m : Nat) (H : List O) (hgm : g < m) (hHm : H.length ≤ m) (k : Nat) (hk : k < 3) (w tx : List Nat) (p : Part) (G : List O) (l2 l5 l6 l7 l8 : Option V) (h1 : PT tx p) (h2 : Live G m p) (h3 : HandAt g G) (h4 : Grow g H G) (h5 : tx.length ≤ 4 + 45 * k) (h6 : Few p k) :
    ∃ w' tx' p' G' l6' l7' l8', exec (callN (n + 3)) body15 (s9p g w l2 tx (m + 3) l5 l6 l7 l8 G) = ok .next (s9p g w' l2 tx' (m + 3) l5 l6' l7' l8' G') ∧ PT tx' p' ∧ Live G' m p' ∧ HandAt g G' ∧ Grow g H G' ∧ tx'.length ≤ 4 + 45 * (k + 1) ∧ Few p' (k + 1) := by
  have hlim : 10 < lim := by decide
  obtain ⟨d, G1, hd, e1, hh1, gr1, l1⟩ := ev_draw (n + 2) g 3 (st := s9p g w l2 tx (m + 3) l5 l6 l7 l8 G) (by (first | lia | omega)) rfl h3
  have x1 : exec (callN (n + 3)) (.assign 6 (.call 11 (.cons (.loc 0) (.cons (.int 3) .nil)))) (s9p g w l2 tx (m + 3) l5 l6 l7 l8 G) = ok .next (s9p g w l2 tx (m + 3) l5 (vi d) l7 l8 G1) := x_assign e1
  have q1 : evalE (callN (n + 3)) (.cmp .eq (.loc 6) (.int 0)) (s9p g w l2 tx (m + 3) l5 (vi d) l7 l8 G1) = ok (.bool ((d : Int) == 0)) (s9p g w l2 tx (m + 3) l5 (vi d) l7 l8 G1) := rfl
  have L1 := h2.grow gr1 hgm
  have gr01 := h4.trans gr1
  rw [x_seq x1]
  have lk : ∀ (nm : List Nat) (r : Nat) (w0 : List Nat) (t0 : List Nat) (a b c : Option V) (G0 : List O) (p0 : Part), Live G0 m p0 → ([(kName, V.str p0.name), (kIds, .ref m), (kClasses, .ref (m + 1)), (kAttrs, .ref (m + 2))].lookup nm = some (.ref r)) → ∀ (es : E), evalE (callN (n + 3)) es (s9p g w0 l2 t0 (m + 3) l5 a b c G0) = ok (.str nm) (s9p g w0 l2 t0 (m + 3) l5 a b c G0) → evalE (callN (n + 3)) (.idx (.loc 4) es) (s9p g w0 l2 t0 (m + 3) l5 a b c G0) = ok (.ref r) (s9p g w0 l2 t0 (m + 3) l5 a b c G0) := by
    intro nm r w0 t0 a b c G0 p0 L hl es he
    rw [eE_idx, show evalE (callN (n + 3)) (.loc 4) (s9p g w0 l2 t0 (m + 3) l5 a b c G0) = ok (.ref (m + 3)) (s9p g w0 l2 t0 (m + 3) l5 a b c G0) from rfl, bd_ok, he, bd_ok]
    simp only [idxV, L.dict, hl]
    rfl
  by_cases hd0 : d = 0
  · subst hd0
    obtain ⟨s', a, G2, e2, hh2, gr2, l2', bt⟩ := c14 n g G1 hh1
    have bs := bt.short
    have ec := ev_call1 (C := callN (n + 3)) (f := 14) (a := .loc 0) (st := s9p g w l2 tx (m + 3) l5 (vi 0) l7 l8 G1) (u := .ref g) (st' := s9p g w l2 tx (m + 3) l5 (vi 0) l7 l8 G1) rfl e2
    have x2 : exec (callN (n + 3)) (.unpack [7, 8] (.call 14 (.cons (.loc 0) .nil))) (s9p g w l2 tx (m + 3) l5 (vi 0) l7 l8 G1) = ok .next (s9p g w l2 tx (m + 3) l5 (vi 0) (vs (91 :: s')) (some (attrV a)) G2) := x_unpack ec rfl
    have x3 : exec (callN (n + 3)) (.assign 3 (.op .add (.loc 3) (.loc 7))) (s9p g w l2 tx (m + 3) l5 (vi 0) (vs (91 :: s')) (some (attrV a)) G2) = ok .next (s9p g w l2 (tx ++ 91 :: s') (m + 3) l5 (vi 0) (vs (91 :: s')) (some (attrV a)) G2) :=
      x_assign (ev_add (C := callN (n + 3)) (a := .loc 3) (b := .loc 7) (st := s9p g w l2 tx (m + 3) l5 (vi 0) (vs (91 :: s')) (some (attrV a)) G2) (st1 := s9p g w l2 tx (m + 3) l5 (vi 0) (vs (91 :: s')) (some (attrV a)) G2) (st2 := s9p g w l2 tx (m + 3) l5 (vi 0) (vs (91 :: s')) (some (attrV a)) G2) rfl rfl (by simp; (first | lia | omega)))
    have L2 := L1.grow gr2 hgm
    have hf := h6.attrs
    have x4 : exec (callN (n + 3)) (.expr (.append (.idx (.loc 4) (.str [97, 116, 116, 114, 115])) (.loc 8))) (s9p g w l2 (tx ++ 91 :: s') (m + 3) l5 (vi 0) (vs (91 :: s')) (some (attrV a)) G2) = ok .next (s9p g w l2 (tx ++ 91 :: s') (m + 3) l5 (vi 0) (vs (91 :: s')) (some (attrV a)) (G2.set (m + 2) (.list (p.attrs.map attrV ++ [attrV a])))) :=
      x_expr (ev_append' (n := m + 2) (ws := p.attrs.map attrV) (v := attrV a) (lk kAttrs (m + 2) _ _ _ _ _ _ p L2 rfl _ rfl) L2.attrs rfl (by simp; (first | lia | omega)))
    refine ⟨w, tx ++ 91 :: s', { p with attrs := p.attrs ++ [a] }, G2.set (m + 2) (.list (p.attrs.map attrV ++ [attrV a])), vi 0, vs (91 :: s'), some (attrV a), ?_, h1.bracket bt, L2.addAttrs a, hh2.set (by (first | lia | omega)), (gr01.trans gr2).set (by (first | lia | omega)), by simp; (first | lia | omega), ⟨Nat.le_succ_of_le h6.ids, Nat.le_succ_of_le h6.classes, by simp; (first | lia | omega)⟩⟩
    rw [x_iteT q1, x_seq x2, x_seq x3]
    exact x4
  · have f1 : ((d : Int) == 0) = false := by simp; (first | lia | omega)
    rw [f1] at q1
    obtain ⟨w', hw', G2, e2, hh2, gr2, l2'⟩ := ev_word (n + 1) g (st := s9p g w l2 tx (m + 3) l5 (vi d) l7 l8 G1) rfl hh1
    have bw := (word_piece hw').1.short
    have x2 : exec (callN (n + 3)) (.assign 1 (.call 12 (.cons (.loc 0) .nil))) (s9p g w l2 tx (m + 3) l5 (vi d) l7 l8 G1) = ok .next (s9p g w' l2 tx (m + 3) l5 (vi d) l7 l8 G2) := x_assign e2
    have L2 := L1.grow gr2 hgm
    have sub : ∀ (t0 : List Nat), evalE (callN (n + 3)) (.op .sub (.loc 6) (.int 1)) (s9p g w' l2 t0 (m + 3) l5 (vi d) l7 l8 G2) = ok (.int ((d - 1 : Nat) : Int)) (s9p g w' l2 t0 (m + 3) l5 (vi d) l7 l8 G2) := fun t0 => by
      show ok (V.int ((d : Int) - 1)) _ = _
      rw [show ((d : Int) - 1) = ((d - 1 : Nat) : Int) from by (first | lia | omega)]
    have x3 : ∀ c0 : Nat, ([V.str [35], V.str [46]])[d - 1]? = some (.str [c0]) → exec (callN (n + 3)) (.assign 3 (.op .add (.op .add (.loc 3) (.idx (.flist (.cons (.str [35]) (.cons (.str [46]) .nil))) (.op .sub (.loc 6) (.int 1)))) (.loc 1))) (s9p g w' l2 tx (m + 3) l5 (vi d) l7 l8 G2) = ok .next (s9p g w' l2 (tx ++ [c0] ++ w') (m + 3) l5 (vi d) l7 l8 G2) := fun c0 hc0 =>
      x_assign (ev_add (ev_add (C := callN (n + 3)) (a := .loc 3) (st := s9p g w' l2 tx (m + 3) l5 (vi d) l7 l8 G2) (st1 := s9p g w' l2 tx (m + 3) l5 (vi d) l7 l8 G2) rfl (ev_idx (es := .cons (.str [35]) (.cons (.str [46]) .nil)) (ws := [.str [35], .str [46]]) rfl (sub tx) hc0) (by simp; (first | lia | omega))) (show evalE (callN (n + 3)) (.loc 1) (s9p g w' l2 tx (m + 3) l5 (vi d) l7 l8 G2) = ok (.str w') (s9p g w' l2 tx (m + 3) l5 (vi d) l7 l8 G2) from rfl) (by simp; (first | lia | omega)))
    have hd12 : d = 1 ∨ d = 2 := by (first | lia | omega)
    have f1' := h6.ids
    have f2' := h6.classes
    have f3' := h6.attrs
    rcases hd12 with rfl | rfl
    · have x4 : exec (callN (n + 3)) (.expr (.append (.idx (.loc 4) (.idx (.flist (.cons (.str [105, 100, 115]) (.cons (.str [99, 108, 97, 115, 115, 101, 115]) .nil))) (.op .sub (.loc 6) (.int 1)))) (.loc 1))) (s9p g w' l2 (tx ++ [35] ++ w') (m + 3) l5 (vi 1) l7 l8 G2) = ok .next (s9p g w' l2 (tx ++ [35] ++ w') (m + 3) l5 (vi 1) l7 l8 (G2.set m (.list (p.ids.map .str ++ [.str w'])))) :=
        x_expr (ev_append' (n := m) (ws := p.ids.map .str) (v := .str w') (lk kIds m _ _ _ _ _ _ p L2 rfl _ (ev_idx (es := .cons (.str [105, 100, 115]) (.cons (.str [99, 108, 97, 115, 115, 101, 115]) .nil)) (ws := [.str kIds, .str kClasses]) rfl (sub _) rfl)) L2.ids rfl (by simp; (first | lia | omega)))
      refine ⟨w', tx ++ [35] ++ w', p.take .ids w', G2.set m (.list (p.ids.map .str ++ [.str w'])), vi 1, l7, l8, ?_, by rw [List.append_assoc]; exact h1.id hw', L2.addIds w', hh2.set (by (first | lia | omega)), (gr01.trans gr2).set (by (first | lia | omega)), by simp; (first | lia | omega), ⟨by simp [Part.take]; (first | lia | omega), by simp [Part.take]; (first | lia | omega), by simp [Part.take]; (first | lia | omega)⟩⟩
      rw [x_iteF q1, x_seq x2, x_seq (x3 35 rfl)]
      exact x4
    · have x4 : exec (callN (n + 3)) (.expr (.append (.idx (.loc 4) (.idx (.flist (.cons (.str [105, 100, 115]) (.cons (.str [99, 108, 97, 115, 115, 101, 115]) .nil))) (.op .sub (.loc 6) (.int 1)))) (.loc 1))) (s9p g w' l2 (tx ++ [46] ++ w') (m + 3) l5 (vi 2) l7 l8 G2) = ok .next (s9p g w' l2 (tx ++ [46] ++ w') (m + 3) l5 (vi 2) l7 l8 (G2.set (m + 1) (.list (p.classes.map .str ++ [.str w'])))) :=
        x_expr (ev_append' (n := m + 1) (ws := p.classes.map .str) (v := .str w') (lk kClasses (m + 1) _ _ _ _ _ _ p L2 rfl _ (ev_idx (es := .cons (.str [105, 100, 115]) (.cons (.str [99, 108, 97, 115, 115, 101, 115]) .nil)) (ws := [.str kIds, .str kClasses]) rfl (sub _) rfl)) L2.classes rfl (by simp; (first | lia | omega)))
      refine ⟨w', tx ++ [46] ++ w', p.take .classes w', G2.set (m + 1) (.list (p.classes.map .str ++ [.str w'])), vi 2, l7, l8, ?_, by rw [List.append_assoc]; exact h1.class_ hw', L2.addClasses w', hh2.set (by (first | lia | omega)), (gr01.trans gr2).set (by (first | lia | omega)), by simp; (first | lia | omega), ⟨by simp [Part.take]; (first | lia | omega), by simp [Part.take]; (first | lia | omega), by simp [Part.take]; (first | lia | omega)⟩⟩
      rw [x_iteF q1, x_seq x2, x_seq (x3 46 rfl)]
      exact x4
end D
end Nt
end

section
set_option genSizeOf false
set_option genInjectivity false
set_option maxRecDepth 100000
set_option autoImplicit false
namespace Nt
namespace D

theorem c15 (n g : Nat) (H : List O) (h : HandAt g H) : ∃ tx p m H', callN (n + 4) 15 [.ref g] H = some (.ok (.tup [.str tx, .ref (m + 3)]), H') ∧ H.length ≤ m ∧ HandAt g H' ∧ Grow g H H' ∧ Live H' m p ∧ PT tx p ∧ tx ≠ [] ∧ tx.length ≤ 100 := by
  let C := callN (n + 3)
  have hg := h.lt
  rw [callN_eq (by decide) (show bodyOf 15 = some (1, 9, body_law_part) from rfl) rfl]
  obtain ⟨w, hw, H1, e1, hh1, gr1, l1⟩ := ev_word (n + 1) g (st := ⟨[some (.ref g), none, none, none, none, none, none, none, none], H⟩) rfl h
  have bw := (word_piece hw).1.short
  have x1 : exec C (.assign 1 (.call 12 (.cons (.loc 0) .nil))) ⟨[some (.ref g), none, none, none, none, none, none, none, none], H⟩ = ok .next ⟨[some (.ref g), vs w, none, none, none, none, none, none, none], H1⟩ := x_assign e1
  obtain ⟨d1, H2, hd1, e2, hh2, gr2, l2⟩ := ev_draw (n + 2) g 3 (st := ⟨[some (.ref g), vs w, none, none, none, none, none, none, none], H1⟩) (by (first | lia | omega)) rfl hh1
  have x2 : exec C (.assign 2 (.call 11 (.cons (.loc 0) (.cons (.int 3) .nil)))) ⟨[some (.ref g), vs w, none, none, none, none, none, none, none], H1⟩ = ok .next ⟨[some (.ref g), vs w, vi d1, none, none, none, none, none, none], H2⟩ := x_assign e2
  have gr02 : Grow g H H2 := gr1.trans gr2
  have len2 : H2.length = H.length := by rw [l2]; exact l1
  obtain ⟨tx0, nm0, ht0, hn0, pt0, bt0⟩ : ∃ tx0 nm0 : List Nat, ([V.str [42], V.str [], V.str w])[d1]? = some (.str tx0) ∧ ([V.str [], V.str [], V.str w])[d1]? = some (.str nm0) ∧ PT tx0 { noPart with name := nm0 } ∧ tx0.length ≤ 4 := by
    have : d1 = 0 ∨ d1 = 1 ∨ d1 = 2 := by (first | lia | omega)
    rcases this with rfl | rfl | rfl
    · exact ⟨[42], [], rfl, rfl, pt_star, by simp⟩
    · exact ⟨[], [], rfl, rfl, pt_nil, by simp⟩
    · exact ⟨w, w, rfl, rfl, pt_word hw, bw⟩
  have x3 : exec C (.assign 3 (.idx (.flist (.cons (.str [42]) (.cons (.str []) (.cons (.loc 1) .nil)))) (.loc 2))) ⟨[some (.ref g), vs w, vi d1, none, none, none, none, none, none], H2⟩ = ok .next ⟨[some (.ref g), vs w, vi d1, vs tx0, none, none, none, none, none], H2⟩ :=
    x_assign (ev_idx (C := C) (es := .cons (.str [42]) (.cons (.str []) (.cons (.loc 1) .nil))) (i := .loc 2) (ws := [.str [42], .str [], .str w]) (st := ⟨[some (.ref g), vs w, vi d1, none, none, none, none, none, none], H2⟩) (st2 := ⟨[some (.ref g), vs w, vi d1, none, none, none, none, none, none], H2⟩) rfl rfl ht0)
  let m := H2.length
  have x4 : exec C (.assign 4 (.dict [kName, kIds, kClasses, kAttrs] (.cons (.idx (.flist (.cons (.str []) (.cons (.str []) (.cons (.loc 1) .nil)))) (.loc 2)) (.cons (.list .nil) (.cons (.list .nil) (.cons (.list .nil) .nil)))))) ⟨[some (.ref g), vs w, vi d1, vs tx0, none, none, none, none, none], H2⟩ = ok .next (s9p g w (vi d1) tx0 (m + 3) none none none none (H2 ++ partO m { noPart with name := nm0 })) := by
    let st : St := ⟨[some (.ref g), vs w, vi d1, vs tx0, none, none, none, none, none], H2⟩
    have ei := ev_idx (C := C) (es := .cons (.str []) (.cons (.str []) (.cons (.loc 1) .nil))) (i := .loc 2) (ws := [.str [], .str [], .str w]) (st := st) (st2 := st) rfl rfl hn0
    have ees := ev_cons ei (ev_cons (C := C) (a := .list .nil) (b := .cons (.list .nil) (.cons (.list .nil) .nil)) rfl (ev_cons (C := C) (a := .list .nil) (b := .cons (.list .nil) .nil) rfl (ev_cons (C := C) (a := .list .nil) (b := .nil) rfl rfl)))
    refine x_assign (v := .ref (m + 3)) (st' := ⟨st.loc, H2 ++ partO m { noPart with name := nm0 }⟩) ?_
    rw [eE_dict, ees, bd_ok]
    simp [partO, st, ok, m, noPart]
  have hm : H.length ≤ m := by show H.length ≤ H2.length; (first | lia | omega)
  have hgm : g < m := by (first | lia | omega)
  have L0 : Live (H2 ++ partO m { noPart with name := nm0 }) m { noPart with name := nm0 } := ⟨by simp [m, partO], by simp [m, partO], by simp [m, partO], by simp [m, partO]⟩
  obtain ⟨d2, H4, hd2, e4, hh4, gr4, l4⟩ := ev_draw (n + 2) g 3 (st := s9p g w (vi d1) tx0 (m + 3) none none none none (H2 ++ partO m { noPart with name := nm0 })) (by (first | lia | omega)) rfl hh2.app
  obtain ⟨st5, e5, ⟨w5, tx5, p5, G5, l55, l65, l75, l85, rfl, pt5, L5, hh5, gr5, b5, few5⟩⟩ := for_inv (i := 5) (b := exec C body15) (P := fun k st => ∃ w tx p G l5 l6 l7 l8, st = s9p g w (vi d1) tx (m + 3) l5 l6 l7 l8 G ∧ PT tx p ∧ Live G m p ∧ HandAt g G ∧ Grow g H G ∧ tx.length ≤ 4 + 45 * k ∧ Few p k) d2 (fun k st hk ⟨w, tx, p, G, l5, l6, l7, l8, est, a1, a2, a3, a4, a5, a6⟩ => by
      subst est
      obtain ⟨w', tx', p', G', l6', l7', l8', ee, c1, c2, c3, c4, c5, c6⟩ := part_step n g m H hgm hm k (by (first | lia | omega)) w tx p G (vi d1) (vi k) l6 l7 l8 a1 a2 a3 a4 a5 a6
      exact ⟨_, ee, w', tx', p', G', _, l6', l7', l8', rfl, c1, c2, c3, c4, c5, c6⟩)
    (s9p g w (vi d1) tx0 (m + 3) none none none none H4) ⟨w, tx0, { noPart with name := nm0 }, H4, none, none, none, none, rfl, pt0, L0.grow gr4 hgm, hh4, gr02.app.trans gr4, by (first | lia | omega), ⟨Nat.zero_le _, Nat.zero_le _, Nat.zero_le _⟩⟩
  have x5 : exec C (.forRange 5 (.call 11 (.cons (.loc 0) (.cons (.int 3) .nil))) body15) (s9p g w (vi d1) tx0 (m + 3) none none none none (H2 ++ partO m { noPart with name := nm0 })) = ok .next (s9p g w5 (vi d1) tx5 (m + 3) l55 l65 l75 l85 G5) := x_for e4 (by (first | lia | omega)) e5
  have hpre : ∀ v, evalE C (.tup (.cons (.ifx (.cmp .eq (.loc 3) (.str [])) (.str [42]) (.loc 3)) (.cons (.loc 4) .nil))) (s9p g w5 (vi d1) tx5 (m + 3) l55 l65 l75 l85 G5) = ok v (s9p g w5 (vi d1) tx5 (m + 3) l55 l65 l75 l85 G5) → runBody C 9 body_law_part [.ref g] H = some (.ok v, G5) := by
    intro v hv
    refine runBody_of (st := ⟨[some (.ref g), none, none, none, none, none, none, none, none], H⟩) (st2 := s9p g w5 (vi d1) tx5 (m + 3) l55 l65 l75 l85 G5) rfl ?_
    unfold body_law_part
    rw [x_seq x1, x_seq x2, x_seq x3, x_seq x4, x_seq x5]
    exact x_ret hv
  cases htx : tx5 with
  | nil =>
    have hp5 := pt5.nil htx
    subst hp5
    subst htx
    exact ⟨[42], noPart, m, G5, hpre _ rfl, hm, hh5, gr5, L5, pt_star, by simp, by simp⟩
  | cons a r =>
    subst htx
    exact ⟨a :: r, p5, m, G5, hpre _ rfl, hm, hh5, gr5, L5, pt5, by simp, by (first | lia | omega)⟩

-- the text as a whole
noncomputable def SA (s : List Nat) (x : Ctx) : Prop := ∀ c r, PStart c → run .part ctx0 (s ++ c :: r) = run .part x (c :: r)
noncomputable def StartB (r : List Nat) : Prop := r = [] ∨ ∃ c r', r = c :: r' ∧ (c = 44 ∨ c = 62 ∨ c = 43 ∨ c = 126 ∨ c = 32)
noncomputable def SB (s : List Nat) (x : Ctx) : Prop := ∀ r, StartB r → (endsW s [45, 45] = true → r.head? ≠ some 62) → run .part ctx0 (s ++ r) = run .more x r
theorem sa0 {g : List Nat} (h : g ∈ gaps) : SA g ctx0 := fun c r _ => rd_gap rfl (gap_piece h).2
theorem more_gap' {x : Ctx} {r : List Nat} (h : StartB r) : run .gap x r = run .more x r := by
  rcases h with rfl | ⟨c, r', rfl, h⟩
  · rfl
  · rcases h with rfl | rfl | rfl | rfl | rfl <;> rfl
theorem sb_part {s tx g : List Nat} {x : Ctx} {p : Part} (h : SA s x) (pt : PT tx p) (hne : tx ≠ []) (hg : g ∈ gaps) : SB (s ++ tx ++ g) { x with p := p } := by
  intro r hr he
  have sg := (gap_piece hg).2
  obtain ⟨c, tx', rfl⟩ : ∃ c t, tx = c :: t := by cases tx with
    | nil => exact absurd rfl hne
    | cons c t => exact ⟨c, t, rfl⟩
  rw [show s ++ c :: tx' ++ g ++ r = s ++ c :: (tx' ++ (g ++ r)) from by simp, h c _ (pt.hd c tx' rfl)]
  rw [show c :: (tx' ++ (g ++ r)) = c :: tx' ++ (g ++ r) from rfl, pt.rd (by simp) x (g ++ r) (after_gap sg fun d r' e => by
    subst e
    rcases hr with hr | ⟨d', r'', e, hd⟩
    · (first | exact no hr | exact no1 hr | exact no2 hr | exact noE hr | exact noE1 hr | obtain rfl := Option.some.inj hr | obtain rfl := Except.ok.inj hr | obtain rfl := hr | cases hr)
    · (first | exact no e | exact no1 e | exact no2 e | exact noE e | exact noE1 e | obtain rfl := Option.some.inj e | obtain rfl := Except.ok.inj e | obtain rfl := e | cases e)
      refine ⟨by rcases hd with rfl | rfl | rfl | rfl | rfl <;> decide, fun q hg0 => ?_⟩
      subst hg0
      have := he (by rw [List.append_nil]; exact endsW_app q)
      simpa using this)]
  cases g with
  | nil => rfl
  | cons a g =>
    simp only [List.all_cons, Bool.and_eq_true] at sg
    rw [List.cons_append, run_of (show step .more { x with p := p } a = .ok (.gap, { x with p := p }) from by simp [step, step1, sg.1]), rd_gap rfl sg.2, more_gap' hr]
theorem sa_comma {s g : List Nat} {x : Ctx} (h : SB s x) (hg : g ∈ gaps) : SA (s ++ [44] ++ g) x.comma := by
  intro c r hc
  rw [show s ++ [44] ++ g ++ c :: r = s ++ 44 :: (g ++ c :: r) from by simp, h _ (.inr ⟨44, _, rfl, .inl rfl⟩) (fun _ => by simp), run_of (show step .more x 44 = .ok (.part, x.comma) from rfl), rd_gap rfl (gap_piece hg).2]
noncomputable def spOf (s : List Nat) : List Nat := if endsW s [45, 45] then [32] else []
theorem pstart_part {x : Ctx} {c : Nat} {r : List Nat} (hc : PStart c) : run .gap x (c :: r) = run .part (x.join [32]) (c :: r) := by
  rw [run_step, run_step]
  have : step .gap x c = step .part (x.join [32]) c := by
    have hs : isSp c = false ∧ c ≠ 44 ∧ isJoint c = false := by
      rcases hc with h | rfl | rfl | rfl | rfl
      · refine ⟨lt_not_sp h, fun q => by subst q; simp [isLt] at h, ?_⟩
        cases q : isJoint c with
        | false => rfl
        | true =>
          simp [isJoint] at q
          rcases q with rfl | rfl | rfl <;> simp [isLt] at h
      · decide
      · decide
      · decide
      · decide
    simp only [step, step1, hs.1, hs.2.1, hs.2.2, Bool.false_eq_true, if_false]
  rw [this]
theorem sa_joint {s g : List Nat} {x : Ctx} {j : Nat} (h : SB s x) (hj : j = 62 ∨ j = 32 ∨ j = 43 ∨ j = 126) (hg : g ∈ gaps) : SA (s ++ spOf s ++ [j] ++ g) (x.join [j]) := by
  intro c r hc
  have sg := (gap_piece hg).2
  have key : run .part ctx0 (s ++ spOf s ++ [j] ++ g ++ c :: r) = run .more x (spOf s ++ j :: (g ++ c :: r)) := by
    rw [show s ++ spOf s ++ [j] ++ g ++ c :: r = s ++ (spOf s ++ j :: (g ++ c :: r)) from by simp]
    refine h _ ?_ fun q => ?_
    · unfold spOf
      split
      · exact .inr ⟨32, _, rfl, by simp⟩
      · exact .inr ⟨j, _, rfl, by (first | lia | omega)⟩
    · unfold spOf; rw [if_pos q]; simp
  rw [key]
  have base : ∀ q : Q, q = .more ∨ q = .gap → run q x (j :: (g ++ c :: r)) = run .part (x.join [j]) (c :: r) := by
    intro q hq
    by_cases h32 : j = 32
    · subst h32
      have : run q x (32 :: (g ++ c :: r)) = run .gap x (g ++ c :: r) := by rcases hq with rfl | rfl <;> exact run_of rfl
      rw [this, rd_gap rfl sg, pstart_part hc]
    · have hj' : j = 62 ∨ j = 43 ∨ j = 126 := by (first | lia | omega)
      have : run q x (j :: (g ++ c :: r)) = run .part (x.join [j]) (g ++ c :: r) := by rcases hq with rfl | rfl <;> rcases hj' with rfl | rfl | rfl <;> exact run_of rfl
      rw [this, rd_gap rfl sg]
  unfold spOf
  split
  · rw [List.cons_append, List.nil_append, run_of (show step .more x 32 = .ok (.gap, x) from rfl)]
    exact base .gap (.inr rfl)
  · exact base .more (.inl rfl)
theorem cl_joint {s : List Nat} {j : Nat} (h : Cl s = true) (hj : j = 62 ∨ j = 32 ∨ j = 43 ∨ j = 126) : Cl (s ++ spOf s ++ [j]) = true := by
  have h1 : Cl (s ++ spOf s) = true := by
    unfold spOf
    split
    · exact clApp h (piece1 (by decide))
    · rw [List.append_nil]; exact h
  by_cases h62 : j = 62
  · subst h62
    refine Cl.gt h1 ?_
    unfold spOf
    split
    · cases q : endsW (s ++ [32]) [45, 45] with
      | false => rfl
      | true =>
        simp only [endsW, Bool.and_eq_true, beq_iff_eq] at q
        have := congrArg List.getLast? q.2
        rw [List.getLast?_drop] at this
        simp at this
    · rename_i q
      rw [List.append_nil]
      simpa using q
  · exact clApp h1 (piece1 h62)
end D
end Nt
end

section
set_option genSizeOf false
set_option genInjectivity false
set_option maxRecDepth 100000
set_option autoImplicit false
namespace Nt
namespace D

noncomputable def F2 (g q n j : Nat) : Prop := j ≠ g ∧ j ≠ q ∧ j ≠ n
structure HB (g q n c : Nat) (G : List O) (cs : List Chain) (items : Chain) (b : Nat) : Prop where
  gq : g ≠ q
  gn : g ≠ n
  qn : q ≠ n
  outer : ∃ ws, ws.length = c ∧ G[q]? = some (.list (ws ++ [.ref n])) ∧ RepChains (F2 g q n) G ws cs
  chain : ∃ us, us.length = b ∧ G[n]? = some (.list us) ∧ RepItems (F2 g q n) G us items
structure HA (g q c : Nat) (G : List O) (cs : List Chain) : Prop where
  gq : g ≠ q
  outer : ∃ ws, ws.length = c ∧ G[q]? = some (.list ws) ∧ RepChains (fun j => j ≠ g ∧ j ≠ q) G ws cs
theorem HB.grow {g q n c : Nat} {G G' : List O} {cs : List Chain} {items : Chain} {b : Nat} (h : HB g q n c G cs items b) (gr : Grow g G G') : HB g q n c G' cs items b := by
  obtain ⟨ws, l, e, r⟩ := h.outer
  obtain ⟨us, l', e', r'⟩ := h.chain
  have kp : Keep (F2 g q n) (F2 g q n) G G' := ⟨fun _ x => x, fun j o f ej => gr.same j o f.1 ej⟩
  exact ⟨h.gq, h.gn, h.qn, ⟨ws, l, gr.same _ _ (Ne.symm h.gq) e, r.mono kp⟩, ⟨us, l', gr.same _ _ (Ne.symm h.gn) e', r'.mono kp⟩⟩
theorem HB.lt {g q n c : Nat} {G : List O} {cs : List Chain} {items : Chain} {b : Nat} (h : HB g q n c G cs items b) : q < G.length ∧ n < G.length := by
  obtain ⟨ws, l, e, r⟩ := h.outer
  obtain ⟨us, l', e', r'⟩ := h.chain
  exact ⟨(List.getElem?_eq_some_iff.mp e).1, (List.getElem?_eq_some_iff.mp e').1⟩
theorem HB.add {g q n c m : Nat} {G : List O} {cs : List Chain} {items : Chain} {b : Nat} {p : Part} (h : HB g q n c G cs items b) (L : Live G m p) (h1 : g < m) (h2 : q < m) (h3 : n < m) (jt : List Nat) :
    ∃ us, us.length = b ∧ G[n]? = some (.list us) ∧ HB g q n c (G.set n (.list (us ++ [.tup [.str jt, .ref (m + 3)]]))) cs (items ++ [(jt, p)]) (b + 1) := by
  obtain ⟨ws, l, e, r⟩ := h.outer
  obtain ⟨us, l', e', r'⟩ := h.chain
  have kp : Keep (F2 g q n) (F2 g q n) G (G.set n (.list (us ++ [.tup [.str jt, .ref (m + 3)]]))) := Keep.set _ _ (fun f => f.2.2 rfl)
  have rp : RepPart (F2 g q n) G (m + 3) p := ⟨m, m + 1, m + 2, ⟨by (first | lia | omega), by (first | lia | omega), by (first | lia | omega)⟩, ⟨by (first | lia | omega), by (first | lia | omega), by (first | lia | omega)⟩, ⟨by (first | lia | omega), by (first | lia | omega), by (first | lia | omega)⟩, ⟨by (first | lia | omega), by (first | lia | omega), by (first | lia | omega)⟩, L.dict, L.ids, L.classes, L.attrs⟩
  refine ⟨us, l', e', h.gq, h.gn, h.qn, ⟨ws, l, ?_, r.mono kp⟩, ⟨us ++ [.tup [.str jt, .ref (m + 3)]], by simp [l'], get_set e', (r'.mono kp).snoc (rp.mono kp)⟩⟩
  rw [List.getElem?_set_ne (Ne.symm h.qn)]; exact e
theorem HB.done {g q n c : Nat} {G : List O} {cs : List Chain} {items : Chain} {b : Nat} (h : HB g q n c G cs items b) : HA g q (c + 1) G (cs ++ [items]) := by
  obtain ⟨ws, l, e, r⟩ := h.outer
  obtain ⟨us, l', e', r'⟩ := h.chain
  have kp : Keep (F2 g q n) (fun j => j ≠ g ∧ j ≠ q) G G := Keep.imp _ fun j f => ⟨f.1, f.2.1⟩
  exact ⟨h.gq, ws ++ [.ref n], by simp [l], e, (r.mono kp).snoc ⟨⟨Ne.symm h.gn, Ne.symm h.qn⟩, us, e', r'.mono kp⟩⟩
theorem HA.grow {g q c : Nat} {G G' : List O} {cs : List Chain} (h : HA g q c G cs) (gr : Grow g G G') : HA g q c G' cs := by
  obtain ⟨ws, l, e, r⟩ := h.outer
  exact ⟨h.gq, ws, l, gr.same _ _ (Ne.symm h.gq) e, r.mono ⟨fun _ x => x, fun j o f ej => gr.same j o f.1 ej⟩⟩
theorem HA.new {g q c : Nat} {G : List O} {cs : List Chain} (h : HA g q c G cs) (hg : g < G.length) : ∃ ws, ws.length = c ∧ G[q]? = some (.list ws) ∧ HB g q G.length c ((G ++ [O.list []]).set q (O.list (ws ++ [V.ref G.length]))) cs [] 0 := by
  obtain ⟨ws, l, e, r⟩ := h.outer
  have hq : q < G.length := (List.getElem?_eq_some_iff.mp e).1
  have kp : Keep (fun j => (j ≠ g ∧ j ≠ q) ∧ j < G.length) (F2 g q G.length) G ((G ++ [O.list []]).set q (O.list (ws ++ [V.ref G.length]))) :=
    ⟨fun j f => ⟨f.1.1, f.1.2, by (first | lia | omega)⟩, fun j o f ej => by
      rw [List.getElem?_set_ne (Ne.symm f.1.2), List.getElem?_append_left f.2]; exact ej⟩
  refine ⟨ws, l, e, h.gq, by (first | lia | omega), by (first | lia | omega), ⟨ws, l, ?_, r.bd.mono kp⟩, ⟨[], rfl, ?_, trivial⟩⟩
  · rw [List.getElem?_set_self (by rw [List.length_append]; (first | lia | omega))]
  · rw [List.getElem?_set_ne (by (first | lia | omega))]; simp

theorem pick_at (ws : List V) (v : V) : pick (ws ++ [v]) (ws.length : Int) = some v := by
  unfold pick
  rw [if_pos (by (first | lia | omega)), Int.toNat_natCast]
  simp

noncomputable abbrev s8w (g q : Nat) (tx : List Nat) (l3 : Option V) (jt : List Nat) (l5 l6 l7 : Option V) (H : List O) : St := ⟨[some (.ref g), vs tx, some (.ref q), l3, vs jt, l5, l6, l7], H⟩
noncomputable abbrev I1 : S := .ite (.cmp .gt (.loc 5) (.int 0))
        (.seq (.assign 4 (.idx (.flist (.cons (.str [62]) (.cons (.str [32]) (.cons (.str [43]) (.cons (.str [126]) .nil))))) (.call 11 (.cons (.loc 0) (.cons (.int 4) .nil)))))
        (.assign 1 (.op .add (.op .add (.op .add (.loc 1) (.ifx (.endswith (.loc 1) (.str [45, 45])) (.str [32]) (.str []))) (.loc 4)) (.call 13 (.cons (.loc 0) .nil)))))
        .skip
noncomputable abbrev I2 : S := .unpack [6, 7] (.call 15 (.cons (.loc 0) .nil))
noncomputable abbrev I3 : S := .expr (.append (.idx (.loc 2) (.loc 3)) (.tup (.cons (.loc 4) (.cons (.loc 7) .nil))))
noncomputable abbrev I4 : S := .assign 1 (.op .add (.op .add (.loc 1) (.loc 6)) (.call 13 (.cons (.loc 0) .nil)))
noncomputable abbrev inner16 : S := .seq I1 (.seq I2 (.seq I3 I4))

noncomputable def Phase (k : Nat) (tx jt : List Nat) (cs : List Chain) (items : Chain) : Prop := (k = 0 ∧ ∃ x, SA tx x ∧ x.cs = cs ∧ x.cur = items ∧ x.j = jt) ∨ (0 < k ∧ ∃ x, SB tx x ∧ x.cs = cs ∧ items = x.laid)

theorem inner_step (n g q nn c : Nat) (H : List O) (k : Nat) (hk : k < 2) (tx jt : List Nat) (G : List O) (l6 l7 : Option V) (cs : List Chain) (items : Chain) (ph : Phase k tx jt cs items) (hcl : Cl tx = true) (hh : HandAt g G) (gr : Grow g H G) (hb : HB g q nn c G cs items k) (hq : H.length ≤ q) (hn : H.length ≤ nn) (hlen : tx.length ≤ 500) :
    ∃ tx' jt' items' G' l6' l7', exec (callN (n + 4)) inner16 (s8w g q tx (vi c) jt (vi k) l6 l7 G) = ok .next (s8w g q tx' (vi c) jt' (vi k) l6' l7' G') ∧ Phase (k + 1) tx' jt' cs items' ∧ Cl tx' = true ∧ HandAt g G' ∧ Grow g H G' ∧ HB g q nn c G' cs items' (k + 1) ∧ tx'.length ≤ tx.length + 120 := by
  have hlim : 10 < lim := by decide
  -- the joint
  have joint : ∃ tx1 jt1 G1 x, exec (callN (n + 4)) I1 (s8w g q tx (vi c) jt (vi k) l6 l7 G) = ok .next (s8w g q tx1 (vi c) jt1 (vi k) l6 l7 G1) ∧ SA tx1 x ∧ x.cs = cs ∧ x.cur = items ∧ x.j = jt1 ∧ Cl tx1 = true ∧ HandAt g G1 ∧ Grow g G G1 ∧ tx1.length ≤ tx.length + 6 := by
    rcases ph with ⟨rfl, x, h1, h2, h3, h4⟩ | ⟨hk0, x, h1, h2, h3⟩
    · exact ⟨tx, jt, G, x, rfl, h1, h2, h3, h4, hcl, hh, .refl _ _, by (first | lia | omega)⟩
    · have q1 : evalE (callN (n + 4)) (.cmp .gt (.loc 5) (.int 0)) (s8w g q tx (vi c) jt (vi k) l6 l7 G) = ok (.bool true) (s8w g q tx (vi c) jt (vi k) l6 l7 G) := ev_cmp' (u := .int k) (v := .int 0) rfl rfl (by simp [cmpV, hk0])
      obtain ⟨d, G1, hd, e1, hh1, gr1, _⟩ := ev_draw (n + 3) g 4 (st := s8w g q tx (vi c) jt (vi k) l6 l7 G) (by (first | lia | omega)) rfl hh
      obtain ⟨j, hj, hjr⟩ : ∃ j : Nat, (j = 62 ∨ j = 32 ∨ j = 43 ∨ j = 126) ∧ ([V.str [62], V.str [32], V.str [43], V.str [126]])[d]? = some (.str [j]) := by
        have : d = 0 ∨ d = 1 ∨ d = 2 ∨ d = 3 := by (first | lia | omega)
        rcases this with rfl | rfl | rfl | rfl
        · exact ⟨62, by (first | lia | omega), rfl⟩
        · exact ⟨32, by (first | lia | omega), rfl⟩
        · exact ⟨43, by (first | lia | omega), rfl⟩
        · exact ⟨126, by (first | lia | omega), rfl⟩
      have x1 : exec (callN (n + 4)) (.assign 4 (.idx (.flist (.cons (.str [62]) (.cons (.str [32]) (.cons (.str [43]) (.cons (.str [126]) .nil))))) (.call 11 (.cons (.loc 0) (.cons (.int 4) .nil))))) (s8w g q tx (vi c) jt (vi k) l6 l7 G) = ok .next (s8w g q tx (vi c) [j] (vi k) l6 l7 G1) :=
        x_assign (ev_idx (es := .cons (.str [62]) (.cons (.str [32]) (.cons (.str [43]) (.cons (.str [126]) .nil)))) (ws := [.str [62], .str [32], .str [43], .str [126]]) rfl e1 hjr)
      obtain ⟨gp, hgp, G2, e2, hh2, gr2, _⟩ := ev_gap (n + 2) g (st := s8w g q tx (vi c) [j] (vi k) l6 l7 G1) rfl hh1
      have bg := (gap_piece hgp).1.short
      have bs : (spOf tx).length ≤ 1 := by unfold spOf; split <;> simp
      have esp : evalE (callN (n + 4)) (.ifx (.endswith (.loc 1) (.str [45, 45])) (.str [32]) (.str [])) (s8w g q tx (vi c) [j] (vi k) l6 l7 G1) = ok (.str (spOf tx)) (s8w g q tx (vi c) [j] (vi k) l6 l7 G1) := by
        rw [eE_ifx, show evalE (callN (n + 4)) (.endswith (.loc 1) (.str [45, 45])) (s8w g q tx (vi c) [j] (vi k) l6 l7 G1) = ok (.bool (endsW tx [45, 45])) (s8w g q tx (vi c) [j] (vi k) l6 l7 G1) from rfl, bd_ok]
        unfold spOf
        cases endsW tx [45, 45] <;> rfl
      have x2 : exec (callN (n + 4)) (.assign 1 (.op .add (.op .add (.op .add (.loc 1) (.ifx (.endswith (.loc 1) (.str [45, 45])) (.str [32]) (.str []))) (.loc 4)) (.call 13 (.cons (.loc 0) .nil)))) (s8w g q tx (vi c) [j] (vi k) l6 l7 G1) = ok .next (s8w g q (tx ++ spOf tx ++ [j] ++ gp) (vi c) [j] (vi k) l6 l7 G2) :=
        x_assign (ev_add (ev_add (ev_add (C := callN (n + 4)) (a := .loc 1) (st1 := s8w g q tx (vi c) [j] (vi k) l6 l7 G1) rfl esp (by (first | lia | omega))) (show evalE (callN (n + 4)) (.loc 4) (s8w g q tx (vi c) [j] (vi k) l6 l7 G1) = ok (.str [j]) (s8w g q tx (vi c) [j] (vi k) l6 l7 G1) from rfl) (by simp; (first | lia | omega))) e2 (by simp; (first | lia | omega)))
      refine ⟨tx ++ spOf tx ++ [j] ++ gp, [j], G2, x.join [j], ?_, sa_joint h1 hj hgp, h2, h3.symm, rfl, clApp (cl_joint hcl hj) (gap_piece hgp).1, hh2, gr1.trans gr2, by simp; (first | lia | omega)⟩
      rw [x_iteT q1, x_seq x1]
      exact x2
  obtain ⟨tx1, jt1, G1, x, e1, sa, c1, c2, c3, cl1, hh1, gr1, b1⟩ := joint
  have hb1 := hb.grow gr1
  obtain ⟨ptx, p, m, G2, e2, hm, hh2, gr2, L, pt, pne, bp⟩ := c15 n g G1 hh1
  have hb2 := hb1.grow gr2
  have lt1 := hb1.lt
  have hg1 := hh1.lt
  have ec := ev_call1 (C := callN (n + 4)) (f := 15) (a := .loc 0) (st := s8w g q tx1 (vi c) jt1 (vi k) l6 l7 G1) (u := .ref g) (st' := s8w g q tx1 (vi c) jt1 (vi k) l6 l7 G1) rfl e2
  have x2 : exec (callN (n + 4)) I2 (s8w g q tx1 (vi c) jt1 (vi k) l6 l7 G1) = ok .next (s8w g q tx1 (vi c) jt1 (vi k) (vs ptx) (some (.ref (m + 3))) G2) := x_unpack ec rfl
  obtain ⟨us, lu, eu, hb3⟩ := hb2.add L (by (first | lia | omega)) (by (first | lia | omega)) (by (first | lia | omega)) jt1
  have eidx : evalE (callN (n + 4)) (.idx (.loc 2) (.loc 3)) (s8w g q tx1 (vi c) jt1 (vi k) (vs ptx) (some (.ref (m + 3))) G2) = ok (.ref nn) (s8w g q tx1 (vi c) jt1 (vi k) (vs ptx) (some (.ref (m + 3))) G2) := by
    obtain ⟨ws, lw, ew, _⟩ := hb2.outer
    show lift (idxV G2 (.ref q) (.int c)) _ = _
    subst lw
    simp only [idxV, ew, pick_at]
    rfl
  have x3 : exec (callN (n + 4)) I3 (s8w g q tx1 (vi c) jt1 (vi k) (vs ptx) (some (.ref (m + 3))) G2) = ok .next (s8w g q tx1 (vi c) jt1 (vi k) (vs ptx) (some (.ref (m + 3))) (G2.set nn (.list (us ++ [.tup [.str jt1, .ref (m + 3)]])))) :=
    x_expr (ev_append' (n := nn) (ws := us) (v := .tup [.str jt1, .ref (m + 3)]) eidx eu rfl (by (first | lia | omega)))
  have hh3 : HandAt g (G2.set nn (.list (us ++ [.tup [.str jt1, .ref (m + 3)]]))) := hh2.set (Ne.symm hb2.gn)
  obtain ⟨gp, hgp, G4, e4, hh4, gr4, _⟩ := ev_gap (n + 2) g (st := s8w g q tx1 (vi c) jt1 (vi k) (vs ptx) (some (.ref (m + 3))) (G2.set nn (.list (us ++ [.tup [.str jt1, .ref (m + 3)]])))) rfl hh3
  have bg := (gap_piece hgp).1.short
  have x4 : exec (callN (n + 4)) I4 (s8w g q tx1 (vi c) jt1 (vi k) (vs ptx) (some (.ref (m + 3))) (G2.set nn (.list (us ++ [.tup [.str jt1, .ref (m + 3)]])))) = ok .next (s8w g q (tx1 ++ ptx ++ gp) (vi c) jt1 (vi k) (vs ptx) (some (.ref (m + 3))) G4) := by
    let st : St := s8w g q tx1 (vi c) jt1 (vi k) (vs ptx) (some (.ref (m + 3))) (G2.set nn (.list (us ++ [.tup [.str jt1, .ref (m + 3)]])))
    exact x_assign (ev_add (ev_add (C := callN (n + 4)) (a := .loc 1) (b := .loc 6) (st := st) (st1 := st) (st2 := st) rfl rfl (by (first | lia | omega))) e4 (by simp; (first | lia | omega)))
  refine ⟨tx1 ++ ptx ++ gp, jt1, items ++ [(jt1, p)], G4, vs ptx, some (.ref (m + 3)), ?_, .inr ⟨by (first | lia | omega), { x with p := p }, sb_part sa pt pne hgp, c1, ?_⟩, clApp (Cl.app cl1 pt.cl (pt.nl pne)) (gap_piece hgp).1, hh4, ?_, hb3.grow gr4, by simp; (first | lia | omega)⟩
  · rw [x_seq e1, x_seq x2, x_seq x3]
    exact x4
  · show _ = x.cur ++ [(x.j, p)]
    rw [c2, c3]
  · exact (((gr.trans gr1).trans gr2).set hn).trans gr4

noncomputable abbrev O1 : S := .ite (.cmp .gt (.loc 3) (.int 0)) (.assign 1 (.op .add (.op .add (.loc 1) (.str [44])) (.call 13 (.cons (.loc 0) .nil)))) .skip
noncomputable abbrev O2 : S := .expr (.append (.loc 2) (.list .nil))
noncomputable abbrev O3 : S := .assign 4 (.str [])
noncomputable abbrev O4 : S := .forRange 5 (.op .add (.int 1) (.call 11 (.cons (.loc 0) (.cons (.int 2) .nil)))) inner16
noncomputable abbrev outer16 : S := .seq O1 (.seq O2 (.seq O3 O4))
noncomputable def PhaseO (c : Nat) (tx : List Nat) (cs : List Chain) : Prop := (c = 0 ∧ SA tx ctx0 ∧ cs = []) ∨ (0 < c ∧ ∃ x, SB tx x ∧ cs = x.cs ++ [x.laid])
noncomputable abbrev s8o (g q : Nat) (tx : List Nat) (l3 l4 l5 l6 l7 : Option V) (H : List O) : St := ⟨[some (.ref g), vs tx, some (.ref q), l3, l4, l5, l6, l7], H⟩

theorem outer_step (n g q : Nat) (H : List O) (c : Nat) (hc : c < 2) (tx : List Nat) (G : List O) (l4 l5 l6 l7 : Option V) (cs : List Chain) (ph : PhaseO c tx cs) (hcl : Cl tx = true) (hh : HandAt g G) (gr : Grow g H G) (ha : HA g q c G cs) (hq : H.length ≤ q) (hlen : tx.length ≤ 4 + 250 * c) :
    ∃ tx' cs' G' l4' l5' l6' l7', exec (callN (n + 4)) outer16 (s8o g q tx (vi c) l4 l5 l6 l7 G) = ok .next (s8o g q tx' (vi c) l4' l5' l6' l7' G') ∧ PhaseO (c + 1) tx' cs' ∧ Cl tx' = true ∧ HandAt g G' ∧ Grow g H G' ∧ HA g q (c + 1) G' cs' ∧ tx'.length ≤ 4 + 250 * (c + 1) := by
  have hlim : 10 < lim := by decide
  have first : ∃ tx1 G1 x, exec (callN (n + 4)) O1 (s8o g q tx (vi c) l4 l5 l6 l7 G) = ok .next (s8o g q tx1 (vi c) l4 l5 l6 l7 G1) ∧ SA tx1 x ∧ x.cs = cs ∧ x.cur = [] ∧ x.j = [] ∧ Cl tx1 = true ∧ HandAt g G1 ∧ Grow g G G1 ∧ tx1.length ≤ tx.length + 5 := by
    rcases ph with ⟨rfl, h1, rfl⟩ | ⟨hc0, x, h1, h2⟩
    · exact ⟨tx, G, ctx0, rfl, h1, rfl, rfl, rfl, hcl, hh, .refl _ _, by (first | lia | omega)⟩
    · have q1 : evalE (callN (n + 4)) (.cmp .gt (.loc 3) (.int 0)) (s8o g q tx (vi c) l4 l5 l6 l7 G) = ok (.bool true) (s8o g q tx (vi c) l4 l5 l6 l7 G) := ev_cmp' (u := .int c) (v := .int 0) rfl rfl (by simp [cmpV, hc0])
      obtain ⟨gp, hgp, G2, e2, hh2, gr2, _⟩ := ev_gap (n + 2) g (st := s8o g q tx (vi c) l4 l5 l6 l7 G) rfl hh
      have bg := (gap_piece hgp).1.short
      refine ⟨tx ++ [44] ++ gp, G2, x.comma, ?_, sa_comma h1 hgp, h2.symm, rfl, rfl, clApp (clApp hcl (piece1 (by decide))) (gap_piece hgp).1, hh2, gr2, by simp; (first | lia | omega)⟩
      rw [x_iteT q1]
      exact x_assign (ev_add (ev_add (C := callN (n + 4)) (a := .loc 1) (b := .str [44]) (st := s8o g q tx (vi c) l4 l5 l6 l7 G) (st1 := s8o g q tx (vi c) l4 l5 l6 l7 G) (st2 := s8o g q tx (vi c) l4 l5 l6 l7 G) rfl rfl (by simp; (first | lia | omega))) e2 (by simp; (first | lia | omega)))
  obtain ⟨tx1, G1, x, e1, sa, c1, c2, c3, cl1, hh1, gr1, b1⟩ := first
  obtain ⟨ws, lw, ew, hb⟩ := (ha.grow gr1).new hh1.lt
  have hqG : q < G1.length := (List.getElem?_eq_some_iff.mp ew).1
  let G2 : List O := (G1 ++ [O.list []]).set q (O.list (ws ++ [V.ref G1.length]))
  have hh2 : HandAt g G2 := hh1.app.set (Ne.symm hb.gq)
  have gr2 : Grow g H G2 := ((gr.trans gr1).app).set hq
  have x2 : exec (callN (n + 4)) O2 (s8o g q tx1 (vi c) l4 l5 l6 l7 G1) = ok .next (s8o g q tx1 (vi c) l4 l5 l6 l7 G2) := by
    refine x_expr (v := .none) ?_
    have e2 : (G1 ++ [O.list []])[q]? = some (.list ws) := by rw [List.getElem?_append_left hqG]; exact ew
    have hl : ws.length < lim := by (first | lia | omega)
    rw [eE_append, show evalE (callN (n + 4)) (.loc 2) (s8o g q tx1 (vi c) l4 l5 l6 l7 G1) = ok (.ref q) (s8o g q tx1 (vi c) l4 l5 l6 l7 G1) from rfl, bd_ok]
    simp only [ew]
    rw [show evalE (callN (n + 4)) (.list .nil) (s8o g q tx1 (vi c) l4 l5 l6 l7 G1) = ok (.ref G1.length) (s8o g q tx1 (vi c) l4 l5 l6 l7 (G1 ++ [O.list []])) from rfl, bd_ok]
    simp only [e2, hl, if_true]
    rfl
  have x3 : exec (callN (n + 4)) O3 (s8o g q tx1 (vi c) l4 l5 l6 l7 G2) = ok .next (s8w g q tx1 (vi c) [] l5 l6 l7 G2) := rfl
  obtain ⟨d, G3, hd, e3, hh3, gr3, _⟩ := ev_draw (n + 3) g 2 (st := s8w g q tx1 (vi c) [] l5 l6 l7 G2) (by (first | lia | omega)) rfl hh2
  have ed : evalE (callN (n + 4)) (.op .add (.int 1) (.call 11 (.cons (.loc 0) (.cons (.int 2) .nil)))) (s8w g q tx1 (vi c) [] l5 l6 l7 G2) = ok (.int ((1 + d : Nat) : Int)) (s8w g q tx1 (vi c) [] l5 l6 l7 G3) :=
    ev_op (C := callN (n + 4)) (x := .int 1) (st1 := s8w g q tx1 (vi c) [] l5 l6 l7 G2) rfl e3 (by simp [opV])
  have hnn : H.length ≤ G1.length := (gr.trans gr1).len
  obtain ⟨st5, e5, ⟨tx5, jt5, it5, G5, l55, l65, l75, rfl, ph5, cl5, hh5, gr5, hb5, b5⟩⟩ := for_inv (i := 5) (b := exec (callN (n + 4)) inner16) (P := fun k st => ∃ tx jt items G l5 l6 l7, st = s8w g q tx (vi c) jt l5 l6 l7 G ∧ Phase k tx jt cs items ∧ Cl tx = true ∧ HandAt g G ∧ Grow g H G ∧ HB g q G1.length c G cs items k ∧ tx.length ≤ tx1.length + 120 * k) (1 + d) (fun k st hk ⟨tx, jt, items, G, l5, l6, l7, est, a1, a2, a3, a4, a5, a6⟩ => by
      subst est
      obtain ⟨tx', jt', items', G', l6', l7', ee, r1, r2, r3, r4, r5, r6⟩ := inner_step n g q G1.length c H k (by (first | lia | omega)) tx jt G l6 l7 cs items a1 a2 a3 a4 a5 hq hnn (by (first | lia | omega))
      exact ⟨_, ee, tx', jt', items', G', _, l6', l7', rfl, r1, r2, r3, r4, r5, by (first | lia | omega)⟩)
    (s8w g q tx1 (vi c) [] l5 l6 l7 G3) ⟨tx1, [], [], G3, l5, l6, l7, rfl, .inl ⟨rfl, x, sa, c1, c2, c3⟩, cl1, hh3, gr2.trans gr3, hb.grow gr3, by (first | lia | omega)⟩
  have x4 : exec (callN (n + 4)) O4 (s8w g q tx1 (vi c) [] l5 l6 l7 G2) = ok .next (s8w g q tx5 (vi c) jt5 l55 l65 l75 G5) := x_for ed (by (first | lia | omega)) e5
  refine ⟨tx5, cs ++ [it5], G5, vs jt5, l55, l65, l75, ?_, .inr ⟨by (first | lia | omega), ?_⟩, cl5, hh5, gr5, hb5.done, by (first | lia | omega)⟩
  · rw [x_seq e1, x_seq x2, x_seq x3]
    exact x4
  · rcases ph5 with ⟨h, _⟩ | ⟨_, y, sb, y1, y2⟩
    · (first | lia | omega)
    · exact ⟨y, sb, by rw [y1, y2]⟩

theorem c16 (n g : Nat) (H : List O) (h : HandAt g H) : ∃ tx cs q H', callN (n + 5) 16 [.ref g] H = some (.ok (.tup [.str tx, .ref q]), H') ∧ HandAt g H' ∧ run .part ctx0 tx = .ok cs ∧ RepSel (fun _ => True) H' q cs ∧ Cl tx = true ∧ tx.length ≤ 1000 := by
  have hg := h.lt
  rw [callN_eq (by decide) (show bodyOf 16 = some (1, 8, body_law_written) from rfl) rfl]
  obtain ⟨g0, hg0, H1, e1, hh1, gr1, l1⟩ := ev_gap (n + 2) g (st := ⟨[some (.ref g), none, none, none, none, none, none, none], H⟩) rfl h
  have b0 := (gap_piece hg0).1.short
  have hHl : H1.length = H.length := l1
  have x1 : exec (callN (n + 4)) (.assign 1 (.call 13 (.cons (.loc 0) .nil))) ⟨[some (.ref g), none, none, none, none, none, none, none], H⟩ = ok .next ⟨[some (.ref g), vs g0, none, none, none, none, none, none], H1⟩ := x_assign e1
  have x2 : exec (callN (n + 4)) (.assign 2 (.list .nil)) ⟨[some (.ref g), vs g0, none, none, none, none, none, none], H1⟩ = ok .next (s8o g H1.length g0 none none none none none (H1 ++ [O.list []])) := rfl
  have ha0 : HA g H1.length 0 (H1 ++ [O.list []]) [] := ⟨by have := hh1.lt; (first | lia | omega), [], rfl, by simp, trivial⟩
  obtain ⟨d, H3, hd, e3, hh3, gr3, _⟩ := ev_draw (n + 3) g 2 (st := s8o g H1.length g0 none none none none none (H1 ++ [O.list []])) (by (first | lia | omega)) rfl hh1.app
  have ed : evalE (callN (n + 4)) (.op .add (.int 1) (.call 11 (.cons (.loc 0) (.cons (.int 2) .nil)))) (s8o g H1.length g0 none none none none none (H1 ++ [O.list []])) = ok (.int ((1 + d : Nat) : Int)) (s8o g H1.length g0 none none none none none H3) :=
    ev_op (C := callN (n + 4)) (x := .int 1) (st1 := s8o g H1.length g0 none none none none none (H1 ++ [O.list []])) rfl e3 (by simp [opV])
  obtain ⟨st5, e5, ⟨tx5, cs5, G5, l35, l45, l55, l65, l75, rfl, ph5, cl5, hh5, gr5, ha5, b5⟩⟩ := for_inv (i := 3) (b := exec (callN (n + 4)) outer16) (P := fun c st => ∃ tx cs G l3 l4 l5 l6 l7, st = s8o g H1.length tx l3 l4 l5 l6 l7 G ∧ PhaseO c tx cs ∧ Cl tx = true ∧ HandAt g G ∧ Grow g H G ∧ HA g H1.length c G cs ∧ tx.length ≤ 4 + 250 * c) (1 + d) (fun c st hc ⟨tx, cs, G, l3, l4, l5, l6, l7, est, a1, a2, a3, a4, a5, a6⟩ => by
      subst est
      obtain ⟨tx', cs', G', l4', l5', l6', l7', ee, r1, r2, r3, r4, r5, r6⟩ := outer_step n g H1.length H c (by (first | lia | omega)) tx G l4 l5 l6 l7 cs a1 a2 a3 a4 a5 (by (first | lia | omega)) a6
      exact ⟨_, ee, tx', cs', G', _, l4', l5', l6', l7', rfl, r1, r2, r3, r4, r5, r6⟩)
    (s8o g H1.length g0 none none none none none H3) ⟨g0, [], H3, none, none, none, none, none, rfl, .inl ⟨rfl, sa0 hg0, rfl⟩, (gap_piece hg0).1.cl, hh3, gr1.app.trans gr3, ha0.grow gr3, by (first | lia | omega)⟩
  have x3 : exec (callN (n + 4)) (.forRange 3 (.op .add (.int 1) (.call 11 (.cons (.loc 0) (.cons (.int 2) .nil)))) outer16) (s8o g H1.length g0 none none none none none (H1 ++ [O.list []])) = ok .next (s8o g H1.length tx5 l35 l45 l55 l65 l75 G5) := x_for ed (by (first | lia | omega)) e5
  have hr : run .part ctx0 tx5 = .ok cs5 := by
    rcases ph5 with ⟨h, _⟩ | ⟨_, y, sb, y1⟩
    · (first | lia | omega)
    · have := sb [] (.inl rfl) (fun _ => by simp)
      rw [List.append_nil] at this
      rw [this, y1]; rfl
  obtain ⟨ws, _, ew, rw_⟩ := ha5.outer
  refine ⟨tx5, cs5, H1.length, G5, ?_, hh5, hr, ⟨ws, ew, rw_.mono (Keep.imp _ fun _ _ => trivial)⟩, cl5, by (first | lia | omega)⟩
  refine runBody_of (st := ⟨[some (.ref g), none, none, none, none, none, none, none], H⟩) (st2 := s8o g H1.length tx5 l35 l45 l55 l65 l75 G5) rfl ?_
  unfold body_law_written
  rw [x_seq x1, x_seq x2, x_seq x3]
  exact x_ret rfl
end D
end Nt
end

section
set_option genSizeOf false
set_option genInjectivity false
set_option maxRecDepth 100000
set_option autoImplicit false
namespace Nt
namespace D

theorem sliceV_len (s : List Nat) (a b : Int) : (sliceV s a b).length ≤ s.length := by
  unfold sliceV cut
  simp only [List.length_drop, List.length_take]
  (first | lia | omega)
theorem sliceV_to (s : List Nat) (k : Nat) : (sliceV s 0 (k : Int)).length ≤ k := by
  unfold sliceV cut
  rw [clamp_nat]
  simp only [List.length_drop, List.length_take]
  (first | lia | omega)
noncomputable def signs : List V := [.str [62], .str [45], .str [49], .str [32], .str [91], .str [93], .str [61], .str [34], .str [39], .str [92], .str [10], .str [44], .str [35], .str [46], .str [42], .str [58], .str [97], .str [126], .str [43], .str [127], .str [124]]
theorem ev_drawE (n g size : Nat) {es : E} {st : St} (hs : 0 < size) (hl : evalE (callN (n + 1)) (.loc 0) st = ok (.ref g) st) (he : evalE (callN (n + 1)) es st = ok (.int (size : Nat)) st) (h : HandAt g st.heap) : ∃ r H', r < size ∧ evalE (callN (n + 1)) (.call 11 (.cons (.loc 0) (.cons es .nil))) st = ok (.int (r : Nat)) ⟨st.loc, H'⟩ ∧ HandAt g H' := by
  obtain ⟨r, H', h1, h2, h3, h4, h5⟩ := c11 n g size st.heap hs h
  exact ⟨r, H', h1, ev_call2 hl he h2, h3⟩
theorem ev_idxL {C : Calls} {a i : E} {st st1 st2 : St} {ws : List V} {r : Nat} {v : V} (h1 : evalE C a st = ok (.lst ws) st1) (h2 : evalE C i st1 = ok (.int (r : Nat)) st2) (h3 : ws[r]? = some v) : evalE C (.idx a i) st = ok v st2 := by
  rw [eE_idx, h1, bd_ok, h2, bd_ok]
  simp only [idxV, pick, if_pos (show (0 : Int) ≤ (r : Int) from by (first | lia | omega)), Int.toNat_natCast, h3]
  rfl
theorem sign_at {r : Nat} (h : r < 21) : ∃ c, signs[r]? = some (.str [c]) := by
  have : ∀ v ∈ signs, ∃ c, v = V.str [c] := by
    intro v hv
    simp only [signs, List.mem_cons, List.not_mem_nil, or_false] at hv
    rcases hv with rfl | rfl | rfl | rfl | rfl | rfl | rfl | rfl | rfl | rfl | rfl | rfl | rfl | rfl | rfl | rfl | rfl | rfl | rfl | rfl | rfl <;> exact ⟨_, rfl⟩
  obtain ⟨v, hv, e⟩ := at_mem (l := signs) (r := r) h
  obtain ⟨c, rfl⟩ := this v hv
  exact ⟨c, e⟩

theorem c17 (n g : Nat) (t : List Nat) (H : List O) (ht : t.length ≤ 1000) (h : HandAt g H) : ∃ s H', callN (n + 2) 17 [.ref g, .str t] H = some (.ok (.str s), H') ∧ HandAt g H' ∧ s.length ≤ 1000 := by
  let C := callN (n + 1)
  rw [callN_eq (by decide) (show bodyOf 17 = some (2, 5, body_law_spoiled) from rfl) rfl]
  let S0 (a : List Nat) (b c d : Option V) (H : List O) : St := ⟨[some (.ref g), vs a, b, c, d], H⟩
  have x1 : exec C (.assign 2 (.flist (.cons (.str [62]) (.cons (.str [45]) (.cons (.str [49]) (.cons (.str [32]) (.cons (.str [91]) (.cons (.str [93]) (.cons (.str [61]) (.cons (.str [34]) (.cons (.str [39]) (.cons (.str [92]) (.cons (.str [10]) (.cons (.str [44]) (.cons (.str [35]) (.cons (.str [46]) (.cons (.str [42]) (.cons (.str [58]) (.cons (.str [97]) (.cons (.str [126]) (.cons (.str [43]) .nil))))))))))))))))))))) (S0 t none none none H) = ok .next (S0 t (some (.lst (signs.take 19))) none none H) := rfl
  have x2 : exec C (.assign 2 (.op .add (.loc 2) (.flist (.cons (.str [127]) (.cons (.str [124]) .nil))))) (S0 t (some (.lst (signs.take 19))) none none H) = ok .next (S0 t (some (.lst signs)) none none H) :=
    x_assign (ev_op (C := C) (x := .lst (signs.take 19)) (y := .lst [.str [127], .str [124]]) (v := .lst signs) (st1 := S0 t (some (.lst (signs.take 19))) none none H) (st2 := S0 t (some (.lst (signs.take 19))) none none H) rfl rfl (by
      show (if (signs.take 19).length + [V.str [127], V.str [124]].length ≤ lim then some (V.lst (signs.take 19 ++ [V.str [127], V.str [124]])) else none) = _
      rw [if_pos (by decide)]; rfl))
  generalize hu : sliceV t 0 48 = u
  have bu : u.length ≤ 48 := by rw [← hu]; exact sliceV_to t 48
  have x3 : exec C (.assign 1 (.sliceTo (.loc 1) (.int 48))) (S0 t (some (.lst signs)) none none H) = ok .next (S0 u (some (.lst signs)) none none H) := by rw [← hu]; rfl
  obtain ⟨d1, H1, hd1, e1, hh1⟩ := ev_drawE n g (u.length + 1) (es := .op .add (.len (.loc 1)) (.int 1)) (st := S0 u (some (.lst signs)) none none H) (by (first | lia | omega)) rfl rfl h
  have x4 : exec C (.assign 3 (.call 11 (.cons (.loc 0) (.cons (.op .add (.len (.loc 1)) (.int 1)) .nil)))) (S0 u (some (.lst signs)) none none H) = ok .next (S0 u (some (.lst signs)) (vi d1) none H1) := x_assign e1
  obtain ⟨d2, H2, hd2, e2, hh2, _⟩ := ev_draw n g 3 (st := S0 u (some (.lst signs)) (vi d1) none H1) (by (first | lia | omega)) rfl hh1
  have x5 : exec C (.assign 4 (.call 11 (.cons (.loc 0) (.cons (.int 3) .nil)))) (S0 u (some (.lst signs)) (vi d1) none H1) = ok .next (S0 u (some (.lst signs)) (vi d1) (vi d2) H2) := x_assign e2
  let st : St := S0 u (some (.lst signs)) (vi d1) (vi d2) H2
  have q6 : evalE C (.cmp .eq (.loc 4) (.int 0)) st = ok (.bool ((d2 : Int) == 0)) st := rfl
  have et : ∀ G, evalE C (.sliceTo (.loc 1) (.loc 3)) (S0 u (some (.lst signs)) (vi d1) (vi d2) G) = ok (.str (sliceV u 0 (d1 : Int))) (S0 u (some (.lst signs)) (vi d1) (vi d2) G) := fun G => rfl
  have l1 := sliceV_len u 0 (d1 : Int)
  by_cases hd0 : d2 = 0
  · subst hd0
    have l2 := sliceV_len u ((d1 : Int) + 1) (u.length : Int)
    have er : evalE C (.op .add (.sliceTo (.loc 1) (.loc 3)) (.sliceFrom (.loc 1) (.op .add (.loc 3) (.int 1)))) st = ok (.str (sliceV u 0 (d1 : Int) ++ sliceV u ((d1 : Int) + 1) (u.length : Int))) st := ev_add (et _) rfl (by (first | lia | omega))
    refine ⟨sliceV u 0 (d1 : Int) ++ sliceV u ((d1 : Int) + 1) (u.length : Int), H2, runBody_of (st := S0 t none none none H) (st2 := st) rfl ?_, hh2, ?_⟩
    · unfold body_law_spoiled
      rw [x_seq x1, x_seq x2, x_seq x3, x_seq x4, x_seq x5]
      exact x_seqR (by rw [x_iteT q6]; exact x_ret er)
    · simp only [List.length_append]; (first | lia | omega)
  · have f6 : ((d2 : Int) == 0) = false := by simp; (first | lia | omega)
    rw [f6] at q6
    obtain ⟨d3, H3, hd3, e3, hh3, _⟩ := ev_draw n g 21 (st := st) (by (first | lia | omega)) rfl hh2
    obtain ⟨c, hc⟩ := sign_at hd3
    let st3 : St := S0 u (some (.lst signs)) (vi d1) (vi d2) H3
    have ei : evalE C (.idx (.loc 2) (.call 11 (.cons (.loc 0) (.cons (.int 21) .nil)))) st = ok (.str [c]) st3 := ev_idxL (C := C) (a := .loc 2) (st1 := st) rfl e3 hc
    have l2 := sliceV_len u ((d1 : Int) + (d2 : Int) - 1) (u.length : Int)
    have er : evalE C (.op .add (.op .add (.sliceTo (.loc 1) (.loc 3)) (.idx (.loc 2) (.call 11 (.cons (.loc 0) (.cons (.int 21) .nil))))) (.sliceFrom (.loc 1) (.op .sub (.op .add (.loc 3) (.loc 4)) (.int 1)))) st = ok (.str (sliceV u 0 (d1 : Int) ++ [c] ++ sliceV u ((d1 : Int) + (d2 : Int) - 1) (u.length : Int))) st3 :=
      ev_add (ev_add (et _) ei (by simp; (first | lia | omega))) rfl (by simp; (first | lia | omega))
    refine ⟨sliceV u 0 (d1 : Int) ++ [c] ++ sliceV u ((d1 : Int) + (d2 : Int) - 1) (u.length : Int), H3, runBody_of (st := S0 t none none none H) (st2 := st3) rfl ?_, hh3, ?_⟩
    · unfold body_law_spoiled
      rw [x_seq x1, x_seq x2, x_seq x3, x_seq x4, x_seq x5, x_seq (st' := st) (by rw [x_iteF q6]; rfl)]
      exact x_ret er
    · simp only [List.length_append, List.length_cons, List.length_nil]; (first | lia | omega)

/-- pieces drawn behind one another -/
theorem pieces_loop (n g size K : Nat) (ps : List (List Nat)) (hps : ps.length = size) (hsz : 0 < size) (hshort : ∀ p ∈ ps, p.length ≤ 4) (t0 : List Nat) (ht0 : t0.length ≤ 20) (hK : K ≤ 10) (H : List O) (l3 : Option V) (h : HandAt g H) :
    ∃ t' l3' H', forL 3 (exec (callN (n + 1)) (.assign 2 (.op .add (.loc 2) (.idx (.loc 1) (.call 11 (.cons (.loc 0) (.cons (.int size) .nil))))))) ((List.range K).map fun k => .int (Int.ofNat k)) ⟨[some (.ref g), some (.lst (ps.map .str)), vs t0, l3], H⟩ = ok .next ⟨[some (.ref g), some (.lst (ps.map .str)), vs t', l3'], H'⟩ ∧ HandAt g H' ∧ t'.length ≤ 20 + 4 * K := by
  obtain ⟨st2, e, t', l3', H', rfl, hh, hl⟩ := for_inv (i := 3) (b := exec (callN (n + 1)) (.assign 2 (.op .add (.loc 2) (.idx (.loc 1) (.call 11 (.cons (.loc 0) (.cons (.int size) .nil))))))) (P := fun k st => ∃ t l G, st = ⟨[some (.ref g), some (.lst (ps.map .str)), vs t, l], G⟩ ∧ HandAt g G ∧ t.length ≤ 20 + 4 * k) K (fun k st hk ⟨t, l, G, est, a1, a2⟩ => by
    subst est
    obtain ⟨d, G1, hd, e1, hh1, _⟩ := ev_draw n g size (st := ⟨[some (.ref g), some (.lst (ps.map .str)), vs t, vi k], G⟩) hsz rfl a1
    obtain ⟨p, hp, hpr⟩ := at_mem (l := ps) (r := d) (by (first | lia | omega))
    have bp := hshort p hp
    refine ⟨⟨[some (.ref g), some (.lst (ps.map .str)), vs (t ++ p), vi k], G1⟩, ?_, t ++ p, vi k, G1, rfl, hh1, by simp; (first | lia | omega)⟩
    exact x_assign (ev_add (C := callN (n + 1)) (a := .loc 2) (st1 := ⟨[some (.ref g), some (.lst (ps.map .str)), vs t, vi k], G⟩) rfl (ev_idxL (a := .loc 1) (st1 := ⟨[some (.ref g), some (.lst (ps.map .str)), vs t, vi k], G⟩) (ws := ps.map .str) rfl e1 (by rw [List.getElem?_map, hpr]; rfl)) (by (first | lia | omega))))
    ⟨[some (.ref g), some (.lst (ps.map .str)), vs t0, l3], H⟩ ⟨t0, l3, H, rfl, h, by (first | lia | omega)⟩
  exact ⟨t', l3', H', e, hh, hl⟩

noncomputable def vpieces : List (List Nat) := [[98], [93], [92], [39], [10], [32], [34], [13], [44], [12], [45], [49], [61], [45, 45], [62]]
noncomputable def lpieces : List (List Nat) := [[97], [42], [35], [46], [91], [93], [62], [32], [44], [45, 45], [45], [49], [91, 98, 93], [46, 99], [35, 100], [45, 45, 62], [126], [58], [43]]
theorem x_forC {C : Calls} {i N : Nat} {b : S} {st st2 : St} (hN : N < 1000) (hf : forL i (exec C b) ((List.range N).map fun k => .int (Int.ofNat k)) st = ok .next st2) : exec C (.forRange i (.int N) b) st = ok .next st2 := x_for (N := N) (st1 := st) rfl hN hf

theorem c18 (n g : Nat) (H : List O) (h : HandAt g H) : ∃ s H', callN (n + 3) 18 [.ref g] H = some (.ok (.str s), H') ∧ HandAt g H' ∧ s.length ≤ 1000 := by
  let C := callN (n + 2)
  rw [callN_eq (by decide) (show bodyOf 18 = some (1, 4, body_law_valued) from rfl) rfl]
  let S0 (b c : Option V) (H : List O) : St := ⟨[some (.ref g), some (.lst (vpieces.map .str)), b, c], H⟩
  have x1 : exec C (.assign 1 (.flist (.cons (.str [98]) (.cons (.str [93]) (.cons (.str [92]) (.cons (.str [39]) (.cons (.str [10]) (.cons (.str [32]) (.cons (.str [34]) (.cons (.str [13]) (.cons (.str [44]) (.cons (.str [12]) (.cons (.str [45]) (.cons (.str [49]) (.cons (.str [61]) (.cons (.str [45, 45]) (.cons (.str [62]) .nil))))))))))))))))) ⟨[some (.ref g), none, none, none], H⟩ = ok .next (S0 none none H) := rfl
  obtain ⟨w, hw, H1, e1, hh1, _⟩ := ev_word n g (st := S0 none none H) rfl h
  have bw := (word_piece hw).1.short
  have x2 : exec C (.assign 2 (.op .add (.op .add (.str [97, 91]) (.call 12 (.cons (.loc 0) .nil))) (.str [61]))) (S0 none none H) = ok .next (S0 (vs ([97, 91] ++ w ++ [61])) none H1) :=
    x_assign (ev_add (ev_add (C := C) (a := .str [97, 91]) (st1 := S0 none none H) rfl e1 (by simp; (first | lia | omega))) (show evalE C (.str [61]) (S0 none none H1) = ok (.str [61]) (S0 none none H1) from rfl) (by simp; (first | lia | omega)))
  obtain ⟨d2, H2, hd2, e2, hh2, _⟩ := ev_draw (n + 1) g 3 (st := S0 (vs ([97, 91] ++ w ++ [61])) none H1) (by (first | lia | omega)) rfl hh1
  obtain ⟨q, hq, hqr⟩ := at_mem (l := ([[39], [], [34]] : List (List Nat))) (r := d2) hd2
  have bq : q.length ≤ 1 := by
    simp only [List.mem_cons, List.not_mem_nil, or_false] at hq
    rcases hq with rfl | rfl | rfl <;> simp
  have x3 : exec C (.assign 2 (.op .add (.loc 2) (.idx (.flist (.cons (.str [39]) (.cons (.str []) (.cons (.str [34]) .nil)))) (.call 11 (.cons (.loc 0) (.cons (.int 3) .nil)))))) (S0 (vs ([97, 91] ++ w ++ [61])) none H1) = ok .next (S0 (vs ([97, 91] ++ w ++ [61] ++ q)) none H2) :=
    x_assign (ev_add (C := C) (a := .loc 2) (st1 := S0 (vs ([97, 91] ++ w ++ [61])) none H1) rfl (ev_idx (es := .cons (.str [39]) (.cons (.str []) (.cons (.str [34]) .nil))) (ws := [.str [39], .str [], .str [34]]) rfl e2 (by
      have := congrArg (Option.map V.str) hqr
      rw [← List.getElem?_map] at this
      exact this)) (by simp; (first | lia | omega)))
  obtain ⟨t', l3', H3, e3, hh3, bt⟩ := pieces_loop (n + 1) g 15 4 vpieces rfl (by (first | lia | omega)) (by decide) ([97, 91] ++ w ++ [61] ++ q) (by simp; (first | lia | omega)) (by (first | lia | omega)) H2 none hh2
  have x4 := x_forC (C := C) (by (first | lia | omega)) e3
  obtain ⟨d4, H4, hd4, e4, hh4, _⟩ := ev_draw (n + 1) g 4 (st := S0 (vs t') l3' H3) (by (first | lia | omega)) rfl hh3
  obtain ⟨z, hz, hzr⟩ := at_mem (l := ([[39], [39, 93], [93], [34, 93]] : List (List Nat))) (r := d4) hd4
  have bz : z.length ≤ 2 := by
    simp only [List.mem_cons, List.not_mem_nil, or_false] at hz
    rcases hz with rfl | rfl | rfl | rfl <;> simp
  have er : evalE C (.op .add (.loc 2) (.idx (.flist (.cons (.str [39]) (.cons (.str [39, 93]) (.cons (.str [93]) (.cons (.str [34, 93]) .nil))))) (.call 11 (.cons (.loc 0) (.cons (.int 4) .nil))))) (S0 (vs t') l3' H3) = ok (.str (t' ++ z)) (S0 (vs t') l3' H4) :=
    ev_add (C := C) (a := .loc 2) (st1 := S0 (vs t') l3' H3) rfl (ev_idx (es := .cons (.str [39]) (.cons (.str [39, 93]) (.cons (.str [93]) (.cons (.str [34, 93]) .nil)))) (ws := [.str [39], .str [39, 93], .str [93], .str [34, 93]]) rfl e4 (by
      have := congrArg (Option.map V.str) hzr
      rw [← List.getElem?_map] at this
      exact this)) (by (first | lia | omega))
  refine ⟨t' ++ z, H4, ?_, hh4, by simp; (first | lia | omega)⟩
  refine runBody_of (st := ⟨[some (.ref g), none, none, none], H⟩) (st2 := S0 (vs t') l3' H4) rfl ?_
  unfold body_law_valued
  rw [x_seq x1, x_seq x2, x_seq x3, x_seq x4]
  exact x_ret er

theorem c19 (n g : Nat) (H : List O) (h : HandAt g H) : ∃ s H', callN (n + 3) 19 [.ref g] H = some (.ok (.str s), H') ∧ HandAt g H' ∧ s.length ≤ 1000 := by
  let C := callN (n + 2)
  rw [callN_eq (by decide) (show bodyOf 19 = some (1, 4, body_law_loose) from rfl) rfl]
  let S0 (b c : Option V) (H : List O) : St := ⟨[some (.ref g), some (.lst (lpieces.map .str)), b, c], H⟩
  have x1 : exec C (.assign 1 (.flist (.cons (.str [97]) (.cons (.str [42]) (.cons (.str [35]) (.cons (.str [46]) (.cons (.str [91]) (.cons (.str [93]) (.cons (.str [62]) (.cons (.str [32]) (.cons (.str [44]) (.cons (.str [45, 45]) (.cons (.str [45]) (.cons (.str [49]) (.cons (.str [91, 98, 93]) (.cons (.str [46, 99]) (.cons (.str [35, 100]) (.cons (.str [45, 45, 62]) (.cons (.str [126]) (.cons (.str [58]) (.cons (.str [43]) .nil))))))))))))))))))))) ⟨[some (.ref g), none, none, none], H⟩ = ok .next (S0 none none H) := rfl
  have x2 : exec C (.assign 2 (.str [])) (S0 none none H) = ok .next (S0 (vs []) none H) := rfl
  obtain ⟨t', l3', H3, e3, hh3, bt⟩ := pieces_loop (n + 1) g 19 6 lpieces rfl (by (first | lia | omega)) (by decide) [] (by simp) (by (first | lia | omega)) H none h
  have x3 := x_forC (C := C) (by (first | lia | omega)) e3
  refine ⟨t', H3, ?_, hh3, by (first | lia | omega)⟩
  refine runBody_of (st := ⟨[some (.ref g), none, none, none], H⟩) (st2 := S0 (vs t') l3' H3) rfl ?_
  unfold body_law_loose
  rw [x_seq x1, x_seq x2, x_seq x3]
  exact x_ret rfl
end D
end Nt
end

section
set_option genSizeOf false
set_option genInjectivity false
set_option maxRecDepth 100000
set_option autoImplicit false
namespace Nt
namespace D

theorem sameAll_map {α : Type} {f : V → V → Bool} {k : α → V} (h : ∀ a, f (k a) (k a) = true) : ∀ l : List α, sameAll f (l.map k) (l.map k) = true
  | [] => rfl
  | a :: l => by simp only [List.map_cons, sameAll, h a, Bool.true_and]; exact sameAll_map h l
theorem sameF_str {h : List O} {n : Nat} (s : List Nat) : sameF h (n + 1) (.str s) (.str s) = true := by simp [sameF]
theorem sameF_attr {h : List O} {n : Nat} (a : List Nat × Option (List Nat)) : sameF h (n + 2) (attrV a) (attrV a) = true := by
  obtain ⟨w, o⟩ := a
  (first | exact no o | exact no1 o | exact no2 o | exact noE o | exact noE1 o | obtain rfl := Option.some.inj o | obtain rfl := Except.ok.inj o | obtain rfl := o | cases o) <;> simp [attrV, optV, sameF, sameAll]
theorem sameF_ref {h : List O} {n i j : Nat} {as bs : List V} (hi : h[i]? = some (.list as)) (hj : h[j]? = some (.list bs)) : sameF h (n + 1) (.ref i) (.ref j) = sameAll (sameF h n) as bs := by
  show (match h[i]?, h[j]? with
    | some (.list as), some (.list bs) => sameAll (sameF h n) as bs
    | _, _ => false) = _
  rw [hi, hj]
theorem same_ref {h : List O} {n i j : Nat} {as bs : List V} (hi : h[i]? = some (.list as)) (hj : h[j]? = some (.list bs)) : same h (n + 1) (.ref i) (.ref j) = sameAll (same h n) as bs := by
  show (match h[i]?, h[j]? with
    | some (.list as), some (.list bs) => sameAll (same h n) as bs
    | some (.dict as), some (.dict bs) => as.map Prod.fst == bs.map Prod.fst && sameAll (sameF h n) (as.map Prod.snd) (bs.map Prod.snd)
    | _, _ => false) = _
  rw [hi, hj]
theorem same_dict {h : List O} {n i j : Nat} {as bs : List (List Nat × V)} (hi : h[i]? = some (.dict as)) (hj : h[j]? = some (.dict bs)) : same h (n + 1) (.ref i) (.ref j) = (as.map Prod.fst == bs.map Prod.fst && sameAll (sameF h n) (as.map Prod.snd) (bs.map Prod.snd)) := by
  show (match h[i]?, h[j]? with
    | some (.list as), some (.list bs) => sameAll (same h n) as bs
    | some (.dict as), some (.dict bs) => as.map Prod.fst == bs.map Prod.fst && sameAll (sameF h n) (as.map Prod.snd) (bs.map Prod.snd)
    | _, _ => false) = _
  rw [hi, hj]
theorem same_part {h : List O} {n : Nat} {d d' : Nat} {p : Part} {F F' : Nat → Prop} (a : RepPart F h d p) (b : RepPart F' h d' p) : same h (n + 5) (.ref d) (.ref d') = true := by
  obtain ⟨i, c, e, _, _, _, _, g1, g2, g3, g4⟩ := a
  obtain ⟨i', c', e', _, _, _, _, g1', g2', g3', g4'⟩ := b
  have l1 : sameF h (n + 4) (.ref i) (.ref i') = true := by
    rw [sameF_ref g2 g2']
    exact sameAll_map (fun s => sameF_str s) p.ids
  have l2 : sameF h (n + 4) (.ref c) (.ref c') = true := by
    rw [sameF_ref g3 g3']
    exact sameAll_map (fun s => sameF_str s) p.classes
  have l3 : sameF h (n + 4) (.ref e) (.ref e') = true := by
    rw [sameF_ref g4 g4']
    exact sameAll_map (fun s => sameF_attr s) p.attrs
  have l0 : sameF h (n + 4) (.str p.name) (.str p.name) = true := sameF_str p.name
  rw [same_dict g1 g1']
  show (([kName, kIds, kClasses, kAttrs] == [kName, kIds, kClasses, kAttrs]) && (sameF h (n + 4) (.str p.name) (.str p.name) && (sameF h (n + 4) (.ref i) (.ref i') && (sameF h (n + 4) (.ref c) (.ref c') && (sameF h (n + 4) (.ref e) (.ref e') && true))))) = true
  rw [l0, l1, l2, l3]
  rfl
theorem same_items {h : List O} {n : Nat} {F F' : Nat → Prop} : ∀ (c : Chain) (vs vs' : List V), RepItems F h vs c → RepItems F' h vs' c → sameAll (same h (n + 6)) vs vs' = true := by
  intro c
  induction c with
  | nil =>
    intro vs vs' a b
    cases vs with
    | nil => cases vs' with
      | nil => rfl
      | cons _ _ => exact b.elim
    | cons _ _ => exact a.elim
  | cons jp r ih =>
    obtain ⟨j, p⟩ := jp
    intro vs vs' a b
    cases vs with
    | nil => exact a.elim
    | cons v vs => cases vs' with
      | nil => exact b.elim
      | cons v' vs' =>
        obtain ⟨⟨d, e, x⟩, y⟩ := a
        obtain ⟨⟨d', e', x'⟩, y'⟩ := b
        subst e e'
        have h1 := same_part (n := n) x x'
        have h2 : same h (n + 5) (.str j) (.str j) = true := by
          show (j == j) = true
          simp
        show (sameAll (same h (n + 5)) [.str j, .ref d] [.str j, .ref d'] && sameAll (same h (n + 6)) vs vs') = true
        rw [ih _ _ y y']
        show ((same h (n + 5) (.str j) (.str j) && (same h (n + 5) (.ref d) (.ref d') && true)) && true) = true
        rw [h1, h2]; rfl
theorem same_chains {h : List O} {n : Nat} {F F' : Nat → Prop} : ∀ (cs : List Chain) (vs vs' : List V), RepChains F h vs cs → RepChains F' h vs' cs → sameAll (same h (n + 7)) vs vs' = true := by
  intro cs
  induction cs with
  | nil =>
    intro vs vs' a b
    cases vs with
    | nil => cases vs' with
      | nil => rfl
      | cons _ _ => exact b.elim
    | cons _ _ => exact a.elim
  | cons c r ih =>
    intro vs vs' a b
    cases vs with
    | nil => exact a.elim
    | cons v vs => cases vs' with
      | nil => exact b.elim
      | cons v' vs' =>
        obtain ⟨⟨d, e, _, us, g, x⟩, y⟩ := a
        obtain ⟨⟨d', e', _, us', g', x'⟩, y'⟩ := b
        subst e e'
        have h1 := same_items (n := n) c us us' x x'
        show (same h (n + 7) (.ref d) (.ref d') && sameAll (same h (n + 7)) vs vs') = true
        rw [ih _ _ y y', same_ref g g', h1]; rfl
theorem eq_sel {h : List O} {q q' : Nat} {cs : List Chain} {F F' : Nat → Prop} (a : RepSel F h q cs) (b : RepSel F' h q' cs) : eqV h (.ref q) (.ref q') = some true := by
  obtain ⟨ws, e, r⟩ := a
  obtain ⟨ws', e', r'⟩ := b
  simp only [eqV, e, e']
  rw [if_pos (same_chains (n := 5) cs ws ws' r r')]
theorem RepSel.app {F : Nat → Prop} {h τ : List O} {q : Nat} {cs : List Chain} (a : RepSel F h q cs) : RepSel F (h ++ τ) q cs := by
  obtain ⟨ws, e, r⟩ := a
  exact ⟨ws, by rw [List.getElem?_append_left (List.getElem?_eq_some_iff.mp e).1]; exact e, r.mono (Keep.app _ _ _)⟩

theorem repl_len (old new : List Nat) (ho : old.length ≤ 5) : ∀ (s : List Nat) (k : Nat), (replK old new k s).length ≤ (new.length + 1) * s.length := by
  intro s
  induction s with
  | nil => intro k; (first | exact no k | exact no1 k | exact no2 k | exact noE k | exact noE1 k | obtain rfl := Option.some.inj k | obtain rfl := Except.ok.inj k | obtain rfl := k | cases k) <;> simp [replK]
  | cons c s ih =>
    intro k
    cases k with
    | succ k =>
      have := ih k
      simp only [replK, List.length_cons, Nat.mul_add]
      (first | lia | omega)
    | zero =>
      simp only [replK]
      split
      · have := ih (old.length - 1)
        simp only [List.length_append, List.length_cons, Nat.mul_add]
        (first | lia | omega)
      · have := ih 0
        simp only [List.length_cons, Nat.mul_add]
        (first | lia | omega)

noncomputable abbrev s6l (sc : List Int) (l2 l3 : Option V) (tx : List Nat) (q : Nat) (H : List O) : St := ⟨[some (.lst (sc.map .int)), some (.ref 0), l2, l3, vs tx, some (.ref q)], H⟩
noncomputable abbrev law_loop : S := .seq (.assign 3 (.replace (.loc 3) [35, 45, 45, 62] [35, 45, 45, 120, 62]))
    (.ite (.cmp .ne (.call 23 (.cons (.loc 3) .nil)) (.call 22 (.cons (.loc 3) .nil)))
      (.ret (.bool false))
      .skip)

theorem other_ok (sc : List Int) (l2 : Option V) (tx : List Nat) (q : Nat) (H : List O) (s : List Nat) (hs : s.length ≤ 1000) : ∃ r H', exec (callN 13) law_loop (s6l sc l2 (vs s) tx q H) = ok .next (s6l sc l2 (vs r) tx q H') := by
  let r := repl s [35, 45, 45, 62] [35, 45, 45, 120, 62]
  have hr : r.length ≤ 6000 := by
    have := repl_len [35, 45, 45, 62] [35, 45, 45, 120, 62] (by decide) s 0
    simp only [List.length_cons, List.length_nil] at this
    show (replK _ _ 0 s).length ≤ 6000
    (first | lia | omega)
  have fl : 6000 < lim := by decide
  have ff : 7000 < fuel := by decide
  have nm : NM r := nm_repl s
  have x1 : exec (callN 13) (.assign 3 (.replace (.loc 3) [35, 45, 45, 62] [35, 45, 45, 120, 62])) (s6l sc l2 (vs s) tx q H) = ok .next (s6l sc l2 (vs r) tx q H) := by
    refine x_assign (v := .str r) (st' := s6l sc l2 (vs s) tx q H) ?_
    rw [eE_replace, show evalE (callN 13) (.loc 3) (s6l sc l2 (vs s) tx q H) = ok (.str s) (s6l sc l2 (vs s) tx q H) from rfl, bd_ok]
    have : ¬ (([35, 45, 45, 62] : List Nat) = [] ∨ ([35, 45, 45, 62] : List Nat) = [35, 45, 45, 120, 62] ∨ 14 < ([35, 45, 45, 120, 62] : List Nat).length ∨ 1000000 < s.length ∨ lim < r.length) := by
      simp only [not_or]
      exact ⟨by decide, by decide, by decide, by (first | lia | omega), by (first | lia | omega)⟩
    dsimp only
    rw [if_neg this]
  rw [x_seq x1]
  obtain ⟨τ, h1⟩ := c23 4 r (by (first | lia | omega)) nm H
  obtain ⟨τ', h2⟩ := c22 10 r (by (first | lia | omega)) (H ++ τ)
  rcases h1 with ⟨e, a1, a2⟩ | ⟨q1, cs, a1, a2, a3⟩
  · rcases h2 with ⟨e', b1, b2⟩ | ⟨q2, cs', b1, b2, b3⟩
    · rw [a2] at b2; (first | exact no b2 | exact no1 b2 | exact no2 b2 | exact noE b2 | exact noE1 b2 | obtain rfl := Option.some.inj b2 | obtain rfl := Except.ok.inj b2 | obtain rfl := b2 | cases b2)
      have ec : evalE (callN 13) (.cmp .ne (.call 23 (.cons (.loc 3) .nil)) (.call 22 (.cons (.loc 3) .nil))) (s6l sc l2 (vs r) tx q H) = ok (.bool false) (s6l sc l2 (vs r) tx q (H ++ τ ++ τ')) := by
        rw [eE_cmp, ev_call1 (C := callN 13) (f := 23) (a := .loc 3) (u := .str r) (st' := s6l sc l2 (vs r) tx q H) rfl a1]
        show bd (ok (V.str e) (s6l sc l2 (vs r) tx q (H ++ τ))) _ = _
        rw [bd_ok, ev_call1 (C := callN 13) (f := 22) (a := .loc 3) (u := .str r) (st' := s6l sc l2 (vs r) tx q (H ++ τ)) rfl b1]
        show bd (ok (V.str e) (s6l sc l2 (vs r) tx q (H ++ τ ++ τ'))) _ = _
        rw [bd_ok]
        simp [cmpV, eqV, lift]
      exact ⟨r, H ++ τ ++ τ', by rw [x_iteF ec]; rfl⟩
    · rw [a2] at b2; (first | exact no b2 | exact no1 b2 | exact no2 b2 | exact noE b2 | exact noE1 b2 | obtain rfl := Option.some.inj b2 | obtain rfl := Except.ok.inj b2 | obtain rfl := b2 | cases b2)
  · rcases h2 with ⟨e', b1, b2⟩ | ⟨q2, cs', b1, b2, b3⟩
    · rw [a2] at b2; (first | exact no b2 | exact no1 b2 | exact no2 b2 | exact noE b2 | exact noE1 b2 | obtain rfl := Option.some.inj b2 | obtain rfl := Except.ok.inj b2 | obtain rfl := b2 | cases b2)
    · rw [a2] at b2; (first | exact no b2 | exact no1 b2 | exact no2 b2 | exact noE b2 | exact noE1 b2 | obtain rfl := Option.some.inj b2 | obtain rfl := Except.ok.inj b2 | obtain rfl := b2 | cases b2)
      have ec : evalE (callN 13) (.cmp .ne (.call 23 (.cons (.loc 3) .nil)) (.call 22 (.cons (.loc 3) .nil))) (s6l sc l2 (vs r) tx q H) = ok (.bool false) (s6l sc l2 (vs r) tx q (H ++ τ ++ τ')) := by
        rw [eE_cmp, ev_call1 (C := callN 13) (f := 23) (a := .loc 3) (u := .str r) (st' := s6l sc l2 (vs r) tx q H) rfl a1]
        show bd (ok (V.ref q1) (s6l sc l2 (vs r) tx q (H ++ τ))) _ = _
        rw [bd_ok, ev_call1 (C := callN 13) (f := 22) (a := .loc 3) (u := .str r) (st' := s6l sc l2 (vs r) tx q (H ++ τ)) rfl b1]
        show bd (ok (V.ref q2) (s6l sc l2 (vs r) tx q (H ++ τ ++ τ'))) _ = _
        rw [bd_ok]
        simp only [cmpV, eq_sel (a3.app (τ := τ')) b3]
        rfl
      exact ⟨r, H ++ τ ++ τ', by rw [x_iteF ec]; rfl⟩

theorem others_ok (sc : List Int) (l2 : Option V) (tx : List Nat) (q : Nat) : ∀ (ss : List (List Nat)), (∀ s ∈ ss, s.length ≤ 1000) → ∀ (l3 : Option V) (H : List O), ∃ l3' H', forL 3 (exec (callN 13) law_loop) (ss.map .str) (s6l sc l2 l3 tx q H) = ok .next (s6l sc l2 l3' tx q H')
  | [], _, l3, H => ⟨l3, H, rfl⟩
  | s :: ss, h, l3, H => by
    obtain ⟨r, H1, e1⟩ := other_ok sc l2 tx q H s (h s (by simp))
    obtain ⟨l3', H2, e2⟩ := others_ok sc l2 tx q ss (fun s' hs' => h s' (by simp [hs'])) (vs r) H1
    refine ⟨l3', H2, ?_⟩
    simp only [List.map_cons, forL]
    rw [show (s6l sc l2 l3 tx q H).put 3 (.str s) = s6l sc l2 (vs s) tx q H from rfl, e1, bd_ok]
    exact e2

theorem intsOf_map (ns : List Int) : intsOf (ns.map .int) = some ns := by
  induction ns with
  | nil => rfl
  | cons n ns ih => simp [intsOf, ih]

theorem law_true (ns : List Int) (h : ns.length ≤ 63) : ∃ σ', callN 14 24 [.lst (ns.map .int)] [] = some (.ok (.bool true), σ') := by
  let C := callN 13
  let sc : List Int := if ns = [] then [5] else ns
  have hsc : sc ≠ [] ∧ sc.length ≤ 63 := by
    show (if ns = [] then [5] else ns) ≠ [] ∧ (if ns = [] then [5] else ns).length ≤ 63
    split
    · simp
    · exact ⟨by assumption, h⟩
  let H0 : List O := [.list [.lst (sc.map .int), .int ((0 : Nat) : Int)]]
  let z : St := ⟨[some (.lst (ns.map .int)), none, none, none, none, none], []⟩
  have x1 : exec C (.assign 1 (.list (.cons (.ifx (.cmp .ne (.loc 0) (.flist .nil)) (.loc 0) (.flist (.cons (.int 5) .nil))) (.cons (.int 0) .nil)))) z = ok .next ⟨[some (.lst (ns.map .int)), some (.ref 0), none, none, none, none], H0⟩ := by
    have ec : evalE C (.cmp .ne (.loc 0) (.flist .nil)) z = ok (.bool (!(ns == []))) z := by
      refine ev_cmp' (u := .lst (ns.map .int)) (v := .lst []) rfl rfl ?_
      show (eqV [] (V.lst (ns.map .int)) (V.lst [])).map (!·) = _
      simp only [eqV, intsOf_map]
      rfl
    have ei : evalE C (.ifx (.cmp .ne (.loc 0) (.flist .nil)) (.loc 0) (.flist (.cons (.int 5) .nil))) z = ok (.lst (sc.map .int)) z := by
      rw [eE_ifx, ec, bd_ok]
      cases ns with
      | nil => rfl
      | cons a r => rfl
    refine x_assign (v := .ref 0) (st' := ⟨z.loc, H0⟩) ?_
    rw [eE_list, ev_cons ei (ev_cons (C := C) (a := .int 0) (b := .nil) rfl rfl), bd_ok]
    rfl
  have hh0 : HandAt 0 H0 := ⟨sc, 0, hsc.1, hsc.2, rfl⟩
  obtain ⟨tx, cs, q, H1, e1, hh1, hr, hs, hcl, hlen⟩ := c16 8 0 H0 hh0
  have ff : 7000 < fuel := by decide
  have x2 : exec C (.unpack [4, 5] (.call 16 (.cons (.loc 1) .nil))) ⟨[some (.lst (ns.map .int)), some (.ref 0), none, none, none, none], H0⟩ = ok .next (s6l ns none none tx q H1) := by
    have ec := ev_call1 (C := C) (f := 16) (a := .loc 1) (st := ⟨[some (.lst (ns.map .int)), some (.ref 0), none, none, none, none], H0⟩) (u := .ref 0) (st' := ⟨[some (.lst (ns.map .int)), some (.ref 0), none, none, none, none], H0⟩) rfl e1
    exact x_unpack ec rfl
  obtain ⟨τ, h1⟩ := c23 4 tx (by (first | lia | omega)) (Cl.nm hcl) H1
  obtain ⟨q1, a1, a3⟩ : ∃ q1, callN 13 23 [.str tx] H1 = some (.ok (.ref q1), H1 ++ τ) ∧ RepSel (fun _ => True) (H1 ++ τ) q1 cs := by
    rcases h1 with ⟨e, _, b⟩ | ⟨q1, cs', a, b, c⟩
    · rw [hr] at b; (first | exact no b | exact no1 b | exact no2 b | exact noE b | exact noE1 b | obtain rfl := Option.some.inj b | obtain rfl := Except.ok.inj b | obtain rfl := b | cases b)
    · rw [hr] at b; (first | exact no b | exact no1 b | exact no2 b | exact noE b | exact noE1 b | obtain rfl := Option.some.inj b | obtain rfl := Except.ok.inj b | obtain rfl := b | cases b)
      exact ⟨q1, a, c⟩
  have x3 : exec C (.ite (.cmp .ne (.call 23 (.cons (.loc 4) .nil)) (.loc 5)) (.ret (.bool false)) .skip) (s6l ns none none tx q H1) = ok .next (s6l ns none none tx q (H1 ++ τ)) := by
    have ec : evalE C (.cmp .ne (.call 23 (.cons (.loc 4) .nil)) (.loc 5)) (s6l ns none none tx q H1) = ok (.bool false) (s6l ns none none tx q (H1 ++ τ)) := by
      rw [eE_cmp, ev_call1 (C := C) (f := 23) (a := .loc 4) (u := .str tx) (st' := s6l ns none none tx q H1) rfl a1]
      show bd (ok (V.ref q1) (s6l ns none none tx q (H1 ++ τ))) _ = _
      rw [bd_ok, show evalE C (.loc 5) (s6l ns none none tx q (H1 ++ τ)) = ok (.ref q) (s6l ns none none tx q (H1 ++ τ)) from rfl, bd_ok]
      simp only [cmpV, eq_sel a3 (hs.app (τ := τ))]
      rfl
    rw [x_iteF ec]; rfl
  have hh2 : HandAt 0 (H1 ++ τ) := hh1.app
  obtain ⟨t1, G1, f1, k1, b1⟩ := c17 11 0 tx (H1 ++ τ) hlen hh2
  obtain ⟨t2, G2, f2, k2, b2⟩ := c17 11 0 tx G1 hlen k1
  obtain ⟨t3, G3, f3, k3, b3⟩ := c18 10 0 G2 k2
  obtain ⟨t4, G4, f4, k4, b4⟩ := c19 10 0 G3 k3
  have x4 : exec C (.assign 2 (.flist (.cons (.call 17 (.cons (.loc 1) (.cons (.loc 4) .nil))) (.cons (.call 17 (.cons (.loc 1) (.cons (.loc 4) .nil))) (.cons (.call 18 (.cons (.loc 1) .nil)) (.cons (.call 19 (.cons (.loc 1) .nil)) .nil)))))) (s6l ns none none tx q (H1 ++ τ)) = ok .next (s6l ns (some (.lst [.str t1, .str t2, .str t3, .str t4])) none tx q G4) := by
    have g1 := ev_call2 (C := C) (f := 17) (a := .loc 1) (b := .loc 4) (st := s6l ns none none tx q (H1 ++ τ)) (u := .ref 0) (v := .str tx) (st' := s6l ns none none tx q (H1 ++ τ)) (st'' := s6l ns none none tx q (H1 ++ τ)) rfl rfl f1
    have g2 := ev_call2 (C := C) (f := 17) (a := .loc 1) (b := .loc 4) (st := s6l ns none none tx q G1) (u := .ref 0) (v := .str tx) (st' := s6l ns none none tx q G1) (st'' := s6l ns none none tx q G1) rfl rfl f2
    have g3 := ev_call1 (C := C) (f := 18) (a := .loc 1) (st := s6l ns none none tx q G2) (u := .ref 0) (st' := s6l ns none none tx q G2) rfl f3
    have g4 := ev_call1 (C := C) (f := 19) (a := .loc 1) (st := s6l ns none none tx q G3) (u := .ref 0) (st' := s6l ns none none tx q G3) rfl f4
    refine x_assign (v := .lst [.str t1, .str t2, .str t3, .str t4]) (st' := s6l ns none none tx q G4) ?_
    rw [eE_flist]
    exact ev_cons g1 (ev_cons g2 (ev_cons g3 (ev_cons g4 rfl)))
  obtain ⟨l3', G5, e5⟩ := others_ok ns (some (.lst [.str t1, .str t2, .str t3, .str t4])) tx q [t1, t2, t3, t4] (fun s hs => by
    simp only [List.mem_cons, List.not_mem_nil, or_false] at hs
    rcases hs with rfl | rfl | rfl | rfl <;> assumption) none G4
  have x5 : exec C (.forList 3 (.loc 2) law_loop) (s6l ns (some (.lst [.str t1, .str t2, .str t3, .str t4])) none tx q G4) = ok .next (s6l ns (some (.lst [.str t1, .str t2, .str t3, .str t4])) l3' tx q G5) := by
    rw [eS_forList, show evalE C (.loc 2) (s6l ns (some (.lst [.str t1, .str t2, .str t3, .str t4])) none tx q G4) = ok (.lst [.str t1, .str t2, .str t3, .str t4]) (s6l ns (some (.lst [.str t1, .str t2, .str t3, .str t4])) none tx q G4) from rfl, bd_ok]
    exact e5
  refine ⟨G5, ?_⟩
  rw [callN_eq (by decide) (show bodyOf 24 = some (1, 6, body_law) from rfl) rfl]
  refine runBody_of (st := z) (st2 := s6l ns (some (.lst [.str t1, .str t2, .str t3, .str t4])) l3' tx q G5) rfl ?_
  unfold body_law
  rw [x_seq x1, x_seq x2, x_seq x3, x_seq x4, x_seq x5]
  exact x_ret rfl
end D
end Nt
end

section
open PySem PySem.W PyProof.Rows PySem.Calls
set_option genSizeOf false
set_option genInjectivity false
set_option maxRecDepth 100000
set_option autoImplicit false
namespace Nt

/-- tokens only grow -/
theorem runs_toks {M : Model} {Γ : Ctx} {p : Pos} {t : Sem Fin} {fs : List Frame} {s s' : Shared} {e : End} (h : Runs M Γ p t fs s e s') : s.toks ≤ s'.toks := by
  induction h <;> (try simp only [Shared.setGen] at *) <;> (first | lia | omega)
theorem wakes_toks {M : Model} {Γ : Ctx} {p : Pos} {g : Nat} {r : Resume} {s s' : Shared} {res : GenResult} (h : Wakes M Γ p g r s res s') : s.toks ≤ s'.toks := by
  unfold Wakes at h
  cases q : s.gens[g]? with
  | none => rw [q] at h; exact h.elim
  | some x =>
    rw [q] at h
    cases x with
    | fresh c =>
      cases r with
      | send v =>
        (first | exact no v | exact no1 v | exact no2 v | exact noE v | exact noE1 v | obtain rfl := Option.some.inj v | obtain rfl := Except.ok.inj v | obtain rfl := v | cases v) <;> first | (obtain ⟨e₁, s₁, a, b, c', rfl⟩ := h; have := runs_toks a; simp_all [Shared.setGen]; done) | (obtain ⟨_, rfl⟩ := h; exact Nat.le_refl _)
      | throw x => obtain ⟨_, rfl⟩ := h; exact Nat.le_refl _
    | suspended k l c p fs cl => obtain ⟨e₁, s₁, a, b, c', rfl⟩ := h; have := runs_toks a; simp_all [Shared.setGen]
    | running => obtain ⟨_, rfl⟩ := h; exact Nat.le_refl _
    | finished => obtain ⟨_, rfl⟩ := h; exact Nat.le_refl _
theorem wp_toks {α : Type} {M : Model} {Γ : Ctx} {Q : α → Pos → Shared → Prop} {E : Value → Pos → Shared → Prop} (n : Nat) (t : Sem α) : ∀ (p : Pos) (s : Shared), n ≤ s.toks → Sem.wp M Γ t Q E p s →
    Sem.wp M Γ t (fun a p' s' => Q a p' s' ∧ n ≤ s'.toks) (fun a p' s' => E a p' s' ∧ n ≤ s'.toks) p s := by
  induction t with
  | pure a => exact fun p s l h => ⟨h, l⟩
  | raise e => exact fun p s l h => ⟨h, l⟩
  | unsupported | finish | yield | fork | await | register => exact fun _ _ _ h => h
  | rule _ k ih | «at» _ k ih | loadIfAlive _ k ih | point _ k ih | ask k ih | handled _ k ih | stack k ih | thread k ih => exact fun p s l h => ih _ _ _ l h
  | alloc _ k ih | os _ _ k ih | newGen _ k ih => exact fun p s l h => ih _ _ _ l h
  | fresh k ih => exact fun p s l h => ih _ _ _ (Nat.le_succ_of_le l) h
  | load a _ k ih | genState a k ih => exact fun p s l ⟨o, ho, h⟩ => ⟨o, ho, ih _ _ _ l h⟩
  | update a _ f k ih | choose _ _ k ih => exact fun p s l ⟨ha, h⟩ => ⟨ha, ih _ _ _ l h⟩
  | call c hd g lv k ih => exact fun p s l ⟨r, s', a, b⟩ => ⟨r, s', a, ih _ _ _ (Nat.le_trans l (runs_toks a)) b⟩
  | resume g r lv k ih => exact fun p s l ⟨res, s', a, b⟩ => ⟨res, s', a, ih _ _ _ (Nat.le_trans l (wakes_toks a)) b⟩
theorem wpAny_toks {α : Type} {M : Model} {A : Around} {t : Sem α} {Q : α → Shared → Prop} {E : Value → Shared → Prop} {s : Shared} (h : wpAny M A t Q E s) :
    wpAny M A t (fun a s' => Q a s' ∧ s.toks ≤ s'.toks) (fun e s' => E e s' ∧ s.toks ≤ s'.toks) s := fun Γ p hΓ => wp_toks s.toks t p s (Nat.le_refl _) (h Γ p hΓ)
end Nt
end

section
open PySem PySem.W PyProof.Rows PySem.Calls
set_option genSizeOf false
set_option genInjectivity false
set_option maxRecDepth 100000
set_option autoImplicit false
namespace Nt

noncomputable abbrev st (s : List Nat) : Str := ⟨s.toArray⟩

mutual
inductive VR (ρ : List Addr) (h : Heap) : V → Value → Prop
  | none : VR ρ h .none .none
  | bool (b : Bool) : VR ρ h (.bool b) (.bool b)
  | int (i : Int) (t : Tok) : VR ρ h (.int i) (.int i t)
  | str (x : List Nat) (t : Tok) : x.length ≤ lim → VR ρ h (.str x) (.str (st x) t)
  | tup {vs : List V} {a : Addr} {cvs : List Value} : IsTup h a cvs.toArray → a ∉ ρ → vs.length ≤ lim → VRs ρ h vs cvs → VR ρ h (.tup vs) (.ref a)
  | lst {vs : List V} {a : Addr} {cvs : List Value} : h.IsList a cvs.toArray → a ∉ ρ → vs.length ≤ lim → VRs ρ h vs cvs → VR ρ h (.lst vs) (.ref a)
  | ref {n : Nat} {a : Addr} : ρ[n]? = some a → VR ρ h (.ref n) (.ref a)
inductive VRs (ρ : List Addr) (h : Heap) : List V → List Value → Prop
  | nil : VRs ρ h [] []
  | cons {v : V} {cv : Value} {vs : List V} {cvs : List Value} : VR ρ h v cv → VRs ρ h vs cvs → VRs ρ h (v :: vs) (cv :: cvs)
end

/-- what a step may change: the objects of X at will, the frames of Φ in their slots -/
structure Ext (Φ X : List Addr) (h h' : Heap) : Prop where
  same : ∀ b o, h.get? b = some o → b ∉ X → b ∉ Φ → h'.get? b = some o
  slots : ∀ b o, h.get? b = some o → b ∉ X → b ∈ Φ → ∃ sl, h'.get? b = some { o with slots := sl }
  live : ∀ b o, h.get? b = some o → ∃ o', h'.get? b = some o'

theorem Ext.refl (Φ X : List Addr) (h : Heap) : Ext Φ X h h := ⟨fun _ _ e _ _ => e, fun _ o e _ _ => ⟨o.slots, e⟩, fun _ o e => ⟨o, e⟩⟩
theorem Ext.upTo {Φ X : List Addr} {h h' : Heap} (x : Ext Φ X h h') {b : Addr} {o : Obj} (e : h.get? b = some o) (n : b ∉ X) : ∃ sl, h'.get? b = some { o with slots := sl } := by
  by_cases p : b ∈ Φ
  · exact x.slots b o e n p
  · exact ⟨o.slots, x.same b o e n p⟩
theorem Ext.trans {Φ X X' : List Addr} {h h' h'' : Heap} (x : Ext Φ X h h') (y : Ext Φ X' h' h'') (k : ∀ b o, h.get? b = some o → b ∈ X' → b ∈ X) : Ext Φ X h h'' := by
  refine ⟨fun b o e n p => y.same b o (x.same b o e n p) (fun q => n (k b o e q)) p, fun b o e n p => ?_, fun b o e => ?_⟩
  · obtain ⟨sl, e1⟩ := x.slots b o e n p
    obtain ⟨sl', e2⟩ := y.slots b _ e1 (fun q => n (k b o e q)) p
    exact ⟨sl', e2⟩
  · obtain ⟨o', e1⟩ := x.live b o e
    exact y.live b o' e1
theorem Ext.of_keeps {Φ X : List Addr} {h h' : Heap} (k : ∀ b o, h.get? b = some o → h'.get? b = some o) : Ext Φ X h h' :=
  ⟨fun b o e _ _ => k b o e, fun b o e _ _ => ⟨o.slots, k b o e⟩, fun b o e => ⟨o, k b o e⟩⟩
theorem Ext.push (Φ X : List Addr) (h : Heap) (o : Obj) : Ext Φ X h (h.push o) := .of_keeps fun _ _ e => Heap.get?_push_of_some o e
theorem Ext.sameBut {Φ X : List Addr} {h h' : Heap} {a : Addr} (k : Heap.SameBut a h h') (ha : a ∈ X) (hl : ∃ o, h'.get? a = some o) : Ext Φ X h h' := by
  have ne : ∀ b, b ∉ X → b ≠ a := fun b n e => n (e ▸ ha)
  refine ⟨fun b o e n _ => (k.2 b (ne b n)).trans e, fun b o e n _ => ⟨o.slots, (k.2 b (ne b n)).trans e⟩, fun b o e => ?_⟩
  by_cases q : b = a
  · exact q ▸ hl
  · exact ⟨o, (k.2 b q).trans e⟩
theorem Ext.wider {Φ X X' : List Addr} {h h' : Heap} (x : Ext Φ X h h') (k : ∀ b o, h.get? b = some o → b ∈ X → b ∈ X') : Ext Φ X' h h' :=
  ⟨fun b o e n p => x.same b o e (fun q => n (k b o e q)) p, fun b o e n p => x.slots b o e (fun q => n (k b o e q)) p, x.live⟩

/-- sequences that are not of ρ stay -/
noncomputable def SeqStay (ρ : List Addr) (h h' : Heap) : Prop := ∀ b o, h.get? b = some o → b ∉ ρ → (∃ vs n, o.data = .seq vs n) → ∃ sl, h'.get? b = some { o with slots := sl }
noncomputable def Grows (h : Heap) (ρ ρ' : List Addr) : Prop := ∃ new, ρ' = ρ ++ new ∧ ∀ a ∈ new, h.get? a = none
theorem Grows.refl (h : Heap) (ρ : List Addr) : Grows h ρ ρ := ⟨[], by simp, by simp⟩
theorem Grows.mem {h : Heap} {ρ ρ' : List Addr} (g : Grows h ρ ρ') {a : Addr} (m : a ∈ ρ) : a ∈ ρ' := by
  obtain ⟨n, rfl, _⟩ := g; exact List.mem_append_left _ m
theorem Grows.not {h : Heap} {ρ ρ' : List Addr} (g : Grows h ρ ρ') {a : Addr} {o : Obj} (m : a ∉ ρ) (e : h.get? a = some o) : a ∉ ρ' := by
  obtain ⟨n, rfl, k⟩ := g
  intro q
  rcases List.mem_append.mp q with q | q
  · exact m q
  · rw [k a q] at e; (first | exact no e | exact no1 e | exact no2 e | exact noE e | exact noE1 e | obtain rfl := Option.some.inj e | obtain rfl := Except.ok.inj e | obtain rfl := e | cases e)
theorem Grows.get {h : Heap} {ρ ρ' : List Addr} (g : Grows h ρ ρ') {n : Nat} {a : Addr} (e : ρ[n]? = some a) : ρ'[n]? = some a := by
  obtain ⟨k, rfl, _⟩ := g
  rw [List.getElem?_append_left (List.getElem?_eq_some_iff.mp e).1]; exact e
theorem Grows.trans {h h' : Heap} {ρ ρ' ρ'' : List Addr} (g : Grows h ρ ρ') (g' : Grows h' ρ' ρ'') (live : ∀ b o, h.get? b = some o → ∃ o', h'.get? b = some o') : Grows h ρ ρ'' := by
  obtain ⟨n, rfl, k⟩ := g
  obtain ⟨n', rfl, k'⟩ := g'
  refine ⟨n ++ n', by simp, fun a m => ?_⟩
  rcases List.mem_append.mp m with m | m
  · exact k a m
  · cases q : h.get? a with
    | none => rfl
    | some o => obtain ⟨o', e⟩ := live a o q; rw [k' a m] at e; (first | exact no e | exact no1 e | exact no2 e | exact noE e | exact noE1 e | obtain rfl := Option.some.inj e | obtain rfl := Except.ok.inj e | obtain rfl := e | cases e)

theorem IsTup.stay {ρ : List Addr} {h h' : Heap} {a : Addr} {its : Array Value} (x : IsTup h a its) (n : a ∉ ρ) (k : SeqStay ρ h h') : IsTup h' a its := by
  obtain ⟨o, e, c, m, d⟩ := x
  obtain ⟨sl, e'⟩ := k a o e n ⟨_, _, d⟩
  exact ⟨_, e', c, m, d⟩
theorem IsList.stay {ρ : List Addr} {h h' : Heap} {a : Addr} {its : Array Value} (x : h.IsList a its) (n : a ∉ ρ) (k : SeqStay ρ h h') : h'.IsList a its := by
  obtain ⟨o, e, c, m, d⟩ := x
  obtain ⟨sl, e'⟩ := k a o e n ⟨_, _, d⟩
  exact ⟨_, e', c, m, d⟩
/-- a longer list of addresses, its new ones no sequences of h -/
structure Fits (h : Heap) (ρ ρ' : List Addr) : Prop where
  get : ∀ (n : Nat) (a : Addr), ρ[n]? = some a → ρ'[n]? = some a
  not : ∀ b o, h.get? b = some o → (∃ vs n, o.data = .seq vs n) → b ∉ ρ → b ∉ ρ'
theorem Grows.fits {h : Heap} {ρ ρ' : List Addr} (g : Grows h ρ ρ') : Fits h ρ ρ' := ⟨fun _ _ e => g.get e, fun _ _ e _ n => g.not n e⟩
/-- what meets a value -/
noncomputable def VR.Kind (ρ : List Addr) (h : Heap) (P : Value → Prop) : V → Prop
  | .none => P .none
  | .bool b => P (.bool b)
  | .int i => ∀ t, P (.int i t)
  | .str x => ∀ t, x.length ≤ lim → P (.str (st x) t)
  | .tup vs => ∀ a (cvs : List Value), IsTup h a cvs.toArray → a ∉ ρ → vs.length ≤ lim → VRs ρ h vs cvs → P (.ref a)
  | .lst vs => ∀ a (cvs : List Value), h.IsList a cvs.toArray → a ∉ ρ → vs.length ≤ lim → VRs ρ h vs cvs → P (.ref a)
  | .ref n => ∀ a, ρ[n]? = some a → P (.ref a)
theorem VR.elim {ρ : List Addr} {h : Heap} {P : Value → Prop} {v : V} {c : Value} (r : VR ρ h v c) (k : VR.Kind ρ h P v) : P c :=
  VR.casesOn (motive_1 := fun v c _ => VR.Kind ρ h P v → P c) r id (fun _ k => k) (fun _ t k => k t) (fun _ t l k => k t l) (fun a b c d k => k _ _ a b c d) (fun a b c d k => k _ _ a b c d) (fun a k => k _ a) k
theorem VRs.ind {ρ : List Addr} {h : Heap} {P : List V → List Value → Prop} (h0 : P [] []) (h1 : ∀ v c vs cs, VR ρ h v c → VRs ρ h vs cs → P vs cs → P (v :: vs) (c :: cs)) {vs : List V} {cs : List Value} (r : VRs ρ h vs cs) : P vs cs :=
  VRs.rec (motive_1 := fun _ _ _ => True) (motive_2 := fun vs cs _ => P vs cs) trivial (fun _ => trivial) (fun _ _ => trivial) (fun _ _ _ => trivial) (fun _ _ _ _ _ => trivial) (fun _ _ _ _ _ => trivial) (fun _ => trivial) h0 (fun a b _ k => h1 _ _ _ _ a b k) r
theorem VRs.split {ρ : List Addr} {h : Heap} {v : V} {vs : List V} {cs : List Value} (r : VRs ρ h (v :: vs) cs) : ∃ c r, cs = c :: r ∧ VR ρ h v c ∧ VRs ρ h vs r :=
  VRs.casesOn (motive_2 := fun l cs _ => l = v :: vs → ∃ c r, cs = c :: r ∧ VR ρ h v c ∧ VRs ρ h vs r) r nofun (fun a b e => by injection e with e1 e2; exact ⟨_, _, rfl, e1 ▸ a, e2 ▸ b⟩) rfl
theorem tup_fits {ρ ρ' : List Addr} {h h' : Heap} {a : Addr} {its : Array Value} (g : Fits h ρ ρ') (n : a ∉ ρ) (i : IsTup h a its) : a ∉ ρ' := by
  obtain ⟨o, e, _, m, d⟩ := i; exact g.not _ o e ⟨_, _, d⟩ n
theorem lst_fits {ρ ρ' : List Addr} {h h' : Heap} {a : Addr} {its : Array Value} (g : Fits h ρ ρ') (n : a ∉ ρ) (i : h.IsList a its) : a ∉ ρ' := by
  obtain ⟨o, e, _, m, d⟩ := i; exact g.not _ o e ⟨_, _, d⟩ n
theorem VR.monoF {ρ ρ' : List Addr} {h h' : Heap} (k : SeqStay ρ h h') (g : Fits h ρ ρ') {v : V} {c : Value} (r : VR ρ h v c) : VR ρ' h' v c :=
  VR.rec (motive_1 := fun v c _ => VR ρ' h' v c) (motive_2 := fun v c _ => VRs ρ' h' v c) .none .bool .int .str (fun i n l _ r => .tup (IsTup.stay i n k) (tup_fits (h' := h') g n i) l r) (fun i n l _ r => .lst (IsList.stay i n k) (lst_fits (h' := h') g n i) l r) (fun e => .ref (g.get _ _ e)) .nil (fun _ _ a b => .cons a b) r
theorem VRs.monoF {ρ ρ' : List Addr} {h h' : Heap} (k : SeqStay ρ h h') (g : Fits h ρ ρ') {v : List V} {c : List Value} (r : VRs ρ h v c) : VRs ρ' h' v c :=
  VRs.ind (P := fun v c => VRs ρ' h' v c) .nil (fun _ _ _ _ a _ b => .cons (VR.monoF k g a) b) r
theorem VR.mono {ρ ρ' : List Addr} {h h' : Heap} (k : SeqStay ρ h h') (g : Grows h ρ ρ') {v : V} {c : Value} (r : VR ρ h v c) : VR ρ' h' v c := r.monoF k g.fits
theorem VRs.mono {ρ ρ' : List Addr} {h h' : Heap} (k : SeqStay ρ h h') (g : Grows h ρ ρ') {v : List V} {c : List Value} (r : VRs ρ h v c) : VRs ρ' h' v c := r.monoF k g.fits
theorem VRs.length {ρ : List Addr} {h : Heap} {v : List V} {c : List Value} (r : VRs ρ h v c) : c.length = v.length :=
  VRs.ind (P := fun v c => c.length = v.length) rfl (fun _ _ _ _ _ _ e => congrArg Nat.succ e) r
theorem VRs.get {ρ : List Addr} {h : Heap} {v : List V} {c : List Value} (r : VRs ρ h v c) : ∀ {i : Nat} {x : V}, v[i]? = some x → ∃ y, c[i]? = some y ∧ VR ρ h x y :=
  VRs.ind (P := fun v c => ∀ {i : Nat} {x : V}, v[i]? = some x → ∃ y, c[i]? = some y ∧ VR ρ h x y) (fun e => no e)
    (fun _ c _ _ a _ k {i} {x} e => match i, e with
      | 0, e => ⟨c, rfl, Option.some.inj e ▸ a⟩
      | _ + 1, e => k e) r
theorem VRs.append {ρ : List Addr} {h : Heap} {v : List V} {c : List Value} (r : VRs ρ h v c) {v' : List V} {c' : List Value} (r' : VRs ρ h v' c') : VRs ρ h (v ++ v') (c ++ c') :=
  VRs.ind (P := fun v c => VRs ρ h (v ++ v') (c ++ c')) r' (fun _ _ _ _ a _ k => .cons a k) r
theorem VRs.dropLast {ρ : List Addr} {h : Heap} {v : List V} {c : List Value} (r : VRs ρ h v c) : VRs ρ h v.dropLast c.dropLast :=
  VRs.ind (P := fun v c => VRs ρ h v.dropLast c.dropLast) .nil (fun _ _ _ _ a b k => VRs.casesOn (motive_2 := fun vs cs _ => VRs ρ h vs.dropLast cs.dropLast → VRs ρ h (_ :: vs).dropLast (_ :: cs).dropLast) b (fun _ => .nil) (fun _ _ k => .cons a k) k) r
theorem VRs.set {ρ : List Addr} {h : Heap} {v : List V} {c : List Value} (r : VRs ρ h v c) : ∀ (i : Nat) {x : V} {y : Value}, VR ρ h x y → VRs ρ h (v.set i x) (c.set i y) :=
  VRs.ind (P := fun v c => ∀ (i : Nat) {x : V} {y : Value}, VR ρ h x y → VRs ρ h (v.set i x) (c.set i y)) (fun _ _ _ _ => .nil)
    (fun _ _ _ _ a b k i => match i with
      | 0 => fun r => .cons r b
      | i + 1 => fun r => .cons a (k i r)) r

end Nt
end

section
open PySem PySem.W PyProof.Rows PySem.Calls
set_option genSizeOf false
set_option genInjectivity false
set_option maxRecDepth 100000
set_option autoImplicit false
namespace Nt

theorem VRs.sub {ρ : List Addr} {h : Heap} {v : List V} {c : List Value} (x : VRs ρ h v c) : ∀ (i : Nat) (y : Value), c[i]? = some y → ∃ z, v[i]? = some z ∧ VR ρ h z y := by
  induction v generalizing c with
  | nil => (first | exact no x | exact no1 x | exact no2 x | exact noE x | exact noE1 x | obtain rfl := Option.some.inj x | obtain rfl := Except.ok.inj x | obtain rfl := x | cases x); intro i y e; simp at e
  | cons a r ih =>
    cases x with
    | cons p q =>
      intro i y e
      cases i with
      | zero => simp at e; subst e; exact ⟨a, rfl, p⟩
      | succ i => simp at e; simpa using ih q i y e


/-- an object of the small heap, at its address -/
noncomputable def OR (prog : Program) (w : World) (ρ : List Addr) (h : Heap) (a : Addr) : O → Prop
  | .list vs => ∃ cvs n, h.get? a = some { cls := .type "list", data := .seq cvs.toArray n } ∧ vs.length ≤ lim ∧ VRs ρ h vs cvs
  | .dict kvs => ∃ ckvs : List (Str × Value), h.DictOf (PySem.strKind prog w) a ckvs ∧ (ckvs.map (·.1) = kvs.map (fun kv => st kv.1) ∧ kvs.length ≤ 1000 ∧ (a == sysModules) = false) ∧ VRs ρ h (kvs.map (·.2)) (ckvs.map (·.2))

structure HR (prog : Program) (w : World) (B : Heap) (ρ : List Addr) (σ : List O) (h : Heap) : Prop where
  len : ρ.length = σ.length
  nd : ρ.Nodup
  new : ∀ a ∈ ρ, B.get? a = none
  obj : ∀ (i : Nat) (o : O) (a : Addr), σ[i]? = some o → ρ[i]? = some a → OR prog w ρ h a o

/-- a frame of the program's -/
structure Fm where
  A : Around
  name : Str
  scope : Scope
  L : Addr
  a : Addr
  cd : Value
  outer : List Env
  names : List Str
noncomputable abbrev Fm.env (f : Fm) : Env := envOf f.name f.scope f.L f.a f.cd
noncomputable abbrev frs (l : List Env) : List Addr := l.filterMap (·.frame)
noncomputable abbrev Fm.X (f : Fm) (ρ : List Addr) : List Addr := f.L :: ρ

structure CI (prog : Program) (w : World) (B : Heap) (outer : List Env) (ρ : List Addr) (σ : List O) (h : Heap) : Prop where
  base : B.StaysIn h
  frames : h.FunFrames B outer
  apart : ∀ b ∈ frs outer, b ∉ ρ
  hr : HR prog w B ρ σ h

noncomputable def LR (ρ : List Addr) (h : Heap) (names : List Str) (loc : List (Option V)) (m : Str → Option Value) : Prop :=
  ∀ (i : Nat) (x : Str) (v : V), names[i]? = some x → loc[i]? = some (some v) → ∃ cv, m x = some cv ∧ VR ρ h v cv

structure FI (prog : Program) (w : World) (B : Heap) (f : Fm) (ρ : List Addr) (t : St) (h : Heap) : Prop where
  ci : CI prog w B f.outer ρ t.heap h
  ns : ∃ m, h.Ns f.L m ∧ LR ρ h f.names t.loc m
  len : t.loc.length = f.names.length
  new : B.get? f.L = none
  out : f.L ∉ frs f.outer
  off : f.L ∉ ρ

/-- what holds of a frame for good -/
structure Fm.Ok (f : Fm) (n : Nat) : Prop where
  fr : f.A.frames = some (f.env :: f.outer)
  hd : f.A.handled = none
  kind : f.scope.kind = .function
  nd : f.names.Nodup
  room : f.A.depth + n < recursionLimit
  units : f.A.units + 3 * n + 100 < cLine

structure Gr (Φ X ρ ρ' : List Addr) (s s' : Shared) : Prop where
  ext : Ext Φ X s.heap s'.heap
  grows : Grows s.heap ρ ρ'
  gens : s'.gens = s.gens
  os : s'.os = s.os

noncomputable def WhyObj (o : Obj) (x : List Nat) : Prop := ∃ hsh kt t n, o = { cls := .type "dict", data := .dict #[⟨hsh, .str (Str.ofString "why") kt, .str (st x) t⟩] n }

/-- an exception of the class at CM, with its text, seen from the frame at L; it is new since hs -/
inductive ExcIn (CM L : Addr) (hs h : Heap) (e : Addr) (x : List Nat) : Prop
  | mk (oe : Obj) (vs : Array Value) (dx : Addr) (od : Obj) : h.get? e = some oe → oe.cls = .ref CM → oe.dict = some dx → oe.data = .fields vs → hs.get? e = none → h.get? dx = some od → WhyObj od x → hs.get? dx = none →
    (vs[1]? = some .none ∨ ∃ T oT ts, vs[1]? = some (.ref T) ∧ T ≠ e ∧ hs.get? T = none ∧ h.get? T = some oT ∧ oT.data = .fields ts ∧ (ts[3]? = some .none ∨ ts[3]? = some (rawInt L))) → ExcIn CM L hs h e x

theorem ExcIn.since {CM L : Addr} {hs hs' h : Heap} {e : Addr} {x : List Nat} (q : ExcIn CM L hs' h e x) (live : ∀ b o, hs.get? b = some o → ∃ o', hs'.get? b = some o') : ExcIn CM L hs h e x := by
  have fr : ∀ b, hs'.get? b = none → hs.get? b = none := fun b k => by
    cases p : hs.get? b with
    | none => rfl
    | some o => obtain ⟨o', k'⟩ := live b o p; rw [k] at k'; (first | exact no k' | exact no1 k' | exact no2 k' | exact noE k' | exact noE1 k' | obtain rfl := Option.some.inj k' | obtain rfl := Except.ok.inj k' | obtain rfl := k' | cases k')
  obtain ⟨oe, vs, dx, od, h1, h2, h3, h4, h5, h6, h7, h8, h9⟩ := q
  refine ⟨oe, vs, dx, od, h1, h2, h3, h4, fr _ h5, h6, h7, fr _ h8, h9.imp id ?_⟩
  rintro ⟨T, oT, ts, a, b, c, d⟩
  exact ⟨T, oT, ts, a, b, fr _ c, d⟩

theorem Gr.refl (Φ X ρ : List Addr) (s : Shared) : Gr Φ X ρ ρ s s := ⟨.refl _ _ _, .refl _ _, rfl, rfl⟩
theorem Gr.trans {Φ X X' ρ ρ' ρ'' : List Addr} {s s' s'' : Shared} (a : Gr Φ X ρ ρ' s s') (b : Gr Φ X' ρ' ρ'' s' s'') (k : ∀ b o, s.heap.get? b = some o → b ∈ X' → b ∈ X) : Gr Φ X ρ ρ'' s s'' :=
  ⟨a.ext.trans b.ext k, a.grows.trans b.grows a.ext.live, b.gens.trans a.gens, b.os.trans a.os⟩
theorem Gr.transF {Φ ρ ρ' ρ'' : List Addr} {L : Addr} {s s' s'' : Shared} (a : Gr Φ (L :: ρ) ρ ρ' s s') (b : Gr Φ (L :: ρ') ρ' ρ'' s' s'') : Gr Φ (L :: ρ) ρ ρ'' s s'' :=
  a.trans b fun x o e m => by
    rcases List.mem_cons.mp m with m | m
    · exact m ▸ .head _
    · refine .tail _ ?_
      by_cases q : x ∈ ρ
      · exact q
      · exact absurd m (a.grows.not q e)
theorem Gr.of_heap {Φ X ρ : List Addr} {s : Shared} {h : Heap} {tk : Nat} (x : Ext Φ X s.heap h) : Gr Φ X ρ ρ s { s with heap := h, toks := tk } := ⟨x, .refl _ _, rfl, rfl⟩
theorem Gr.toks {Φ X ρ ρ' : List Addr} {s s' : Shared} {tk : Nat} (a : Gr Φ X ρ ρ' s s') : Gr Φ X ρ ρ' s { s' with toks := tk } := ⟨a.ext, a.grows, a.gens, a.os⟩

theorem seqStay {Φ ρ : List Addr} {L : Addr} {h h' : Heap} {m : Str → Option Value} (x : Ext Φ (L :: ρ) h h') (n : h.Ns L m) : SeqStay ρ h h' := by
  intro b o e nb d
  obtain ⟨vs, k, d⟩ := d
  refine x.upTo e fun q => ?_
  rcases List.mem_cons.mp q with q | q
  · subst q
    obtain ⟨o', es, ep, e', d', _⟩ := n
    rw [e] at e'; (first | exact no e' | exact no1 e' | exact no2 e' | exact noE e' | exact noE1 e' | obtain rfl := Option.some.inj e' | obtain rfl := Except.ok.inj e' | obtain rfl := e' | cases e')
    rw [d] at d'; (first | exact no d' | exact no1 d' | exact no2 d' | exact noE d' | exact noE1 d' | obtain rfl := Option.some.inj d' | obtain rfl := Except.ok.inj d' | obtain rfl := d' | cases d')
  · exact nb q
theorem seqStayC {Φ ρ : List Addr} {h h' : Heap} (x : Ext Φ ρ h h') : SeqStay ρ h h' := fun _ _ e nb _ => x.upTo e nb

section
variable {prog : Program} {w : World} {B : Heap} {CM : Addr}

theorem FI.stay {f : Fm} {ρ ρ' : List Addr} {t : St} {s s' : Shared} (I : FI prog w B f ρ t s.heap) (g : Gr (frs f.outer) (f.X ρ) ρ ρ' s s') : SeqStay ρ s.heap s'.heap :=
  let ⟨_, n, _⟩ := I.ns; seqStay g.ext n
theorem FI.vr {f : Fm} {ρ ρ' : List Addr} {t : St} {s s' : Shared} (I : FI prog w B f ρ t s.heap) (g : Gr (frs f.outer) (f.X ρ) ρ ρ' s s') {v : V} {c : Value} (r : VR ρ s.heap v c) : VR ρ' s'.heap v c :=
  r.mono (I.stay g) g.grows
theorem FI.vrs {f : Fm} {ρ ρ' : List Addr} {t : St} {s s' : Shared} (I : FI prog w B f ρ t s.heap) (g : Gr (frs f.outer) (f.X ρ) ρ ρ' s s') {v : List V} {c : List Value} (r : VRs ρ s.heap v c) : VRs ρ' s'.heap v c :=
  r.mono (I.stay g) g.grows

inductive PV (prog : Program) (w : World) (B : Heap) (f : Fm) (ρ : List Addr) (r : Except (List Nat) V) (t' : St) (s : Shared) (c : Value) (s' : Shared) : Prop
  | mk (v : V) (ρ' : List Addr) : r = .ok v → VR ρ' s'.heap v c → FI prog w B f ρ' t' s'.heap → Gr (frs f.outer) (f.X ρ) ρ ρ' s s' → PV prog w B f ρ r t' s c s'
inductive PE {α : Type} (prog : Program) (w : World) (B : Heap) (CM : Addr) (f : Fm) (ρ : List Addr) (r : Except (List Nat) α) (t' : St) (s : Shared) (c : Value) (s' : Shared) : Prop
  | mk (x : List Nat) (e : Addr) (ρ' : List Addr) : c = .ref e → r = .error x → ExcIn CM f.L s.heap s'.heap e x → FI prog w B f ρ' t' s'.heap → Gr (frs f.outer) (f.X ρ) ρ ρ' s s' → PE prog w B CM f ρ r t' s c s'

theorem PE.back {α : Type} {f : Fm} {ρ ρ₁ : List Addr} {r : Except (List Nat) α} {t' : St} {s s₁ : Shared} (g : Gr (frs f.outer) (f.X ρ) ρ ρ₁ s s₁) {c : Value} {s' : Shared} (p : PE prog w B CM f ρ₁ r t' s₁ c s') : PE prog w B CM f ρ r t' s c s' := by
  obtain ⟨x, e, ρ', h1, h2, h3, h4, h5⟩ := p
  exact ⟨x, e, ρ', h1, h2, h3.since g.ext.live, h4, g.transF h5⟩
theorem PV.back {f : Fm} {ρ ρ₁ : List Addr} {r : Except (List Nat) V} {t' : St} {s s₁ : Shared} (g : Gr (frs f.outer) (f.X ρ) ρ ρ₁ s s₁) {c : Value} {s' : Shared} (p : PV prog w B f ρ₁ r t' s₁ c s') : PV prog w B f ρ r t' s c s' := by
  obtain ⟨v, ρ', h1, h2, h3, h4⟩ := p
  exact ⟨v, ρ', h1, h2, h3, g.transF h4⟩

/-- a sub-evaluation and what comes behind it -/
theorem wp_bd {α : Type} {f : Fm} {ρ : List Addr} {s : Shared} {m : Res V} {k : V → St → Res α} {r : Except (List Nat) α} {t' : St} {tr : Sem Value} {P : Value → Shared → Prop} {R : Value → Shared → Prop}
    (e : bd m k = some (r, t'))
    (ih : ∀ r₁ t₁, m = some (r₁, t₁) → wpAny (model prog w) f.A tr (PV prog w B f ρ r₁ t₁ s) (PE prog w B CM f ρ r₁ t₁ s) s)
    (hE : ∀ c s', PE prog w B CM f ρ r t' s c s' → R c s') (ht : 1 ≤ s.toks)
    (h : ∀ v t₁ c s₁ ρ₁, 1 ≤ s₁.toks → m = some (.ok v, t₁) → k v t₁ = some (r, t') → VR ρ₁ s₁.heap v c → FI prog w B f ρ₁ t₁ s₁.heap → Gr (frs f.outer) (f.X ρ) ρ ρ₁ s s₁ → P c s₁) :
    wpAny (model prog w) f.A tr P R s := by
  match m, e, ih, h with
  | some (.ok v, t₁), e, ih, h =>
    refine wpAny_mono (wpAny_toks (ih _ _ rfl)) (fun c s₁ p => ?_) fun c s₁ p => ?_ <;> obtain ⟨p, tk⟩ := p
    · obtain ⟨v', ρ', h1, h2, h3, h4⟩ := p
      (first | exact no h1 | exact no1 h1 | exact no2 h1 | exact noE h1 | exact noE1 h1 | obtain rfl := Option.some.inj h1 | obtain rfl := Except.ok.inj h1 | obtain rfl := h1 | cases h1)
      exact h v t₁ c s₁ ρ' (Nat.le_trans ht tk) rfl e h2 h3 h4
    · obtain ⟨x, e, ρ', h1, h2, h3, h4, h5⟩ := p
      (first | exact no h2 | exact no1 h2 | exact no2 h2 | exact noE h2 | exact noE1 h2 | obtain rfl := Option.some.inj h2 | obtain rfl := Except.ok.inj h2 | obtain rfl := h2 | cases h2)
  | some (.error x, t₁), e, ih, h =>
    have e' : (some (.error x, t₁) : Res α) = some (r, t') := e
    (first | exact no e' | exact no1 e' | exact no2 e' | exact noE e' | exact noE1 e' | obtain rfl := Option.some.inj e' | obtain rfl := Except.ok.inj e' | obtain rfl := e' | cases e')
    refine wpAny_mono (wpAny_toks (ih _ _ rfl)) (fun c s₁ p => ?_) fun c s₁ p => ?_ <;> obtain ⟨p, tk⟩ := p
    · obtain ⟨v', ρ', h1, h2, h3, h4⟩ := p
      (first | exact no h1 | exact no1 h1 | exact no2 h1 | exact noE h1 | exact noE1 h1 | obtain rfl := Option.some.inj h1 | obtain rfl := Except.ok.inj h1 | obtain rfl := h1 | cases h1)
    · obtain ⟨x', e, ρ', h1, h2, h3, h4, h5⟩ := p
      (first | exact no h2 | exact no1 h2 | exact no2 h2 | exact noE h2 | exact noE1 h2 | obtain rfl := Option.some.inj h2 | obtain rfl := Except.ok.inj h2 | obtain rfl := h2 | cases h2)
      exact hE c s₁ ⟨x, e, ρ', h1, rfl, h3, h4, h5⟩
  | none, e, _, _ => (first | exact no e | exact no1 e | exact no2 e | exact noE e | exact noE1 e | obtain rfl := Option.some.inj e | obtain rfl := Except.ok.inj e | obtain rfl := e | cases e)
end

end Nt
end

section
open PySem PySem.W PyProof.Rows PySem.Calls
set_option genSizeOf false
set_option genInjectivity false
set_option maxRecDepth 100000
set_option autoImplicit false
namespace Nt
section
variable {prog : Program} {w : World} {B : Heap} {CM : Addr}

theorem nodup_idx {α : Type} {l : List α} (h : l.Nodup) {i j : Nat} {x : α} (hi : l[i]? = some x) (hj : l[j]? = some x) : i = j :=
  (List.getElem?_inj (List.getElem?_eq_some_iff.mp hi).1 h).mp (hi.trans hj.symm)
theorem OR.mono {ρ ρ' : List Addr} {h h' : Heap} {a : Addr} {o : O} (x : OR prog w ρ h a o) (e : ∀ ob, h.get? a = some ob → h'.get? a = some ob) (k : SeqStay ρ h h') (g : Grows h ρ ρ') : OR prog w ρ' h' a o := by
  cases o with
  | list vs => obtain ⟨c, n, p, l, r⟩ := x; exact ⟨c, n, e _ p, l, r.mono k g⟩
  | dict kvs =>
    obtain ⟨c, ⟨ob, es, ep, p, q⟩, l, r⟩ := x
    exact ⟨c, ⟨ob, es, ep, e _ p, q⟩, l, r.mono k g⟩
theorem OR.live {ρ : List Addr} {h : Heap} {a : Addr} {o : O} (x : OR prog w ρ h a o) : ∃ ob, h.get? a = some ob := by
  cases o with
  | list vs => obtain ⟨c, n, p, _⟩ := x; exact ⟨_, p⟩
  | dict kvs => obtain ⟨c, ⟨ob, es, ep, p, q⟩, _⟩ := x; exact ⟨ob, p⟩
theorem OR.noFields {ρ : List Addr} {h : Heap} {a : Addr} {o : O} (x : OR prog w ρ h a o) {ob : Obj} (e : h.get? a = some ob) : ∀ vs, ob.data ≠ .fields vs := by
  cases o with
  | list vs => obtain ⟨c, n, p, _⟩ := x; rw [p] at e; (first | exact no e | exact no1 e | exact no2 e | exact noE e | exact noE1 e | obtain rfl := Option.some.inj e | obtain rfl := Except.ok.inj e | obtain rfl := e | cases e); intro vs q; (first | exact no q | exact no1 q | exact no2 q | exact noE q | exact noE1 q | obtain rfl := Option.some.inj q | obtain rfl := Except.ok.inj q | obtain rfl := q | cases q)
  | dict kvs => obtain ⟨c, ⟨ob', es, ep, p, _, q, _⟩, _⟩ := x; rw [p] at e; (first | exact no e | exact no1 e | exact no2 e | exact noE e | exact noE1 e | obtain rfl := Option.some.inj e | obtain rfl := Except.ok.inj e | obtain rfl := e | cases e); intro vs q'; rw [q] at q'; (first | exact no q' | exact no1 q' | exact no2 q' | exact noE q' | exact noE1 q' | obtain rfl := Option.some.inj q' | obtain rfl := Except.ok.inj q' | obtain rfl := q' | cases q')

theorem HR.at {ρ : List Addr} {σ : List O} {h : Heap} (H : HR prog w B ρ σ h) {a : Addr} (m : a ∈ ρ) : ∃ (i : Nat) (o : O), σ[i]? = some o ∧ ρ[i]? = some a ∧ OR prog w ρ h a o := by
  obtain ⟨i, hi, e⟩ := List.getElem_of_mem m
  have hi' : i < σ.length := H.len ▸ hi
  have e' : ρ[i]? = some a := by rw [List.getElem?_eq_getElem hi, e]
  exact ⟨i, σ[i], List.getElem?_eq_getElem hi', e', H.obj i _ a (List.getElem?_eq_getElem hi') e'⟩
theorem HR.live {ρ : List Addr} {σ : List O} {h : Heap} (H : HR prog w B ρ σ h) {a : Addr} (m : a ∈ ρ) : ∃ ob, h.get? a = some ob :=
  let ⟨_, _, _, _, x⟩ := H.at m; x.live
theorem HR.notNew {ρ : List Addr} {σ : List O} {h : Heap} (H : HR prog w B ρ σ h) : h.objs.size ∉ ρ := fun m => by
  obtain ⟨_, e⟩ := H.live m
  exact absurd (Heap.lt_size e) (Nat.lt_irrefl _)
theorem HR.addr {ρ : List Addr} {σ : List O} {h : Heap} (H : HR prog w B ρ σ h) {n : Nat} {o : O} (e : σ[n]? = some o) : ∃ a, ρ[n]? = some a ∧ OR prog w ρ h a o := by
  have hn : n < ρ.length := H.len ▸ (List.getElem?_eq_some_iff.mp e).1
  exact ⟨ρ[n], List.getElem?_eq_getElem hn, H.obj n o _ e (List.getElem?_eq_getElem hn)⟩
/-- all stays but what is not of ρ -/
theorem HR.stay {ρ : List Addr} {σ : List O} {h h' : Heap} (H : HR prog w B ρ σ h) (e : ∀ a ∈ ρ, ∀ ob, h.get? a = some ob → h'.get? a = some ob) (k : SeqStay ρ h h') : HR prog w B ρ σ h' :=
  ⟨H.len, H.nd, H.new, fun i o a p q => (H.obj i o a p q).mono (e a (List.mem_of_getElem? q)) k (.refl _ _)⟩
theorem HR.upd {ρ : List Addr} {σ : List O} {h h' : Heap} {n : Nat} {a : Addr} {o' : O} (H : HR prog w B ρ σ h) (k : Heap.SameBut a h h') (e : ρ[n]? = some a) (ho : OR prog w ρ h' a o') : HR prog w B ρ (σ.set n o') h' := by
  have ss : SeqStay ρ h h' := fun b o p nb _ => ⟨o.slots, (k.2 b (fun q => nb (q ▸ List.mem_of_getElem? e))).trans p⟩
  refine ⟨by rw [List.length_set]; exact H.len, H.nd, H.new, fun i o b p q => ?_⟩
  by_cases hi : i = n
  · subst hi
    rw [e] at q; (first | exact no q | exact no1 q | exact no2 q | exact noE q | exact noE1 q | obtain rfl := Option.some.inj q | obtain rfl := Except.ok.inj q | obtain rfl := q | cases q)
    have hl : i < σ.length := H.len ▸ (List.getElem?_eq_some_iff.mp e).1
    rw [List.getElem?_set_self hl] at p; (first | exact no p | exact no1 p | exact no2 p | exact noE p | exact noE1 p | obtain rfl := Option.some.inj p | obtain rfl := Except.ok.inj p | obtain rfl := p | cases p)
    exact ho
  · rw [List.getElem?_set_ne (Ne.symm hi)] at p
    have hb : b ≠ a := fun q' => by
      subst q'
      exact hi (nodup_idx H.nd q e)
    exact (H.obj i o b p q).mono (fun ob g => (k.2 b hb).trans g) ss (.refl _ _)
theorem HR.alloc {ρ : List Addr} {σ : List O} {h h' : Heap} {a : Addr} {o' : O} (H : HR prog w B ρ σ h) (k : ∀ b o, h.get? b = some o → h'.get? b = some o) (na : h.get? a = none) (nB : B.get? a = none)
    (ho : OR prog w (ρ ++ [a]) h' a o') : HR prog w B (ρ ++ [a]) (σ ++ [o']) h' := by
  have ss : SeqStay ρ h h' := fun b o p _ _ => ⟨o.slots, k b o p⟩
  have gr : Grows h ρ (ρ ++ [a]) := ⟨[a], rfl, fun b m => by rw [List.mem_singleton.mp m]; exact na⟩
  have naρ : a ∉ ρ := fun m => by obtain ⟨_, e⟩ := H.live m; rw [na] at e; (first | exact no e | exact no1 e | exact no2 e | exact noE e | exact noE1 e | obtain rfl := Option.some.inj e | obtain rfl := Except.ok.inj e | obtain rfl := e | cases e)
  refine ⟨by simp [H.len], ?_, fun b m => ?_, fun i o b p q => ?_⟩
  · exact List.nodup_append.mpr ⟨H.nd, by simp, fun x hx y hy e => by rw [List.mem_singleton.mp hy] at e; exact naρ (e ▸ hx)⟩
  · rcases List.mem_append.mp m with m | m
    · exact H.new b m
    · rw [List.mem_singleton.mp m]; exact nB
  · by_cases hi : i < σ.length
    · rw [List.getElem?_append_left hi] at p
      rw [List.getElem?_append_left (H.len ▸ hi)] at q
      exact (H.obj i o b p q).mono (fun ob g => k b ob g) ss gr
    · have hi' : i = σ.length := by
        have := (List.getElem?_eq_some_iff.mp p).1
        simp at this; (first | lia | omega)
      subst hi'
      rw [← H.len] at q
      simp at p q
      subst p q
      exact ho

theorem LR.stay {ρ ρ' : List Addr} {h h' : Heap} {names : List Str} {loc : List (Option V)} {m : Str → Option Value} (x : LR ρ h names loc m) (k : SeqStay ρ h h') (g : Grows h ρ ρ') : LR ρ' h' names loc m :=
  fun i n v p q => let ⟨c, e, r⟩ := x i n v p q; ⟨c, e, r.mono k g⟩

theorem CI.keeps {outer : List Env} {ρ : List Addr} {σ : List O} {h h' : Heap} (C : CI prog w B outer ρ σ h) (k : ∀ b o, h.get? b = some o → h'.get? b = some o) : CI prog w B outer ρ σ h' :=
  ⟨fun b o e => k b o (C.base b o e), C.frames.of_keeps fun b o e _ => ⟨o, k b o e, rfl⟩, C.apart, C.hr.stay (fun a _ ob e => k a ob e) fun b o e _ _ => ⟨o.slots, k b o e⟩⟩

theorem FI.keeps {f : Fm} {ρ : List Addr} {t : St} {h h' : Heap} (I : FI prog w B f ρ t h) (k : ∀ b o, h.get? b = some o → h'.get? b = some o) : FI prog w B f ρ t h' :=
  let ⟨m, n, l⟩ := I.ns
  ⟨I.ci.keeps k, ⟨m, n.keeps k, l.stay (fun b o e _ _ => ⟨o.slots, k b o e⟩) (.refl _ _)⟩, I.len, I.new, I.out, I.off⟩
theorem FI.push {f : Fm} {ρ : List Addr} {t : St} {h : Heap} (I : FI prog w B f ρ t h) (o : Obj) : FI prog w B f ρ t (h.push o) := I.keeps fun _ _ e => Heap.get?_push_of_some o e
theorem FI.seqs {f : Fm} {ρ : List Addr} {t : St} {h h' : Heap} (I : FI prog w B f ρ t h) (x : Ext (frs f.outer) (f.X ρ) h h') : SeqStay ρ h h' :=
  let ⟨_, n, _⟩ := I.ns; seqStay x n

/-- an object of the small heap is turned -/
theorem FI.upd {f : Fm} {ρ : List Addr} {t : St} {h h' : Heap} {n : Nat} {a : Addr} {o' : O} (I : FI prog w B f ρ t h) (k : Heap.SameBut a h h') (e : ρ[n]? = some a) (ho : OR prog w ρ h' a o') : FI prog w B f ρ ⟨t.loc, t.heap.set n o'⟩ h' := by
  have ma := List.mem_of_getElem? e
  have ss : SeqStay ρ h h' := fun b o p nb _ => ⟨o.slots, (k.2 b (fun q => nb (q ▸ ma))).trans p⟩
  obtain ⟨m, ns, l⟩ := I.ns
  have hL : f.L ≠ a := fun q => I.off (q ▸ ma)
  refine ⟨⟨fun b o p => (k.2 b fun q => ?_).trans (I.ci.base b o p), ?_, I.ci.apart, I.ci.hr.upd k e ho⟩, ⟨m, ns.sameBut k hL, l.stay ss (.refl _ _)⟩, I.len, I.new, I.out, I.off⟩
  · rw [q, I.ci.hr.new a ma] at p; (first | exact no p | exact no1 p | exact no2 p | exact noE p | exact noE1 p | obtain rfl := Option.some.inj p | obtain rfl := Except.ok.inj p | obtain rfl := p | cases p)
  · have fr := I.ci.frames
    have ap := I.ci.apart
    clear I
    generalize f.outer = l at fr ap
    induction l with
    | nil => trivial
    | cons env r ih =>
      obtain ⟨q1, ⟨L, o, q2, q3, q4, q5⟩, q6⟩ := fr
      refine ⟨q1, ⟨L, o, q2, q3, (k.2 L fun q => ?_).trans q4, q5⟩, ih q6 fun b hb => ap b ?_⟩
      · exact ap L (by simp [frs, q2]) (q ▸ ma)
      · simp only [frs, List.filterMap_cons, q2]; exact .tail _ hb
theorem FI.ext {f : Fm} {ρ : List Addr} {h h' : Heap} {n : Nat} {a : Addr} {o' : O} (k : Heap.SameBut a h h') (e : ρ[n]? = some a) (ho : OR prog w ρ h' a o') : Ext (frs f.outer) (f.X ρ) h h' :=
  .sameBut k (.tail _ (List.mem_of_getElem? e)) ho.live

/-- a new object of the small heap -/
theorem FI.alloc {f : Fm} {ρ : List Addr} {t : St} {h h' : Heap} {a : Addr} {o' : O} (I : FI prog w B f ρ t h) (k : ∀ b o, h.get? b = some o → h'.get? b = some o) (na : h.get? a = none)
    (ho : OR prog w (ρ ++ [a]) h' a o') : FI prog w B f (ρ ++ [a]) ⟨t.loc, t.heap ++ [o']⟩ h' ∧ Grows h ρ (ρ ++ [a]) := by
  have gr : Grows h ρ (ρ ++ [a]) := ⟨[a], rfl, fun b m => by rw [List.mem_singleton.mp m]; exact na⟩
  have nB : B.get? a = none := by
    cases q : B.get? a with
    | none => rfl
    | some o => rw [I.ci.base a o q] at na; (first | exact no na | exact no1 na | exact no2 na | exact noE na | exact noE1 na | obtain rfl := Option.some.inj na | obtain rfl := Except.ok.inj na | obtain rfl := na | cases na)
  obtain ⟨m, ns, l⟩ := I.ns
  refine ⟨⟨⟨fun b o e => k b o (I.ci.base b o e), I.ci.frames.of_keeps fun b o e _ => ⟨o, k b o e, rfl⟩, fun b hb hm => ?_, I.ci.hr.alloc k na nB ho⟩, ⟨m, ns.keeps k, l.stay (fun b o e _ _ => ⟨o.slots, k b o e⟩) gr⟩, I.len, I.new, I.out, fun hm => ?_⟩, gr⟩
  · rcases List.mem_append.mp hm with hm | hm
    · exact I.ci.apart b hb hm
    · rw [List.mem_singleton.mp hm] at hb
      obtain ⟨_, o, e, _⟩ := I.ci.frames.mem hb
      rw [na] at e; (first | exact no e | exact no1 e | exact no2 e | exact noE e | exact noE1 e | obtain rfl := Option.some.inj e | obtain rfl := Except.ok.inj e | obtain rfl := e | cases e)
  · rcases List.mem_append.mp hm with hm | hm
    · exact I.off hm
    · obtain ⟨_, _, _, e, _⟩ := ns
      rw [List.mem_singleton.mp hm, na] at e; (first | exact no e | exact no1 e | exact no2 e | exact noE e | exact noE1 e | obtain rfl := Option.some.inj e | obtain rfl := Except.ok.inj e | obtain rfl := e | cases e)

/-- a name is stored -/
theorem FI.put {f : Fm} {ρ : List Addr} {t : St} {h h' : Heap} {i : Nat} {x : Str} {v : V} {c : Value} {n : Nat} (I : FI prog w B f ρ t h) (K : f.Ok n) (e : f.names[i]? = some x) (r : VR ρ h v c) {m : Str → Option Value} (hm : LR ρ h f.names t.loc m)
    (hn : h'.Ns f.L (fun y => if y = x then some c else m y)) (k : Heap.SameBut f.L h h') : FI prog w B f ρ (t.put i v) h' := by
  obtain ⟨m', ns, _⟩ := I.ns
  obtain ⟨oL, es, ep, hL, hd, _⟩ := ns
  have ss : SeqStay ρ h h' := fun b o p _ d => ⟨o.slots, (k.2 b (fun q => by
    subst q; rw [hL] at p; (first | exact no p | exact no1 p | exact no2 p | exact noE p | exact noE1 p | obtain rfl := Option.some.inj p | obtain rfl := Except.ok.inj p | obtain rfl := p | cases p); obtain ⟨_, _, d⟩ := d; rw [hd] at d; (first | exact no d | exact no1 d | exact no2 d | exact noE d | exact noE1 d | obtain rfl := Option.some.inj d | obtain rfl := Except.ok.inj d | obtain rfl := d | cases d))).trans p⟩
  refine ⟨⟨fun b o p => (k.2 b fun q => ?_).trans (I.ci.base b o p), ?_, I.ci.apart, I.ci.hr.stay (fun a ma ob g => (k.2 a fun q => I.off (q ▸ ma)).trans g) ss⟩, ⟨_, hn, fun j y u hj hu => ?_⟩, by simp [St.put, I.len], I.new, I.out, I.off⟩
  · rw [q, I.new] at p; (first | exact no p | exact no1 p | exact no2 p | exact noE p | exact noE1 p | obtain rfl := Option.some.inj p | obtain rfl := Except.ok.inj p | obtain rfl := p | cases p)
  · have fr := I.ci.frames
    have ap := I.out
    generalize f.outer = l at fr ap
    induction l with
    | nil => trivial
    | cons env r ih =>
      obtain ⟨q1, ⟨L, o, q2, q3, q4, q5⟩, q6⟩ := fr
      simp only [frs, List.filterMap_cons, q2, List.mem_cons, not_or] at ap
      exact ⟨q1, ⟨L, o, q2, q3, (k.2 L fun q => ap.1 q.symm).trans q4, q5⟩, ih q6 ap.2⟩
  · by_cases hji : j = i
    · subst hji
      rw [e] at hj; (first | exact no hj | exact no1 hj | exact no2 hj | exact noE hj | exact noE1 hj | obtain rfl := Option.some.inj hj | obtain rfl := Except.ok.inj hj | obtain rfl := hj | cases hj)
      have hl : j < t.loc.length := by rw [I.len]; exact (List.getElem?_eq_some_iff.mp e).1
      simp only [St.put, List.getElem?_set_self hl, Option.some.injEq] at hu
      subst hu
      exact ⟨c, if_pos rfl, r.mono ss (.refl _ _)⟩
    · simp only [St.put, List.getElem?_set_ne (Ne.symm hji)] at hu
      obtain ⟨cu, eu, ru⟩ := hm j y u hj hu
      refine ⟨cu, ?_, ru.mono ss (.refl _ _)⟩
      rw [if_neg (fun q => hji ?_)]
      · exact eu
      · subst q
        exact nodup_idx K.nd hj e
theorem OR.monoF {ρ ρ' : List Addr} {h h' : Heap} {a : Addr} {o : O} (x : OR prog w ρ h a o) (e : ∀ ob, h.get? a = some ob → h'.get? a = some ob) (k : SeqStay ρ h h') (g : Fits h ρ ρ') : OR prog w ρ' h' a o := by
  cases o with
  | list vs => obtain ⟨c, n, p, l, r⟩ := x; exact ⟨c, n, e _ p, l, r.monoF k g⟩
  | dict kvs =>
    obtain ⟨c, ⟨ob, es, ep, p, q⟩, l, r⟩ := x
    exact ⟨c, ⟨ob, es, ep, e _ p, q⟩, l, r.monoF k g⟩
/-- an object that stands already, no sequence, is taken into the small heap -/
theorem FI.adopt {f : Fm} {ρ : List Addr} {t : St} {h h' : Heap} {a : Addr} {o' : O} (I : FI prog w B f ρ t h) (k : Heap.SameBut a h h') (ha : ∃ ob, h.get? a = some ob ∧ ∀ vs n, ob.data ≠ .seq vs n) (nρ : a ∉ ρ) (nB : B.get? a = none)
    (nL : a ≠ f.L) (nΦ : a ∉ frs f.outer) (ho : OR prog w (ρ ++ [a]) h' a o') : FI prog w B f (ρ ++ [a]) ⟨t.loc, t.heap ++ [o']⟩ h' := by
  obtain ⟨ob, hob, hns⟩ := ha
  have ss : SeqStay ρ h h' := fun b o p _ d => ⟨o.slots, (k.2 b (fun q => by
    subst q; rw [hob] at p; (first | exact no p | exact no1 p | exact no2 p | exact noE p | exact noE1 p | obtain rfl := Option.some.inj p | obtain rfl := Except.ok.inj p | obtain rfl := p | cases p); obtain ⟨vs, n, d⟩ := d; exact hns vs n d)).trans p⟩
  have gr : Fits h ρ (ρ ++ [a]) := ⟨fun n b e => by rw [List.getElem?_append_left (List.getElem?_eq_some_iff.mp e).1]; exact e, fun b o p d nb m => by
    rcases List.mem_append.mp m with m | m
    · exact nb m
    · rw [List.mem_singleton.mp m, hob] at p; (first | exact no p | exact no1 p | exact no2 p | exact noE p | exact noE1 p | obtain rfl := Option.some.inj p | obtain rfl := Except.ok.inj p | obtain rfl := p | cases p); obtain ⟨vs, n, d⟩ := d; exact hns vs n d⟩
  obtain ⟨m, ns, l⟩ := I.ns
  have H := I.ci.hr
  refine ⟨⟨fun b o p => (k.2 b fun q => ?_).trans (I.ci.base b o p), ?_, fun b hb hm => ?_, ?_⟩, ⟨m, ns.sameBut k (Ne.symm nL), fun i n v p q => let ⟨c, e, r⟩ := l i n v p q; ⟨c, e, r.monoF ss gr⟩⟩, I.len, I.new, I.out, fun hm => ?_⟩
  · rw [q, nB] at p; (first | exact no p | exact no1 p | exact no2 p | exact noE p | exact noE1 p | obtain rfl := Option.some.inj p | obtain rfl := Except.ok.inj p | obtain rfl := p | cases p)
  · have fr := I.ci.frames
    clear I
    generalize f.outer = l at fr nΦ
    induction l with
    | nil => trivial
    | cons env r ih =>
      obtain ⟨q1, ⟨L, o, q2, q3, q4, q5⟩, q6⟩ := fr
      simp only [frs, List.filterMap_cons, q2, List.mem_cons, not_or] at nΦ
      exact ⟨q1, ⟨L, o, q2, q3, (k.2 L fun q => nΦ.1 q.symm).trans q4, q5⟩, ih q6 nΦ.2⟩
  · rcases List.mem_append.mp hm with hm | hm
    · exact I.ci.apart b hb hm
    · exact nΦ (List.mem_singleton.mp hm ▸ hb)
  · refine ⟨by simp [H.len], ?_, fun b m => ?_, fun i o b p q => ?_⟩
    · exact List.nodup_append.mpr ⟨H.nd, by simp, fun x hx y hy e => by rw [List.mem_singleton.mp hy] at e; exact nρ (e ▸ hx)⟩
    · rcases List.mem_append.mp m with m | m
      · exact H.new b m
      · rw [List.mem_singleton.mp m]; exact nB
    · by_cases hi : i < t.heap.length
      · rw [List.getElem?_append_left hi] at p
        rw [List.getElem?_append_left (H.len ▸ hi)] at q
        exact (H.obj i o b p q).monoF (fun ob g => (k.2 b fun q' => nρ (q' ▸ List.mem_of_getElem? q)).trans g) ss gr
      · have hi' : i = t.heap.length := by
          have := (List.getElem?_eq_some_iff.mp p).1
          simp at this; (first | lia | omega)
        subst hi'
        rw [← H.len] at q
        simp at p q
        subst p q
        exact ho
  · rcases List.mem_append.mp hm with hm | hm
    · exact I.off hm
    · exact nL (List.mem_singleton.mp hm).symm
end
end Nt
end

section
open PySem PySem.W PyProof.Rows PySem.Calls PySem.SeqAt
set_option genSizeOf false
set_option genInjectivity false
set_option maxRecDepth 100000
set_option autoImplicit false
namespace Nt
section
variable {prog : Program} {w : World} {B : Heap} {f : Fm} {ρ : List Addr} {t : St} {s : Shared} {EE : Value → Shared → Prop}

theorem pv_tok {v : V} {c : Value} {tk : Nat} (I : FI prog w B f ρ t s.heap) (r : VR ρ s.heap v c) : PV prog w B f ρ (.ok v) t s c { s with toks := tk } :=
  ⟨v, ρ, rfl, r, I, .refl _ _ _, .refl _ _, rfl, rfl⟩
theorem pv_keep {v : V} {c : Value} {tk : Nat} {h' : Heap} (I : FI prog w B f ρ t s.heap) (k : ∀ b o, s.heap.get? b = some o → h'.get? b = some o) (r : VR ρ h' v c) : PV prog w B f ρ (.ok v) t s c { s with heap := h', toks := tk } :=
  ⟨v, ρ, rfl, r, I.keeps k, .of_keeps k, .refl _ _, rfl, rfl⟩

theorem st_append (a b : List Nat) : st a ++ st b = st (a ++ b) := by
  show Str.append _ _ = _
  simp [Str.append]
theorem st_beq (a b : List Nat) : (st a == st b) = (a == b) := by
  rw [Bool.eq_iff_iff]; simp
theorem st_length (a : List Nat) : (st a).length = a.length := by simp [Str.length]

noncomputable def opOf : Op2 → Operator
  | .add => .Add
  | .sub => .Sub
  | .mod => .Mod
  | .fdiv => .FloorDiv

theorem opV_e {P : Op2 → V → V → V → Prop} (h1 : ∀ a b, P .add (.int a) (.int b) (.int (a + b))) (h2 : ∀ a b, a.length + b.length ≤ lim → P .add (.str a) (.str b) (.str (a ++ b))) (h3 : ∀ a b, a.length + b.length ≤ lim → P .add (.lst a) (.lst b) (.lst (a ++ b)))
    (h4 : ∀ a b, P .sub (.int a) (.int b) (.int (a - b))) (h5 : ∀ a b, ¬ b = 0 → P .mod (.int a) (.int b) (.int (Int.fmod a b))) (h6 : ∀ a b, 0 < b ∧ b < 1000000 → P .fdiv (.int a) (.int b) (.int (Int.fdiv a b))) {o : Op2} {x y v : V} (e : opV o x y = some v) : P o x y v := by
  (first | exact no o | exact no1 o | exact no2 o | exact noE o | exact noE1 o | obtain rfl := Option.some.inj o | obtain rfl := Except.ok.inj o | obtain rfl := o | cases o) <;> (first | exact no x | exact no1 x | exact no2 x | exact noE x | exact noE1 x | obtain rfl := Option.some.inj x | obtain rfl := Except.ok.inj x | obtain rfl := x | cases x) <;> first | exact no e | ((first | exact no y | exact no1 y | exact no2 y | exact noE y | exact noE1 y | obtain rfl := Option.some.inj y | obtain rfl := Except.ok.inj y | obtain rfl := y | cases y) <;> first | exact no e | skip)
  · exact Option.some.inj e ▸ h1 _ _
  · exact ifE e fun c e => Option.some.inj e ▸ h2 _ _ c
  · exact ifE e fun c e => Option.some.inj e ▸ h3 _ _ c
  · exact Option.some.inj e ▸ h4 _ _
  · exact ifN e fun c e => Option.some.inj e ▸ h5 _ _ c
  · exact ifE e fun c e => Option.some.inj e ▸ h6 _ _ c
theorem p_op {o : Op2} {x y v : V} {cx cy : Value} (I : FI prog w B f ρ t s.heap) (e : opV o x y = some v) (rx : VR ρ s.heap x cx) (ry : VR ρ s.heap y cy) :
    wpAny (model prog w) f.A (binaryOp (opOf o) cx cy) (PV prog w B f ρ (.ok v) t s) EE s := by
  refine opV_e (P := fun o x y v => ∀ cx cy, VR ρ s.heap x cx → VR ρ s.heap y cy → wpAny (model prog w) f.A (binaryOp (opOf o) cx cy) (PV prog w B f ρ (.ok v) t s) EE s) ?_ ?_ ?_ ?_ ?_ ?_ e cx cy rx ry <;> clear e rx ry
  · refine fun a b cx cy rx ry => ?_; apply rx.elim; refine fun _ => ?_; apply ry.elim; refine fun _ => add_int (pv_tok I (.int _ _))
  · refine fun a b hl cx cy rx ry => ?_; apply rx.elim; refine fun _ _ => ?_; apply ry.elim; refine fun _ _ => add_str (fun t' tk => ?_) (by rw [st_length, st_length]; exact hl)
    rw [st_append]
    exact pv_tok I (.str _ _ (by simpa using hl))
  · refine fun x y hl cx cy rx ry => ?_; apply rx.elim; refine fun a cvs hx nx lx vx => ?_; apply ry.elim; refine fun b cvs' hy ny ly vy => ?_
    obtain ⟨⟨cls, dd, data, sl⟩, ho, hc, n, hd⟩ := id hx
    obtain ⟨⟨cls2, dd2, data2, sl2⟩, ho2, hc2, n2, hd2⟩ := id hy
    simp only at hc hd hc2 hd2
    subst hc hd hc2 hd2
    have z : cvs.length + cvs'.length ≤ sizeLine := by rw [vx.length, vy.length]; exact hl
    refine concat_meets ⟨_, ho, rfl⟩ ⟨_, ho2, rfl⟩ noFill_list_add seq_list_add PySem.F.slot_list_add PySem.F.entry_list_add (PySem.F.args_list_add_2 _ _) (list_addW a b cvs.toArray cvs'.toArray n n2 dd dd2 sl sl2 (by simpa using z)) ⟨ho, ho2, ?_⟩
    refine pv_keep I (fun _ _ e => Heap.get?_push_of_some _ e) (.lst (cvs := cvs ++ cvs') ⟨_, Heap.get?_push_size _ rfl, rfl, 0, by simp⟩ I.ci.hr.notNew (by simpa using hl) ?_)
    have k : SeqStay ρ s.heap (s.heap.push { cls := Value.type "list", dict := none, data := Data.seq (cvs.toArray ++ cvs'.toArray) 0 }) := fun b o e _ _ => ⟨o.slots, Heap.get?_push_of_some _ e⟩
    exact (vx.mono k (.refl _ _)).append (vy.mono k (.refl _ _))
  · refine fun a b cx cy rx ry => ?_; apply rx.elim; refine fun _ => ?_; apply ry.elim; refine fun _ => sub_int (pv_tok I (.int _ _))
  · refine fun a b hb cx cy rx ry => ?_; apply rx.elim; refine fun _ => ?_; apply ry.elim; refine fun _ => mod_int' hb (pv_tok I (.int _ _))
  · refine fun a b hb cx cy rx ry => ?_; apply rx.elim; refine fun _ => ?_; apply ry.elim; refine fun _ => floordiv_int (by (first | lia | omega)) (pv_tok I (.int _ _)) (.inl (PyProof.noPylong_small (by (first | lia | omega))))

end
end Nt
end

section
open PySem PySem.W PyProof.Rows PySem.Calls PySem.SeqAt
set_option genSizeOf false
set_option genInjectivity false
set_option maxRecDepth 100000
set_option autoImplicit false
namespace Nt
open Builtin.Str StrLaws

/-- where old stands in s from place i on, none before free -/
noncomputable def cutsF (s old : List Nat) : Nat → Nat → Nat → List Nat
  | 0, _, _ => []
  | m + 1, i, free => if (free ≤ i ∧ i + old.length ≤ s.length) ∧ old.isPrefixOf (s.drop i) = true then i :: cutsF s old m (i + 1) (i + old.length) else cutsF s old m (i + 1) free

theorem prefix_take (old l : List Nat) : old.isPrefixOf l = (l.take old.length == old) := by
  rw [Bool.eq_iff_iff, List.isPrefixOf_iff_prefix, beq_iff_eq]
  exact List.prefix_iff_eq_take.trans ⟨Eq.symm, Eq.symm⟩

theorem occ_cuts (s old : List Nat) (lim' : Nat) : ∀ (m i : Nat) (found : Array Nat) (free : Nat), found.size + m ≤ lim' →
    (forIn (List.range' i m) (found, free) (occBody (st s) (st old) s.length lim')).run.fst.toList = found.toList ++ cutsF s old m i free
  | 0, i, found, free, _ => by simp [cutsF]
  | m + 1, i, found, free, h => by
    rw [List.range'_succ, List.forIn_cons]
    have e : subAt (st s) (st old) i = old.isPrefixOf (s.drop i) := by
      rw [subAt_eq, prefix_take, st_length]
    have hl : found.size < lim' := by (first | lia | omega)
    unfold cutsF
    by_cases c : (free ≤ i ∧ i + old.length ≤ s.length) ∧ old.isPrefixOf (s.drop i) = true
    · rw [if_pos c]
      have := occ_cuts s old lim' m (i + 1) (found.push i) (i + old.length) (by rw [Array.size_push]; (first | lia | omega))
      have b : occBody (st s) (st old) s.length lim' i (found, free) = pure (ForInStep.yield (found.push i, i + old.length)) := by
        unfold occBody
        rw [if_pos, st_length]
        rw [e, st_length]
        exact ⟨⟨⟨hl, c.1.1⟩, c.1.2⟩, c.2⟩
      rw [b]
      show (forIn (List.range' (i + 1) m) (found.push i, i + old.length) (occBody (st s) (st old) s.length lim')).run.fst.toList = _
      rw [this]
      simp
    · rw [if_neg c]
      have := occ_cuts s old lim' m (i + 1) found free (by (first | lia | omega))
      have b : occBody (st s) (st old) s.length lim' i (found, free) = pure (ForInStep.yield (found, free)) := by
        unfold occBody
        rw [if_neg]
        rw [e, st_length]
        exact fun q => c ⟨⟨q.1.1.2, q.1.2⟩, q.2⟩
      rw [b]
      exact this

theorem replK_nil (old new : List Nat) (k : Nat) : replK old new k [] = [] := by (first | exact no k | exact no1 k | exact no2 k | exact noE k | exact noE1 k | obtain rfl := Option.some.inj k | obtain rfl := Except.ok.inj k | obtain rfl := k | cases k) <;> rfl

/-- the parts between, glued by new -/
noncomputable def glueL (s new : List Nat) (w : Nat) : Nat → List Nat → List Nat
  | a, [] => s.drop a
  | a, c :: cs => (s.drop a).take (c - a) ++ new ++ glueL s new w (c + w) cs

theorem glue_repl (s old new : List Nat) (ho : old ≠ []) : ∀ (m i free : Nat), i + m = s.length + 1 → free ≤ s.length →
    glueL s new old.length free (cutsF s old m i free) = if free ≤ i then (s.drop free).take (i - free) ++ replK old new 0 (s.drop i) else replK old new (free - i) (s.drop i)
  | 0, i, free, h, hf => by
    have hi : i = s.length + 1 := by (first | lia | omega)
    subst hi
    rw [if_pos (by (first | lia | omega))]
    have e1 : s.drop (s.length + 1) = [] := List.drop_of_length_le (by (first | lia | omega))
    rw [e1]
    simp only [cutsF, glueL, replK, List.append_nil]
    rw [List.take_of_length_le]
    simp; (first | lia | omega)
  | m + 1, i, free, h, hf => by
    have w1 : 1 ≤ old.length := by
      cases old with
      | nil => exact absurd rfl ho
      | cons a b => simp
    unfold cutsF
    by_cases c : (free ≤ i ∧ i + old.length ≤ s.length) ∧ old.isPrefixOf (s.drop i) = true
    · rw [if_pos c, if_pos c.1.1]
      simp only [glueL]
      rw [glue_repl s old new ho m (i + 1) (i + old.length) (by (first | lia | omega)) c.1.2, List.append_assoc]
      congr 1
      have hi : i < s.length := by (first | lia | omega)
      have hd : s.drop i = s[i] :: s.drop (i + 1) := List.drop_eq_getElem_cons hi
      rw [hd]
      simp only [replK]
      rw [← hd, if_pos c.2]
      congr 1
      by_cases hw : old.length = 1
      · rw [hw, if_pos (by (first | lia | omega))]
        simp
      · rw [if_neg (by (first | lia | omega))]
        congr 1
        (first | lia | omega)
    · rw [if_neg c, glue_repl s old new ho m (i + 1) free (by (first | lia | omega)) hf]
      by_cases hfi : free ≤ i
      · rw [if_pos (by (first | lia | omega)), if_pos hfi]
        by_cases hi : i < s.length
        · have hd : s.drop i = s[i] :: s.drop (i + 1) := List.drop_eq_getElem_cons hi
          have np : ¬ old.isPrefixOf (s.drop i) = true := fun q => c ⟨⟨hfi, by
            rw [List.isPrefixOf_iff_prefix] at q
            have := q.length_le
            simp at this; (first | lia | omega)⟩, q⟩
          rw [hd]
          simp only [replK]
          rw [← hd, if_neg np]
          have e2 : (s.drop free).take (i + 1 - free) = (s.drop free).take (i - free) ++ [s[i]] := by
            have : i + 1 - free = (i - free) + 1 := by (first | lia | omega)
            rw [this, List.take_add_one, List.getElem?_drop]
            have : free + (i - free) = i := by (first | lia | omega)
            rw [this, List.getElem?_eq_getElem hi]
            rfl
          rw [e2, List.append_assoc]
          rfl
        · have hi' : i = s.length := by (first | lia | omega)
          subst hi'
          have e1 : s.drop (s.length + 1) = [] := List.drop_of_length_le (by (first | lia | omega))
          rw [e1, List.drop_length]
          simp only [replK, List.append_nil]
          rw [List.take_of_length_le, List.take_of_length_le]
          · simp
          · simp; (first | lia | omega)
      · have hi : i < s.length := by (first | lia | omega)
        have hd : s.drop i = s[i] :: s.drop (i + 1) := List.drop_eq_getElem_cons hi
        rw [if_neg hfi, hd]
        obtain ⟨k, hk⟩ : ∃ k, free - i = k + 1 := ⟨free - i - 1, by (first | lia | omega)⟩
        rw [hk]
        simp only [replK]
        by_cases hq : free ≤ i + 1
        · rw [if_pos hq]
          have : k = 0 := by (first | lia | omega)
          subst this
          have : i + 1 - free = 0 := by (first | lia | omega)
          simp [this]
        · rw [if_neg hq]
          congr 1
          (first | lia | omega)

theorem glued_parts (s new : List Nat) (w : Nat) : ∀ (cs : List Nat) (a : Nat), (∀ c ∈ cs, c ≤ s.length) → (glued (st new) (((a :: cs.map (· + w)).zip (cs ++ [s.length])).map fun p => strSub (st s) p.1 p.2)).cps.toList = glueL s new w a cs
  | [], a, _ => by
    rw [glued_eq_join]
    simp only [List.map_nil, List.nil_append, List.zip_cons_cons, List.zip_nil_right, List.map_cons, Str.join, glueL]
    rw [strSub_toList]
    rw [List.take_of_length_le]
    simp
  | c :: cs, a, h => by
    have ih := glued_parts s new w cs (c + w) fun d hd => h d (.tail _ hd)
    rw [glued_eq_join] at ih ⊢
    simp only [List.map_cons, List.cons_append, List.zip_cons_cons, glueL] at ih ⊢
    generalize q : List.map (fun p => strSub (st s) p.1 p.2) (((c + w) :: cs.map (· + w)).zip (cs ++ [s.length])) = parts at ih ⊢
    cases parts with
    | nil =>
      exfalso
      have := congrArg List.length q
      simp at this
    | cons p ps =>
      simp only [Str.join, Str.cps_append, Array.toList_append]
      rw [ih, strSub_toList]

theorem cuts_le (s old : List Nat) : ∀ (m i free : Nat), ∀ c ∈ cutsF s old m i free, c ≤ s.length
  | 0, _, _, c, h => by simp [cutsF] at h
  | m + 1, i, free, c, h => by
    unfold cutsF at h
    split at h
    · rename_i q
      rcases List.mem_cons.mp h with h | h
      · (first | lia | omega)
      · exact cuts_le s old m _ _ c h
    · exact cuts_le s old m _ _ c h

theorem replace_eq (s old new : List Nat) (ho : old ≠ []) : Txt.replace (st s) (st old) (st new) = st (repl s old new) := by
  have hocc : occurrences (st s) (st old) 0 (st s).length ((st s).length + 1) = cutsF s old (s.length + 1) 0 0 := by
    rw [occ_eq, st_length]
    have := occ_cuts s old (s.length + 1) (s.length + 1) 0 #[] 0 (by simp)
    simpa using this
  have hg := glue_repl s old new ho (s.length + 1) 0 0 (by (first | lia | omega)) (by (first | lia | omega))
  simp only [Nat.le_refl, if_true, Nat.sub_zero, List.take_zero, List.nil_append, List.drop_zero] at hg
  have key : (glued (st new) (partsBetween (st s) (cutsF s old (s.length + 1) 0 0) (st old).length)).cps.toList = repl s old new := by
    have := glued_parts s new old.length (cutsF s old (s.length + 1) 0 0) 0 (cuts_le s old _ _ _)
    unfold partsBetween
    rw [st_length, st_length]
    rw [hg] at this
    simpa [repl] using this
  unfold Txt.replace
  rw [hocc]
  have no : ((st old).length == 0) = false := by
    rw [st_length]
    cases old with
    | nil => exact absurd rfl ho
    | cons a b => simp
  rw [no]
  simp only [Bool.false_and, Bool.or_false]
  split
  · rename_i h
    have e : cutsF s old (s.length + 1) 0 0 = [] := by simpa using h
    rw [e] at hg
    simp only [glueL, List.drop_zero] at hg
    show st s = st (repl s old new)
    unfold repl
    rw [← hg]
  · refine Str.ext' ?_
    rw [← key]
end Nt
end

section
open PySem PySem.W PyProof.Rows PySem.Calls PySem.SeqAt
open AutoSeq1 (wpAny_loadPart')
set_option genSizeOf false
set_option genInjectivity false
set_option maxRecDepth 100000
set_option autoImplicit false
namespace Nt
section
variable {prog : Program} {w : World} {B : Heap} {f : Fm} {ρ : List Addr} {t : St} {s : Shared} {EE : Value → Shared → Prop} {A : Around}

/-! the same data -/
/-- equal to the items' own comparison, in this world -/
noncomputable def EqW (prog : Program) (w : World) (A : Around) (s : Shared) (y x : Value) : Prop :=
  ∀ (E : Value → Shared → Prop) (Q : Bool → Shared → Prop), Q true s → wpAny (model prog w) A (eqBool y x) Q E s
noncomputable def RcW (prog : Program) (w : World) (A : Around) (s : Shared) (y x : Value) : Prop :=
  ∀ (E : Value → Shared → Prop) (Q : Value → Shared → Prop), Q (.bool true) s → wpAny (model prog w) A (richCompare .Eq y x) Q E s

/-- what a tree of a built-in's end wants, in this world -/
noncomputable abbrev MeetW (prog : Program) (w : World) (A : Around) (R : Result → Shared → Prop) (tr : Sem PySem.Fin) (s : Shared) : Prop :=
  wpAny (model prog w) A.in1 tr (fun fin s' => match fin with | .done f => R (.ok f) s' | .again c' => c'.quiet = true ∧ codeAny (model prog w) A c' R s') (fun e s' => R (.error e) s') s
theorem call_meetW {T : String} {name : Str} {id : String} {b : Builtin} {self : Value} {rest : List Value} {Q : Value → Shared → Prop} {E : Value → Shared → Prop} (slot : Slot T name id) (hT : s.TypeIs self T)
    (entry : entryFor table id = some b) (args : argsOk id ⟨self :: rest, []⟩) (g : MeetW prog w A (wants Q E) (b ⟨self :: rest, []⟩) s) : wpAny (model prog w) A (call (.builtin id) (self :: rest)) Q E s :=
  wpAny_call (codeAny_call_builtin slot.plain entry (slot.check _ _ _ _ _ _ _ _ hT args g))

theorem eqLoopW {l b : Addr} {items items2 : Array Value} {n n2 : Nat} {dd dd2 : Option Addr} {sl sl2 : Array (Option Value)} {c : Int} {r : Bool} (hc : c = 2 ∧ r = true ∨ c = 3 ∧ r = false) (hsz : items.size = items2.size) (k : Nat) :
    ∀ (i : Nat), items.size - i = k → ∀ (A : Around) (R : Result → Shared → Prop) (s : Shared),
      s.heap.get? l = some { cls := .type "list", dict := dd, data := .seq items n, slots := sl } → s.heap.get? b = some { cls := .type "list", dict := dd2, data := .seq items2 n2, slots := sl2 } →
      (∀ j (h1 : j < items.size) (h2 : j < items2.size), EqW prog w A.in1 s items[j] items2[j]) → R (.ok (.ret (.bool r))) s →
      MeetW prog w A R (Builtin.«list.__eq__.loop» ⟨[.ref l, .ref b, rawInt i, rawInt c], []⟩) s := by
  induction k with
  | zero =>
    intro i hk A R s hl hb he h
    obtain ⟨hp, g, d, tk, os⟩ := s
    have hi1 : items[((i : Nat) : Int).toNat]? = none := by simp; (first | lia | omega)
    have hi2 : items2[((i : Nat) : Int).toNat]? = none := by simp; (first | lia | omega)
    rcases hc with ⟨rfl, rfl⟩ | ⟨rfl, rfl⟩
    · unfold MeetW
      wp_walk using wpAny_loadPart' hl, wpAny_loadPart' hb
      rw [hi1, hi2]
      wp_walk using wpAny_loadPart' hl, wpAny_loadPart' hb
      show R (.ok (.ret (.bool (items.size == items2.size)))) _
      rw [hsz]
      simpa using h
    · unfold MeetW
      wp_walk using wpAny_loadPart' hl, wpAny_loadPart' hb
      rw [hi1, hi2]
      wp_walk using wpAny_loadPart' hl, wpAny_loadPart' hb
      show R (.ok (.ret (.bool (items.size != items2.size)))) _
      rw [hsz]
      simpa using h
  | succ k ih =>
    intro i hk A R s hl hb he h
    have more := fun A R s => ih (i + 1) (by (first | lia | omega)) A R s
    obtain ⟨hp, g, d, tk, os⟩ := s
    have hlt : i < items.size := by (first | lia | omega)
    have hlt2 : i < items2.size := by (first | lia | omega)
    have hi1 : items[((i : Nat) : Int).toNat]? = some items[i] := by simp [hlt]
    have hi2 : items2[((i : Nat) : Int).toNat]? = some items2[i] := by simp [hlt2]
    have hcc : ((i : Int) + 1) = ((i + 1 : Nat) : Int) := by push_cast; rfl
    rcases hc with ⟨rfl, rfl⟩ | ⟨rfl, rfl⟩
    all_goals
      unfold MeetW
      wp_walk using wpAny_loadPart' hl, wpAny_loadPart' hb
      rw [hi1, hi2]
      refine wpAny_bind (he i hlt hlt2 _ _ ?_)
      wp_walk
      rw [hcc]
      exact ⟨plainId_quiet MeetsSeq3.plain_eq_loop _, codeAny_builtin MeetsSeq3.entry_eq_loop (by
        rw [Around.under_plainId MeetsSeq3.plain_eq_loop _]
        exact more A R _ hl hb he h)⟩

theorem RcW.lists {l b : Addr} {items items2 : Array Value} (hl : s.heap.IsList l items) (hb : s.heap.IsList b items2) (hsz : items.size = items2.size) (hu : A.units < cLine)
    (he : ∀ j (h1 : j < items.size) (h2 : j < items2.size), EqW prog w A.in1 s items[j] items2[j]) : RcW prog w A s (.ref l) (.ref b) := fun E Q h => by
  obtain ⟨⟨cls, dd, data, sl⟩, ho, hc, n, hd⟩ := id hl
  obtain ⟨⟨cls2, dd2, data2, sl2⟩, ho2, hc2, n2, hd2⟩ := id hb
  simp only at hc hd hc2 hd2
  subst hc hd hc2 hd2
  refine wpAny_richCompare_same_room (op := .Eq) hl.typeIs hb.typeIs PySem.F.slot_list_eq (call_meetW PySem.F.slot_list_eq hl.typeIs PySem.F.entry_list_eq (PySem.F.args_list_eq_2 _ _) ?_) hu
  have more := fun A R s => eqLoopW (prog := prog) (w := w) (l := l) (b := b) (items := items) (items2 := items2) (n := n) (n2 := n2) (dd := dd) (dd2 := dd2) (sl := sl) (sl2 := sl2) (c := 2) (r := true) (.inl ⟨rfl, rfl⟩) hsz _ 0 rfl A R s
  obtain ⟨hp, g, d, tk, os⟩ := s
  have f3 := AutoSeq1.sub_list_list
  have hne : ¬ (items.size != items2.size) = true := by simp [hsz]
  unfold MeetW
  wp_walk using wpAny_loadPart' ho, wpAny_loadPart' ho2
  exact ⟨plainId_quiet MeetsSeq3.plain_eq_loop _, codeAny_builtin MeetsSeq3.entry_eq_loop (by
    rw [Around.under_plainId MeetsSeq3.plain_eq_loop _]
    exact more A _ _ ho ho2 he ⟨(fun x => nomatch x), h⟩)⟩
theorem RcW.listsNe {l b : Addr} {items items2 : Array Value} (hl : s.heap.IsList l items) (hb : s.heap.IsList b items2) (hsz : items.size = items2.size) (hu : A.units < cLine)
    (he : ∀ j (h1 : j < items.size) (h2 : j < items2.size), EqW prog w A.in1 s items[j] items2[j]) (E : Value → Shared → Prop) (Q : Value → Shared → Prop) (h : Q (.bool false) s) : wpAny (model prog w) A (richCompare .NotEq (.ref l) (.ref b)) Q E s := by
  obtain ⟨⟨cls, dd, data, sl⟩, ho, hc, n, hd⟩ := id hl
  obtain ⟨⟨cls2, dd2, data2, sl2⟩, ho2, hc2, n2, hd2⟩ := id hb
  simp only at hc hd hc2 hd2
  subst hc hd hc2 hd2
  refine wpAny_richCompare_same_room (op := .NotEq) hl.typeIs hb.typeIs PySem.F.slot_list_ne (call_meetW PySem.F.slot_list_ne hl.typeIs PySem.F.entry_list_ne (PySem.F.args_list_ne_2 _ _) ?_) hu
  have more := fun A R s => eqLoopW (prog := prog) (w := w) (l := l) (b := b) (items := items) (items2 := items2) (n := n) (n2 := n2) (dd := dd) (dd2 := dd2) (sl := sl) (sl2 := sl2) (c := 3) (r := false) (.inr ⟨rfl, rfl⟩) hsz _ 0 rfl A R s
  obtain ⟨hp, g, d, tk, os⟩ := s
  have f3 := AutoSeq1.sub_list_list
  have hne : ¬ (items.size != items2.size) = true := by simp [hsz]
  unfold MeetW
  wp_walk using wpAny_loadPart' ho, wpAny_loadPart' ho2
  exact ⟨plainId_quiet MeetsSeq3.plain_eq_loop _, codeAny_builtin MeetsSeq3.entry_eq_loop (by
    rw [Around.under_plainId MeetsSeq3.plain_eq_loop _]
    exact more A _ _ ho ho2 he ⟨(fun x => nomatch x), h⟩)⟩

theorem RcW.tuples {l b : Addr} {items items2 : Array Value} (hl : IsTup s.heap l items) (hb : IsTup s.heap b items2) (hsz : items.size = items2.size) (hu : A.units < cLine)
    (he : ∀ j (h1 : j < items.size) (h2 : j < items2.size), EqW prog w A.in1 s items[j] items2[j]) : RcW prog w A s (.ref l) (.ref b) := fun E Q h => by
  obtain ⟨⟨cls, dd, data, sl⟩, ho, hc, n, hd⟩ := id hl
  obtain ⟨⟨cls2, dd2, data2, sl2⟩, ho2, hc2, n2, hd2⟩ := id hb
  simp only at hc hd hc2 hd2
  subst hc hd hc2 hd2
  refine wpAny_richCompare_same_room (op := .Eq) hl.typeIs hb.typeIs PySem.F.slot_tuple_eq (wpAny_call_entry PySem.F.slot_tuple_eq hl.typeIs PySem.F.entry_tuple_eq ?_ (PySem.F.args_tuple_eq_2 _ _)) hu
  obtain ⟨hp, g, d, tk, os⟩ := s
  have f2 := AutoSeq1.sub_tuple_tuple
  have hZ : (items.toList.zip items2.toList).length = items.size := by simp [hsz]
  wp_walk using wpAny_loadPart' ho, wpAny_loadPart' ho2, wpAny_forIn_list _ (fun rest b s' => b.1 = none ∧ s' = ⟨hp, g, d, tk, os⟩ ∧ ∃ i, rest = (items.toList.zip items2.toList).drop i) _
  case turn =>
    rintro ⟨y, x⟩ rest b s' ⟨hb', rfl, i, hz⟩
    have hlt : i < (items.toList.zip items2.toList).length := by
      rcases Nat.lt_or_ge i (items.toList.zip items2.toList).length with h' | h'
      · exact h'
      · rw [List.drop_of_length_le h'] at hz; (first | exact no hz | exact no1 hz | exact no2 hz | exact noE hz | exact noE1 hz | obtain rfl := Option.some.inj hz | obtain rfl := Except.ok.inj hz | obtain rfl := hz | cases hz)
    have h1 : i < items.size := hZ ▸ hlt
    have h2 : i < items2.size := hsz ▸ h1
    rw [List.drop_eq_getElem_cons hlt] at hz
    injection hz with hyx hrest
    have hy : y = items[i] := by have := congrArg Prod.fst hyx; simpa using this
    have hx : x = items2[i] := by have := congrArg Prod.snd hyx; simpa using this
    subst hy hx
    refine wpAny_bind (he i h1 h2 _ _ ?_)
    wp_walk
    exact ⟨rfl, rfl, i + 1, hrest⟩
  case fin =>
    rintro ⟨b1, b2⟩ s' ⟨hb', rfl, i, hz⟩
    simp only at hb'
    subst hb'
    wp_walk
    refine ⟨_, rfl, (fun x => nomatch x), ?_⟩
    show Q (.bool (items.size == items2.size)) _
    rw [hsz]
    simpa using h
  exact ⟨rfl, rfl, 0, by simp⟩

theorem eqW_of_rc {x : V} {a b : Value} (ra : VR ρ s.heap x a) (h : RcW prog w A s a b) : EqW prog w A s a b := fun E Q hq => by
  unfold eqBool
  refine wpAny_holding ?_
  refine wpAny_ite_split (fun _ => wpAny_bind (wpAny_rule (wpAny_pure hq))) (fun _ => ?_)
  have fin := wpAny_bind (f := fun v => truthOfDropped v) (h E _ (show wpAny (model prog w) A (truthOfDropped (.bool true)) Q E s from wpAny_truthy_bool hq))
  clear h hq
  (first | exact no ra | exact no1 ra | exact no2 ra | exact noE ra | exact noE1 ra | obtain rfl := Option.some.inj ra | obtain rfl := Except.ok.inj ra | obtain rfl := ra | cases ra) <;> exact fin

theorem sameAll_e {g : V → V → Bool} {P : List V → List V → Prop} (h1 : P [] []) (h2 : ∀ a b as bs, g a b = true → sameAll g as bs = true → P as bs → P (a :: as) (b :: bs)) : ∀ {as bs : List V}, sameAll g as bs = true → P as bs := by
  intro as
  induction as with
  | nil => intro bs e; cases bs with
    | nil => exact h1
    | cons => exact no2 e
  | cons a as ih => intro bs e; cases bs with
    | nil => exact no2 e
    | cons b bs => obtain ⟨p, q⟩ := (Bool.and_eq_true _ _).mp e; exact h2 a b as bs p q (ih q)
theorem sameAll_get {g : V → V → Bool} {as bs : List V} (h : sameAll g as bs = true) : as.length = bs.length ∧ ∀ (i : Nat) (x y : V), as[i]? = some x → bs[i]? = some y → g x y = true := by
  refine sameAll_e (P := fun as bs => as.length = bs.length ∧ ∀ (i : Nat) (x y : V), as[i]? = some x → bs[i]? = some y → g x y = true) ⟨rfl, fun i x y e => no e⟩ (fun a b as bs p _ k => ⟨congrArg Nat.succ k.1, fun i x y e e' => ?_⟩) h
  cases i with
  | zero => exact Option.some.inj e ▸ Option.some.inj e' ▸ p
  | succ i => exact k.2 i x y e e'

theorem eqAt_of_rc {x : V} {a b : Value} (ra : VR ρ s.heap x a) (h : RcAt A s a b true) : EqAt A s a b true := fun prog w E Q hq => by
  unfold eqBool
  refine wpAny_holding ?_
  refine wpAny_ite_split (fun _ => wpAny_bind (wpAny_rule (wpAny_pure hq))) (fun _ => ?_)
  have fin := wpAny_bind (f := fun v => truthOfDropped v) (h prog w E _ (show wpAny (model prog w) A (truthOfDropped (.bool true)) Q E s from wpAny_truthy_bool hq))
  (first | exact no ra | exact no1 ra | exact no2 ra | exact noE ra | exact noE1 ra | obtain rfl := Option.some.inj ra | obtain rfl := Except.ok.inj ra | obtain rfl := ra | cases ra) <;> exact fin

theorem seq_of {T : Value → Value → Prop} {g : V → V → Bool} {as bs : List V} {ca cb : List Value} (h : sameAll g as bs = true) (ra : VRs ρ s.heap as ca) (rb : VRs ρ s.heap bs cb)
    (k : ∀ x y cx cy, g x y = true → VR ρ s.heap x cx → VR ρ s.heap y cy → T cx cy) :
    ca.toArray.size = cb.toArray.size ∧ ∀ j (h1 : j < ca.toArray.size) (h2 : j < cb.toArray.size), T ca.toArray[j] cb.toArray[j] := by
  obtain ⟨l, q⟩ := sameAll_get h
  refine ⟨by simp [ra.length, rb.length, l], fun j h1 h2 => ?_⟩
  have h1' : j < ca.length := by simpa using h1
  have h2' : j < cb.length := by simpa using h2
  obtain ⟨x, ex, rx⟩ := ra.sub j _ (List.getElem?_eq_getElem h1')
  obtain ⟨y, ey, ry⟩ := rb.sub j _ (List.getElem?_eq_getElem h2')
  simpa using k x y _ _ (q j x y ex ey) rx ry

theorem all_true {n : Nat} : (List.range n).all (fun _ => true) = true := List.all_eq_true.mpr fun _ _ => rfl
theorem hits_of {kb : List (Str × Value)} (hn : (kb.map (·.1)).Nodup) : ∀ (ka : List (Str × Value)) (n : Nat), (∀ i x y, ka[i]? = some x → kb[n + i]? = some y → x.1 = y.1 ∧ EqAt A s x.2 y.2 true) → n + ka.length = kb.length → KeqHits A s kb ka true
  | [], _, _, _ => .nil
  | (k, v) :: ka, n, h, hl => by
    have hlt : n < kb.length := by simp at hl; (first | lia | omega)
    obtain ⟨y, hy⟩ : ∃ y, kb[n]? = some y := ⟨kb[n], List.getElem?_eq_getElem hlt⟩
    obtain ⟨e1, e2⟩ := h 0 (k, v) y (by simp) (by simpa using hy)
    have hv : valueAt kb k = some y.2 := valueAt_of_get hn (by rw [hy]; simp at e1; rw [e1])
    have r := hits_of hn ka (n + 1) (fun i x y hx hy => h (i + 1) x y (by simpa using hx) (by rw [← hy]; congr 1; (first | lia | omega))) (by simp at hl ⊢; (first | lia | omega))
    exact KeqHits.hit hv e2 r

theorem beq_list {a b : List (List Nat)} (h : (a == b) = true) : a = b := by simpa using h

theorem sameF_e {h : List O} {n : Nat} {P : V → V → Prop} (h1 : P .none .none) (h2 : ∀ a b, (a == b) = true → P (.str a) (.str b)) (h3 : ∀ a b : Int, (a == b) = true → P (.int a) (.int b)) (h4 : ∀ as bs, sameAll (sameF h n) as bs = true → P (.tup as) (.tup bs))
    (h5 : ∀ i j as bs, h[i]? = some (.list as) → h[j]? = some (.list bs) → sameAll (sameF h n) as bs = true → P (.ref i) (.ref j)) {a b : V} (e : sameF h (n + 1) a b = true) : P a b := by
  (first | exact no a | exact no1 a | exact no2 a | exact noE a | exact noE1 a | obtain rfl := Option.some.inj a | obtain rfl := Except.ok.inj a | obtain rfl := a | cases a) <;> first | exact no2 e | ((first | exact no b | exact no1 b | exact no2 b | exact noE b | exact noE1 b | obtain rfl := Option.some.inj b | obtain rfl := Except.ok.inj b | obtain rfl := b | cases b) <;> first | exact no2 e | skip)
  · exact h1
  · exact h3 _ _ e
  · exact h2 _ _ e
  · exact h4 _ _ e
  · rename_i i j
    replace e : (match h[i]?, h[j]? with | some (.list as), some (.list bs) => sameAll (sameF h n) as bs | _, _ => false) = true := e
    have k := h5 i j
    generalize h[i]? = x, h[j]? = y at e k
    rcases x with _ | _ | _ <;> first | exact no2 e | (rcases y with _ | _ | _ <;> first | exact no2 e | skip)
    exact k _ _ rfl rfl e
theorem same_e {h : List O} {n : Nat} {P : V → V → Prop} (h1 : P .none .none) (h2 : ∀ a b, (a == b) = true → P (.str a) (.str b)) (h3 : ∀ a b : Int, (a == b) = true → P (.int a) (.int b)) (h4 : ∀ as bs, sameAll (same h n) as bs = true → P (.tup as) (.tup bs))
    (h5 : ∀ i j as bs, h[i]? = some (.list as) → h[j]? = some (.list bs) → sameAll (same h n) as bs = true → P (.ref i) (.ref j))
    (h6 : ∀ i j as bs, h[i]? = some (.dict as) → h[j]? = some (.dict bs) → (as.map (·.1) == bs.map (·.1)) = true → sameAll (sameF h n) (as.map (·.2)) (bs.map (·.2)) = true → P (.ref i) (.ref j)) {a b : V} (e : same h (n + 1) a b = true) : P a b := by
  (first | exact no a | exact no1 a | exact no2 a | exact noE a | exact noE1 a | obtain rfl := Option.some.inj a | obtain rfl := Except.ok.inj a | obtain rfl := a | cases a) <;> first | exact no2 e | ((first | exact no b | exact no1 b | exact no2 b | exact noE b | exact noE1 b | obtain rfl := Option.some.inj b | obtain rfl := Except.ok.inj b | obtain rfl := b | cases b) <;> first | exact no2 e | skip)
  · exact h1
  · exact h3 _ _ e
  · exact h2 _ _ e
  · exact h4 _ _ e
  · rename_i i j
    replace e : (match h[i]?, h[j]? with
      | some (.list as), some (.list bs) => sameAll (same h n) as bs
      | some (.dict as), some (.dict bs) => as.map (·.1) == bs.map (·.1) && sameAll (sameF h n) (as.map (·.2)) (bs.map (·.2))
      | _, _ => false) = true := e
    have k := h5 i j
    have k' := h6 i j
    generalize h[i]? = x, h[j]? = y at e k k'
    rcases x with _ | _ | _ <;> first | exact no2 e | (rcases y with _ | _ | _ <;> first | exact no2 e | skip)
    · exact k _ _ rfl rfl e
    · obtain ⟨p, q⟩ := (Bool.and_eq_true _ _).mp e
      exact k' _ _ rfl rfl p q

theorem rc_str {x y : List Nat} {tx ty : Tok} (e : (x == y) = true) : RcAt A s (.str (st x) tx) (.str (st y) ty) true := by
  have := RcAt.str_str (A := A) (s := s) (st x) tx (st y) ty
  rw [st_beq, e] at this; exact this
theorem rc_int {x y : Int} {tx ty : Tok} (e : (x == y) = true) : RcAt A s (.int x tx) (.int y ty) true := e ▸ RcAt.int_int (A := A) (s := s) x tx y ty

theorem sameF_rc {h : List O} (H : HR prog w B ρ h s.heap) : ∀ (n : Nat) (a b : V) (ca cb : Value) (A : Around), sameF h n a b = true → VR ρ s.heap a ca → VR ρ s.heap b cb → A.units + n < cLine → RcAt A s ca cb true := by
  intro n
  induction n with
  | zero => exact fun a b ca cb A e => no2 e
  | succ n ih =>
    intro a b ca cb A e ra rb hu
    have hu1 : A.units < cLine := by (first | lia | omega)
    replace ih : ∀ x y cx cy, sameF h n x y = true → VR ρ s.heap x cx → VR ρ s.heap y cy → EqAt A.in1 s cx cy true := fun x y cx cy e rx ry =>
      eqAt_of_rc rx (ih x y cx cy A.in1 e rx ry (by show A.units + 1 + n < _; (first | lia | omega)))
    refine sameF_e (P := fun a b => ∀ ca cb, VR ρ s.heap a ca → VR ρ s.heap b cb → RcAt A s ca cb true) ?_ ?_ ?_ ?_ ?_ e ca cb ra rb <;> clear e ra rb hu
    · refine fun ca cb ra rb => ?_; apply ra.elim; apply rb.elim; exact RcAt.none_none
    · refine fun x y e ca cb ra rb => ?_; apply ra.elim; refine fun _ _ => ?_; apply rb.elim; refine fun _ _ => rc_str e
    · refine fun x y e ca cb ra rb => ?_; apply ra.elim; refine fun _ => ?_; apply rb.elim; refine fun _ => rc_int e
    · refine fun as bs e ca cb ra rb => ?_; apply ra.elim; refine fun _ _ ha _ _ va => ?_; apply rb.elim; refine fun _ _ hb _ _ vb => ?_
      obtain ⟨hsz, he⟩ := seq_of e va vb ih
      have := RcAt.tuples (A := A) (e := fun _ => true) ha hb hu1 he
      simpa [hsz, all_true] using this
    · refine fun i j as bs hi hj e ca cb ra rb => ?_; apply ra.elim; refine fun a ea => ?_; apply rb.elim; refine fun b eb => ?_
      obtain ⟨cas, n1, g1, _, r1⟩ := H.obj i _ a hi ea
      obtain ⟨cbs, n2, g2, _, r2⟩ := H.obj j _ b hj eb
      obtain ⟨hsz, he⟩ := seq_of e r1 r2 ih
      have := RcAt.lists (A := A) (e := fun _ => true) (l := a) (b := b) ⟨_, g1, rfl, _, rfl⟩ ⟨_, g2, rfl, _, rfl⟩ hsz hu1 he
      simpa [all_true] using this

theorem same_rc {h : List O} (H : HR prog w B ρ h s.heap) (nm : ∃ a o, B.get? a = some o ∧ sysModules < a) : ∀ (n : Nat) (a b : V) (ca cb : Value) (A : Around), same h n a b = true → VR ρ s.heap a ca → VR ρ s.heap b cb → A.units + n < cLine → RcW prog w A s ca cb := by
  intro n
  induction n with
  | zero => exact fun a b ca cb A e => no2 e
  | succ n ih =>
    intro a b ca cb A e ra rb hu
    have hu1 : A.units < cLine := by (first | lia | omega)
    have hu2 : A.in1.units + n < cLine := by show A.units + 1 + n < _; (first | lia | omega)
    replace ih : ∀ x y cx cy, same h n x y = true → VR ρ s.heap x cx → VR ρ s.heap y cy → EqW prog w A.in1 s cx cy := fun x y cx cy e rx ry =>
      eqW_of_rc rx (ih x y cx cy A.in1 e rx ry hu2)
    refine same_e (P := fun a b => ∀ ca cb, VR ρ s.heap a ca → VR ρ s.heap b cb → RcW prog w A s ca cb) ?_ ?_ ?_ ?_ ?_ ?_ e ca cb ra rb <;> clear e ra rb hu
    · refine fun ca cb ra rb => ?_; apply ra.elim; apply rb.elim; refine fun E Q hq => RcAt.none_none prog w E Q hq
    · refine fun x y e ca cb ra rb => ?_; apply ra.elim; refine fun _ _ => ?_; apply rb.elim; refine fun _ _ => rc_str e prog w
    · refine fun x y e ca cb ra rb => ?_; apply ra.elim; refine fun _ => ?_; apply rb.elim; refine fun _ => rc_int e prog w
    · refine fun as bs e ca cb ra rb => ?_; apply ra.elim; refine fun _ _ ha _ _ va => ?_; apply rb.elim; refine fun _ _ hb _ _ vb => ?_
      obtain ⟨hsz, he⟩ := seq_of e va vb ih
      exact RcW.tuples ha hb hsz hu1 he
    · refine fun i j as bs hi hj e ca cb ra rb => ?_; apply ra.elim; refine fun a ea => ?_; apply rb.elim; refine fun b eb => ?_
      obtain ⟨cas, n1, g1, _, r1⟩ := H.obj i _ a hi ea
      obtain ⟨cbs, n2, g2, _, r2⟩ := H.obj j _ b hj eb
      obtain ⟨hsz, he⟩ := seq_of e r1 r2 ih
      exact RcW.lists ⟨_, g1, rfl, _, rfl⟩ ⟨_, g2, rfl, _, rfl⟩ hsz hu1 he
    · refine fun i j as bs hi hj e1 e2 ca cb ra rb => ?_; apply ra.elim; refine fun a ea => ?_; apply rb.elim; refine fun b eb => ?_
      clear ih
      obtain ⟨ka, d1, ⟨k1, _, lo1⟩, r1⟩ := H.obj i _ a hi ea
      obtain ⟨kb, d2, ⟨k2, _, lo2⟩, r2⟩ := H.obj j _ b hj eb
      have kk : ka.map (·.1) = kb.map (·.1) := by
        rw [k1, k2]
        have := congrArg (List.map st) (beq_list e1)
        simpa [Function.comp_def] using this
      obtain ⟨l, q⟩ := sameAll_get e2
      have nd : (kb.map (·.1)).Nodup := by obtain ⟨_, _, _, _, _, _, _, _, nd⟩ := d2; exact nd
      have hl : ka.length = kb.length := by simpa using congrArg List.length kk
      have hits : KeqHits A.in1 s kb ka true := hits_of nd ka 0 (fun i x y hx hy => by
        rw [Nat.zero_add] at hy
        refine ⟨?_, ?_⟩
        · have h1 : (ka.map (·.1))[i]? = some x.1 := by simp [hx]
          have h2 : (kb.map (·.1))[i]? = some y.1 := by simp [hy]
          rw [kk, h2] at h1; exact (Option.some.inj h1).symm
        · obtain ⟨u, eu, ru⟩ := r1.sub i x.2 (by simp [hx])
          obtain ⟨v, ev, rv⟩ := r2.sub i y.2 (by simp [hy])
          exact eqAt_of_rc ru (sameF_rc H n u v _ _ A.in1 (q i u v eu ev) ru rv hu2)) (by (first | lia | omega))
      intro E Q hq
      exact keq_eq (knd := PySem.strKind prog w) lo1 lo2 d1 d2 hu1 (fun _ => hits) (by simpa [hl] using hq)
end
end Nt
end

section
open PySem PySem.W PyProof.Rows PySem.Calls PySem.SeqAt
set_option genSizeOf false
set_option genInjectivity false
set_option maxRecDepth 100000
set_option autoImplicit false
namespace Nt
section
variable {prog : Program} {w : World} {B : Heap} {f : Fm} {ρ : List Addr} {t : St} {s : Shared} {EE : Value → Shared → Prop} {A : Around}

noncomputable def cmpOf : Cmp → CmpOp
  | .eq => .Eq
  | .ne => .NotEq
  | .lt => .Lt
  | .le => .LtE
  | .gt => .Gt
  | .ge => .GtE
  | .isIn => .In
  | .notIn => .NotIn

theorem strsAre_of {vs : List V} {cvs : List Value} {ys : List (List Nat)} (r : VRs ρ s.heap vs cvs) : strsOf vs = some ys → StrsAre cvs (ys.map st) := by
  refine VRs.ind (P := fun vs cvs => ∀ ys, strsOf vs = some ys → StrsAre cvs (ys.map st)) (fun ys e => Option.some.inj e ▸ .nil) (fun v c vs cs r _ k ys e => ?_) r ys
  (first | exact no v | exact no1 v | exact no2 v | exact noE v | exact noE1 v | obtain rfl := Option.some.inj v | obtain rfl := Except.ok.inj v | obtain rfl := v | cases v) <;> first | exact no e | skip
  refine mapE e fun zs e1 e2 => e2 ▸ ?_; apply r.elim; exact fun _ _ => .cons _ _ (k zs e1)
theorem intsAre_of {vs : List V} {cvs : List Value} {ys : List Int} (r : VRs ρ s.heap vs cvs) : intsOf vs = some ys → IntsAre cvs ys := by
  refine VRs.ind (P := fun vs cvs => ∀ ys, intsOf vs = some ys → IntsAre cvs ys) (fun ys e => Option.some.inj e ▸ .nil) (fun v c vs cs r _ k ys e => ?_) r ys
  (first | exact no v | exact no1 v | exact no2 v | exact noE v | exact noE1 v | obtain rfl := Option.some.inj v | obtain rfl := Except.ok.inj v | obtain rfl := v | cases v) <;> first | exact no e | skip
  refine mapE e fun zs e1 e2 => e2 ▸ ?_; apply r.elim; exact fun _ => .cons _ _ (k zs e1)
theorem any_st (ys : List (List Nat)) (a : List Nat) : (ys.map st).any (· == st a) = ys.contains a := by
  induction ys with
  | nil => rfl
  | cons y ys ih =>
    rw [List.map_cons, List.any_cons, ih, st_beq, List.contains_cons]
    congr 1
    rw [Bool.eq_iff_iff]; simp; exact ⟨Eq.symm, Eq.symm⟩
theorem lexLe_eq : ∀ a b : List Nat, lexLe a b = !decide (b < a)
  | [], b => by simp [lexLe]
  | _ :: _, [] => by simp [lexLe]
  | a :: as, b :: bs => by
    rw [lexLe, lexLe_eq as bs]
    by_cases h : a < b
    · rw [if_pos h]
      have : ¬ (b :: bs < a :: as) := by rw [List.cons_lt_cons_iff]; (first | lia | omega)
      simp [this]
    · rw [if_neg h]
      by_cases h' : b < a
      · rw [if_pos h']
        have : b :: bs < a :: as := by rw [List.cons_lt_cons_iff]; exact .inl h'
        simp [this]
      · rw [if_neg h']
        have e : a = b := by (first | lia | omega)
        subst e
        have : (a :: bs < a :: as) ↔ bs < as := by rw [List.cons_lt_cons_iff]; simp
        simp [this]

theorem pv_same {v : V} {c : Value} (I : FI prog w B f ρ t s.heap) (r : VR ρ s.heap v c) : PV prog w B f ρ (.ok v) t s c s := pv_tok (tk := s.toks) I r

theorem eqV_e {h : List O} {P : V → V → Bool → Prop} (h1 : ∀ a b, P (.str a) (.str b) (a == b)) (h2 : ∀ a b : Int, P (.int a) (.int b) (a == b)) (h3 : ∀ as bs xs ys, intsOf as = some xs → intsOf bs = some ys → P (.lst as) (.lst bs) (xs == ys))
    (h4 : ∀ i j as bs, h[i]? = some (.list as) → h[j]? = some (.list bs) → sameAll (same h 12) as bs = true → P (.ref i) (.ref j) true) {a b : V} {r : Bool} (e : eqV h a b = some r) : P a b r := by
  (first | exact no a | exact no1 a | exact no2 a | exact noE a | exact noE1 a | obtain rfl := Option.some.inj a | obtain rfl := Except.ok.inj a | obtain rfl := a | cases a) <;> first | exact no e | ((first | exact no b | exact no1 b | exact no2 b | exact noE b | exact noE1 b | obtain rfl := Option.some.inj b | obtain rfl := Except.ok.inj b | obtain rfl := b | cases b) <;> first | exact no e | skip)
  · exact Option.some.inj e ▸ h2 _ _
  · exact Option.some.inj e ▸ h1 _ _
  · rename_i as bs
    replace e : (match intsOf as, intsOf bs with | some as, some bs => some (as == bs) | _, _ => Option.none) = some r := e
    have k := h3 as bs
    generalize intsOf as = x, intsOf bs = y at e k
    rcases x with _ | _ <;> first | exact no e | (rcases y with _ | _ <;> first | exact no e | skip)
    exact Option.some.inj e ▸ k _ _ rfl rfl
  · rename_i i j
    replace e : (match h[i]?, h[j]? with | some (.list as), some (.list bs) => if sameAll (same h 12) as bs then some true else Option.none | _, _ => Option.none) = some r := e
    have k := h4 i j
    generalize h[i]? = x, h[j]? = y at e k
    rcases x with _ | _ | _ <;> first | exact no e | (rcases y with _ | _ | _ <;> first | exact no e | skip)
    exact ifE e fun c e => Option.some.inj e ▸ k _ _ rfl rfl c
theorem inV_e {P : V → V → Bool → Prop} (h1 : ∀ a vs ys, strsOf vs = some ys → P (.str a) (.tup vs) (ys.contains a)) (h2 : ∀ a vs ys, strsOf vs = some ys → P (.str a) (.lst vs) (ys.contains a)) (h3 : ∀ c s, P (.str [c]) (.str s) (s.contains c)) {a b : V} {r : Bool} (e : inV a b = some r) : P a b r := by
  (first | exact no a | exact no1 a | exact no2 a | exact noE a | exact noE1 a | obtain rfl := Option.some.inj a | obtain rfl := Except.ok.inj a | obtain rfl := a | cases a) <;> first | exact no e | ((first | exact no b | exact no1 b | exact no2 b | exact noE b | exact noE1 b | obtain rfl := Option.some.inj b | obtain rfl := Except.ok.inj b | obtain rfl := b | cases b) <;> first | exact no e | skip)
  · rename_i x y
    rcases x with _ | ⟨c, _ | _⟩ <;> first | exact no e | exact Option.some.inj e ▸ h3 _ _
  · rename_i x y
    rcases x with _ | ⟨c, _ | _⟩ <;> exact mapE e fun _ e1 e2 => e2 ▸ h1 _ _ _ e1
  · rename_i x y
    rcases x with _ | ⟨c, _ | _⟩ <;> exact mapE e fun _ e1 e2 => e2 ▸ h2 _ _ _ e1
theorem cmpV_e {h : List O} {P : Cmp → V → V → Bool → Prop} (h1 : ∀ a b r, eqV h a b = some r → P .eq a b r) (h2 : ∀ a b r, eqV h a b = some r → P .ne a b (!r)) (h3 : ∀ a b r, inV a b = some r → P .isIn a b r) (h4 : ∀ a b r, inV a b = some r → P .notIn a b (!r))
    (h5 : ∀ a b, P .lt (.int a) (.int b) (decide (a < b))) (h6 : ∀ a b, P .le (.str a) (.str b) (lexLe a b)) (h7 : ∀ a b, P .gt (.int a) (.int b) (decide (b < a))) (h8 : ∀ a b, P .ge (.int a) (.int b) (decide (b ≤ a))) {c : Cmp} {a b : V} {r : Bool} (e : cmpV h c a b = some r) : P c a b r := by
  (first | exact no c | exact no1 c | exact no2 c | exact noE c | exact noE1 c | obtain rfl := Option.some.inj c | obtain rfl := Except.ok.inj c | obtain rfl := c | cases c)
  · exact h1 _ _ _ e
  · exact mapE e fun _ e1 e2 => e2 ▸ h2 _ _ _ e1
  · (first | exact no a | exact no1 a | exact no2 a | exact noE a | exact noE1 a | obtain rfl := Option.some.inj a | obtain rfl := Except.ok.inj a | obtain rfl := a | cases a) <;> first | exact no e | ((first | exact no b | exact no1 b | exact no2 b | exact noE b | exact noE1 b | obtain rfl := Option.some.inj b | obtain rfl := Except.ok.inj b | obtain rfl := b | cases b) <;> first | exact no e | exact Option.some.inj e ▸ h5 _ _)
  · (first | exact no a | exact no1 a | exact no2 a | exact noE a | exact noE1 a | obtain rfl := Option.some.inj a | obtain rfl := Except.ok.inj a | obtain rfl := a | cases a) <;> first | exact no e | ((first | exact no b | exact no1 b | exact no2 b | exact noE b | exact noE1 b | obtain rfl := Option.some.inj b | obtain rfl := Except.ok.inj b | obtain rfl := b | cases b) <;> first | exact no e | exact Option.some.inj e ▸ h6 _ _)
  · (first | exact no a | exact no1 a | exact no2 a | exact noE a | exact noE1 a | obtain rfl := Option.some.inj a | obtain rfl := Except.ok.inj a | obtain rfl := a | cases a) <;> first | exact no e | ((first | exact no b | exact no1 b | exact no2 b | exact noE b | exact noE1 b | obtain rfl := Option.some.inj b | obtain rfl := Except.ok.inj b | obtain rfl := b | cases b) <;> first | exact no e | exact Option.some.inj e ▸ h7 _ _)
  · (first | exact no a | exact no1 a | exact no2 a | exact noE a | exact noE1 a | obtain rfl := Option.some.inj a | obtain rfl := Except.ok.inj a | obtain rfl := a | cases a) <;> first | exact no e | ((first | exact no b | exact no1 b | exact no2 b | exact noE b | exact noE1 b | obtain rfl := Option.some.inj b | obtain rfl := Except.ok.inj b | obtain rfl := b | cases b) <;> first | exact no e | exact Option.some.inj e ▸ h8 _ _)
  · exact h3 _ _ _ e
  · exact mapE e fun _ e1 e2 => e2 ▸ h4 _ _ _ e1

theorem p_eq {n : Nat} {x y : V} {cx cy : Value} {b : Bool} (K : f.Ok n) (nm : ∃ a o, B.get? a = some o ∧ sysModules < a) (I : FI prog w B f ρ t s.heap) (e : eqV t.heap x y = some b) (rx : VR ρ s.heap x cx) (ry : VR ρ s.heap y cy) :
    wpAny (model prog w) f.A (compareOp .Eq cx cy) (PV prog w B f ρ (.ok (.bool b)) t s) EE s ∧ wpAny (model prog w) f.A (compareOp .NotEq cx cy) (PV prog w B f ρ (.ok (.bool (!b))) t s) EE s := by
  have hu := K.units
  refine eqV_e (P := fun x y b => ∀ cx cy, VR ρ s.heap x cx → VR ρ s.heap y cy → wpAny (model prog w) f.A (compareOp .Eq cx cy) (PV prog w B f ρ (.ok (.bool b)) t s) EE s ∧ wpAny (model prog w) f.A (compareOp .NotEq cx cy) (PV prog w B f ρ (.ok (.bool (!b))) t s) EE s) ?_ ?_ ?_ ?_ e cx cy rx ry <;> clear e rx ry
  · refine fun a b cx cy rx ry => ?_; apply rx.elim; refine fun _ _ => ?_; apply ry.elim; refine fun _ _ => ⟨eq_str ?_, ne_str ?_⟩
    · rw [st_beq]; exact pv_same I (.bool _)
    · rw [bne, st_beq]; exact pv_same I (.bool _)
  · refine fun a b cx cy rx ry => ?_; apply rx.elim; refine fun _ => ?_; apply ry.elim; refine fun _ => ⟨eq_int (pv_same I (.bool _)), ne_int (pv_same I (.bool _))⟩
  · refine fun as bs ns ms h1 h2 cx cy rx ry => ?_; apply rx.elim; refine fun _ _ hx _ _ vx => ?_; apply ry.elim; refine fun _ _ hy _ _ vy => ?_
    have q : decide (ns = ms) = (ns == ms) := by rw [Bool.eq_iff_iff]; simp
    refine ⟨ke_eq_ints hx hy (intsAre_of vx h1) (intsAre_of vy h2) (by (first | lia | omega)) ?_, ke_ne_ints hx hy (intsAre_of vx h1) (intsAre_of vy h2) (by (first | lia | omega)) ?_⟩ <;> (rw [q]; exact pv_same I (.bool _))
  · refine fun i j as bs h1 h2 hs cx cy rx ry => ?_; apply rx.elim; refine fun a ex => ?_; apply ry.elim; refine fun b' ey => ?_
    obtain ⟨cas, n1, g1, _, r1⟩ := I.ci.hr.obj i _ a h1 ex
    obtain ⟨cbs, n2, g2, _, r2⟩ := I.ci.hr.obj j _ b' h2 ey
    obtain ⟨hsz, he⟩ := seq_of hs r1 r2 fun x y cx cy e rx ry => eqW_of_rc rx (same_rc I.ci.hr nm 12 x y cx cy f.A.in1 e rx ry (by simp; (first | lia | omega)))
    have l1 : s.heap.IsList a cas.toArray := ⟨_, g1, rfl, _, rfl⟩
    have l2 : s.heap.IsList b' cbs.toArray := ⟨_, g2, rfl, _, rfl⟩
    exact ⟨RcW.lists l1 l2 hsz (by (first | lia | omega)) he _ _ (pv_same I (.bool _)), RcW.listsNe l1 l2 hsz (by (first | lia | omega)) he _ _ (pv_same I (.bool _))⟩

theorem p_in {x y : V} {cx cy : Value} {b : Bool} (I : FI prog w B f ρ t s.heap) (e : inV x y = some b) (rx : VR ρ s.heap x cx) (ry : VR ρ s.heap y cy) :
    wpAny (model prog w) f.A (compareOp .In cx cy) (PV prog w B f ρ (.ok (.bool b)) t s) EE s ∧ wpAny (model prog w) f.A (compareOp .NotIn cx cy) (PV prog w B f ρ (.ok (.bool (!b))) t s) EE s := by
  refine inV_e (P := fun x y b => ∀ cx cy, VR ρ s.heap x cx → VR ρ s.heap y cy → wpAny (model prog w) f.A (compareOp .In cx cy) (PV prog w B f ρ (.ok (.bool b)) t s) EE s ∧ wpAny (model prog w) f.A (compareOp .NotIn cx cy) (PV prog w B f ρ (.ok (.bool (!b))) t s) EE s) ?_ ?_ ?_ e cx cy rx ry <;> clear e rx ry
  · refine fun a vs ys e1 cx cy rx ry => ?_; apply rx.elim; refine fun _ _ => ?_; apply ry.elim; refine fun _ _ hy _ _ vy => ?_
    have i := strsAre_of vy e1
    refine ⟨in_tuple_strs hy (by simpa using i) ?_, notin_tuple_strs hy (by simpa using i) ?_⟩ <;> (rw [any_st]; exact pv_same I (.bool _))
  · refine fun a vs ys e1 cx cy rx ry => ?_; apply rx.elim; refine fun _ _ => ?_; apply ry.elim; refine fun _ _ hy _ _ vy => ?_
    have i := strsAre_of vy e1
    refine ⟨in_list_strs hy i ?_, notin_list_strs hy i ?_⟩ <;> (rw [any_st]; exact pv_same I (.bool _))
  · refine fun c z cx cy rx ry => ?_; apply rx.elim; refine fun _ _ => ?_; apply ry.elim; refine fun _ _ => ?_
    have q : (!(Builtin.Str.occurrences (st z) (st [c]) 0 (st z).length 1).isEmpty) = z.contains c := by
      have := StrLaws.found_one (st z) c
      rw [show (st [c]) = (⟨#[c]⟩ : Str) from rfl, this, Bool.eq_iff_iff]
      simp
    refine ⟨in_str ?_, notIn_str ?_⟩ <;> (rw [q]; exact pv_same I (.bool _))

theorem p_cmp {n : Nat} {c : Cmp} {x y : V} {cx cy : Value} {b : Bool} (K : f.Ok n) (nm : ∃ a o, B.get? a = some o ∧ sysModules < a) (I : FI prog w B f ρ t s.heap) (e : cmpV t.heap c x y = some b) (rx : VR ρ s.heap x cx) (ry : VR ρ s.heap y cy) :
    wpAny (model prog w) f.A (compareOp (cmpOf c) cx cy) (PV prog w B f ρ (.ok (.bool b)) t s) EE s := by
  refine cmpV_e (P := fun c x y b => VR ρ s.heap x cx → VR ρ s.heap y cy → wpAny (model prog w) f.A (compareOp (cmpOf c) cx cy) (PV prog w B f ρ (.ok (.bool b)) t s) EE s) ?_ ?_ ?_ ?_ ?_ ?_ ?_ ?_ e rx ry <;> clear e rx ry
  · exact fun a b r e rx ry => (p_eq K nm I e rx ry).1
  · exact fun a b r e rx ry => (p_eq K nm I e rx ry).2
  · exact fun a b r e rx ry => (p_in I e rx ry).1
  · exact fun a b r e rx ry => (p_in I e rx ry).2
  · refine fun a b rx ry => ?_; apply rx.elim; refine fun _ => ?_; apply ry.elim; refine fun _ => lt_int (pv_same I (.bool _))
  · refine fun a b rx ry => ?_; apply rx.elim; refine fun _ _ => ?_; apply ry.elim; refine fun _ _ => PySem.P.le_str ?_
    rw [lexLe_eq]
    exact pv_same I (.bool _)
  · refine fun a b rx ry => ?_; apply rx.elim; refine fun _ => ?_; apply ry.elim; refine fun _ => gt_int (pv_same I (.bool _))
  · refine fun a b rx ry => ?_; apply rx.elim; refine fun _ => ?_; apply ry.elim; refine fun _ => ge_int (pv_same I (.bool _))

end
end Nt
end

section
open PySem PySem.W PyProof.Rows PySem.Calls PySem.SeqAt
set_option genSizeOf false
set_option genInjectivity false
set_option maxRecDepth 100000
set_option autoImplicit false
namespace Nt
section
variable {prog : Program} {w : World} {B : Heap} {f : Fm} {ρ : List Addr} {t : St} {s : Shared} {EE : Value → Shared → Prop} {A : Around}

theorem sub_ops (slice : Expr) (o i : Value) : ∃ ops, subscripted slice false o i = operate ops (getItem o i) :=
  by
  (first | exact no slice | exact no1 slice | exact no2 slice | exact noE slice | exact noE1 slice | obtain rfl := Option.some.inj slice | obtain rfl := Except.ok.inj slice | obtain rfl := slice | cases slice) <;> first | exact ⟨_, rfl⟩ | skip
  rename_i _ _ x _
  (first | exact no x | exact no1 x | exact no2 x | exact noE x | exact noE1 x | obtain rfl := Option.some.inj x | obtain rfl := Except.ok.inj x | obtain rfl := x | cases x) <;> exact ⟨_, rfl⟩
theorem tailAny {value slice : Expr} {o i : Value} {T id : String} {Q E : Value → Shared → Prop} (hT : s.TypeIs o T) (hl : typeLookup (.type T) "__getitem__" = pure (some (.builtin id))) (hg : wpAny (model prog w) A (getItem o i) Q E s) :
    wpAny (model prog w) A (subscriptTail value slice o i) Q E s := by
  have ⟨ops, hs⟩ := sub_ops slice o i
  exact tail_any hT hl hg hs

theorem seqIndex_pos {k : Int} {n : Nat} (h0 : 0 ≤ k) (h1 : k < n) : seqIndex? k n = some k.toNat := by
  have h : ¬ k < 0 := by (first | lia | omega)
  unfold seqIndex?
  simp [h, h0, h1]
theorem seqIndex_neg {k : Int} {n : Nat} (h0 : k < 0) (h1 : -(n : Int) ≤ k) : seqIndex? k n = some (k + n).toNat := by
  have h2 : 0 ≤ k + n := by (first | lia | omega)
  unfold seqIndex?
  have h3 : k + n < n := by (first | lia | omega)
  simp [h0, h2, h3]
theorem pick_e {α : Type} {xs : List α} {k : Int} {x : α} {P : Prop} (e : pick xs k = some x) (h1 : 0 ≤ k → xs[k.toNat]? = some x → P) (h2 : ¬ 0 ≤ k → -(xs.length : Int) ≤ k → xs[(k + xs.length).toNat]? = some x → P) : P := by
  unfold pick at e
  by_cases h : 0 ≤ k
  · rw [if_pos h] at e; exact h1 h e
  · rw [if_neg h] at e; exact ifE e fun h' e => h2 h h' e
theorem pick_seq {α : Type} {xs : List α} {k : Int} {x : α} (e : pick xs k = some x) : ∃ j, seqIndex? k xs.length = some j ∧ xs[j]? = some x :=
  pick_e e (fun h e => ⟨k.toNat, seqIndex_pos h (by have hl := (List.getElem?_eq_some_iff.mp e).1; (first | lia | omega)), e⟩) fun h h' e => ⟨(k + xs.length).toNat, seqIndex_neg (by (first | lia | omega)) h', e⟩
theorem pick_lo {α : Type} {xs : List α} {k : Int} {x : α} (e : pick xs k = some x) : -(xs.length : Int) ≤ k ∧ k < xs.length :=
  pick_e e (fun h e => by have hl := (List.getElem?_eq_some_iff.mp e).1; (first | lia | omega)) fun h h' e => by (first | lia | omega)
theorem pick_get {ρ : List Addr} {h : Heap} {vs : List V} {cvs : List Value} (r : VRs ρ h vs cvs) {k : Int} {v : V} (e : pick vs k = some v) : ∃ c, pick cvs k = some c ∧ VR ρ h v c := by
  refine pick_e e (fun h e => ?_) fun h h' e => ?_ <;> unfold pick <;> rw [r.length]
  · rw [if_pos h]; exact r.get e
  · rw [if_neg h, if_pos h']; exact r.get e

theorem getItem_listP {a : Addr} {cvs : List Value} {k : Int} {u : Tok} {c : Value} {Q E : Value → Shared → Prop} (hl : s.heap.IsList a cvs.toArray) (hz : cvs.length ≤ lim) (e : pick cvs k = some c) (h : Q c s) :
    wpAny (model prog w) A (getItem (.ref a) (.int k u)) Q E s := by
  have lo := pick_lo e
  have hz' : cvs.length ≤ 16777216 := hz
  exact pick_e e (fun h0 e => wpAny_getItem_list hl h0 (by (first | lia | omega)) (by simpa using e) h) fun h0 h1 e => wpAny_getItem_list_neg hl (by (first | lia | omega)) (by simpa using h1) (by (first | lia | omega)) (by simpa using e) h

theorem st_ne {x k : List Nat} (q : ¬ x = k) : ¬ st x = st k := fun e => q (by simpa using e)
theorem dict_at {x : List Nat} {v : V} : ∀ {kvs : List (List Nat × V)} {ckvs : List (Str × Value)}, ckvs.map (·.1) = kvs.map (fun kv => st kv.1) → VRs ρ s.heap (kvs.map (·.2)) (ckvs.map (·.2)) → kvs.lookup x = some v →
    ∃ c, valueAt ckvs (st x) = some c ∧ VR ρ s.heap v c := by
  intro kvs
  induction kvs with
  | nil => exact fun _ _ e => no e
  | cons kv kvs ih =>
    obtain ⟨k, u⟩ := kv
    intro ckvs hk r e
    cases ckvs with
    | nil => exact nomatch hk
    | cons ckv ckvs =>
      obtain ⟨ck, cu⟩ := ckv
      obtain ⟨rfl, hk2⟩ := List.cons.inj hk
      obtain ⟨_, _, hq, r1, r2⟩ := r.split
      obtain ⟨rfl, rfl⟩ := List.cons.inj hq
      rw [List.lookup_cons] at e
      by_cases q : x = k
      · subst q
        rw [beq_self_eq_true] at e
        refine ⟨cu, ?_, Option.some.inj e ▸ r1⟩
        unfold valueAt
        rw [List.find?_cons, decide_eq_true rfl]; rfl
      · rw [beq_false_of_ne q] at e
        obtain ⟨c, e1, r3⟩ := ih hk2 r2 e
        refine ⟨c, ?_, r3⟩
        unfold valueAt at e1 ⊢
        rw [List.find?_cons, decide_eq_false (st_ne fun e => q e.symm)]
        exact e1

theorem idxV_e {h : List O} {P : V → V → V → Prop} (h1 : ∀ vs k v, pick vs k = some v → P (.tup vs) (.int k) v) (h2 : ∀ vs k v, pick vs k = some v → P (.lst vs) (.int k) v) (h3 : ∀ s k c, 0 ≤ k → s[k.toNat]? = some c → P (.str s) (.int k) (.str [c]))
    (h4 : ∀ n k vs v, h[n]? = some (.list vs) → pick vs k = some v → P (.ref n) (.int k) v) (h5 : ∀ n x kvs v, h[n]? = some (.dict kvs) → kvs.lookup x = some v → P (.ref n) (.str x) v) {a b v : V} (e : idxV h a b = some v) : P a b v := by
  (first | exact no a | exact no1 a | exact no2 a | exact noE a | exact noE1 a | obtain rfl := Option.some.inj a | obtain rfl := Except.ok.inj a | obtain rfl := a | cases a) <;> first | exact no e | ((first | exact no b | exact no1 b | exact no2 b | exact noE b | exact noE1 b | obtain rfl := Option.some.inj b | obtain rfl := Except.ok.inj b | obtain rfl := b | cases b) <;> first | exact no e | skip)
  · exact ifE e fun c e => mapE e fun _ e1 e2 => e2 ▸ h3 _ _ _ c e1
  · exact h1 _ _ _ e
  · exact h2 _ _ _ e
  · rename_i n k
    replace e : (match h[n]? with | some (.list vs) => pick vs k | _ => Option.none) = some v := e
    have q := h4 n k
    generalize h[n]? = x at e q
    rcases x with _ | _ | _ <;> first | exact no e | exact q _ _ rfl e
  · rename_i n y
    replace e : (match h[n]? with | some (.dict kvs) => kvs.lookup y | _ => Option.none) = some v := e
    have q := h5 n y
    generalize h[n]? = x at e q
    rcases x with _ | _ | _ <;> first | exact no e | exact q _ _ rfl e

theorem p_idx {value slice : Expr} {x y v : V} {cx cy : Value} (I : FI prog w B f ρ t s.heap) (e : idxV t.heap x y = some v) (rx : VR ρ s.heap x cx) (ry : VR ρ s.heap y cy) :
    wpAny (model prog w) f.A (subscriptTail value slice cx cy) (PV prog w B f ρ (.ok v) t s) EE s := by
  refine idxV_e (P := fun x y v => ∀ cx cy, VR ρ s.heap x cx → VR ρ s.heap y cy → wpAny (model prog w) f.A (subscriptTail value slice cx cy) (PV prog w B f ρ (.ok v) t s) EE s) ?_ ?_ ?_ ?_ ?_ e cx cy rx ry <;> clear e rx ry
  · refine fun vs k v e cx cy rx ry => ?_; apply rx.elim; refine fun _ _ hx _ lx vx => ?_; apply ry.elim; refine fun _ => ?_
    obtain ⟨c, e1, r1⟩ := pick_get vx e
    obtain ⟨j, e2, e3⟩ := pick_seq e1
    have lo := pick_lo e1
    have lc := vx.length
    have hz' : _ ≤ 16777216 := lx
    exact tailAny hx.typeIs PySem.F.slot_tuple_getitem.lookup (getItem_tuple hx (by (first | lia | omega)) (by (first | lia | omega)) (by simpa using e2) (by simpa using e3) (pv_same I r1))
  · refine fun vs k v e cx cy rx ry => ?_; apply rx.elim; refine fun _ _ hx _ lx vx => ?_; apply ry.elim; refine fun _ => ?_
    obtain ⟨c, e1, r1⟩ := pick_get vx e
    exact tailAny hx.typeIs slot_list_getitem.lookup (getItem_listP hx (by rw [vx.length]; exact lx) e1 (pv_same I r1))
  · refine fun z k c h0 e1 cx cy rx ry => ?_; apply rx.elim; refine fun _ lz => ?_; apply ry.elim; refine fun _ => ?_
    have hl := (List.getElem?_eq_some_iff.mp e1).1
    have hz' : z.length ≤ 16777216 := lz
    refine tailAny (typeIs_str _ _ _) slot_str_getitem.lookup (getItem_str (c := c) (by simp; (first | lia | omega)) ?_ ?_)
    · rw [st_length, seqIndex_pos h0 (by (first | lia | omega))]
      simpa using e1
    · exact pv_tok I (.str [c] _ (show 1 ≤ lim from by decide))
  · refine fun n k vs v h1 e cx cy rx ry => ?_; apply rx.elim; refine fun _ ex => ?_; apply ry.elim; refine fun _ => ?_
    obtain ⟨cvs, n1, g1, l1, r1⟩ := I.ci.hr.obj _ _ _ h1 ex
    obtain ⟨c, e1, r2⟩ := pick_get r1 e
    have hl : s.heap.IsList _ cvs.toArray := ⟨_, g1, rfl, _, rfl⟩
    exact tailAny hl.typeIs slot_list_getitem.lookup (getItem_listP hl (by rw [r1.length]; exact l1) e1 (pv_same I r2))
  · refine fun n k kvs v h1 e cx cy rx ry => ?_; apply rx.elim; refine fun _ ex => ?_; apply ry.elim; refine fun _ _ => ?_
    obtain ⟨ckvs, d1, ⟨k1, _⟩, r1⟩ := I.ci.hr.obj _ _ _ h1 ex
    obtain ⟨c, e1, r2⟩ := dict_at k1 r1 e
    exact tailAny d1.typeIs slot_dict_getitem.lookup (wpAny_getItem_of (strKind_is prog w _ _) d1.mapOf e1 (pv_tok I r2))

end
end Nt
end

section
open PySem PySem.W PyProof.Rows PySem.Calls PySem.SeqAt
set_option genSizeOf false
set_option genInjectivity false
set_option maxRecDepth 100000
set_option autoImplicit false
namespace Nt
section
variable {prog : Program} {w : World} {B : Heap} {f : Fm} {ρ : List Addr} {t : St} {s : Shared} {EE : Value → Shared → Prop} {A : Around}

noncomputable def loOf (n : Nat) : Option (Int × Tok) → Nat
  | none => 0
  | some k => clamp n k.1
noncomputable def hiOf (n : Nat) : Option (Int × Tok) → Nat
  | none => n
  | some k => clamp n k.1
theorem clip_eq (n : Nat) (k : Int) : max 0 (min (if k < 0 then k + n else k) (n : Int)) = (clamp n k : Nat) := by
  unfold clamp
  by_cases h : k < 0
  · rw [if_pos h, if_pos h, Int.min_eq_left (by (first | lia | omega)), Int.toNat_eq_max, Int.max_comm]
  · obtain ⟨m, rfl⟩ := Int.eq_ofNat_of_zero_le (Int.not_lt.mp h)
    rw [if_neg h, if_neg h, Int.toNat_natCast, show min (m : Int) (n : Int) = ((min m n : Nat) : Int) from by (first | lia | omega), Int.max_eq_right (Int.natCast_nonneg _)]
theorem clamp_le (n : Nat) (k : Int) : clamp n k ≤ n := by
  unfold clamp
  split <;> (first | lia | omega)
theorem range_go {a b : Nat} : Builtin.Str.strSliceIndices = Builtin.Str.strSliceIndices ∧ PySem.sliceRange a b 1 = (List.range (b - a)).map (fun k => a + k) := by
  refine ⟨rfl, ?_⟩
  unfold sliceRange
  simp only [show ((1 : Int) > 0) = True from by simp, if_true]
  by_cases h : (a : Int) < b
  · have e3 : (((b : Int) - a + 1 - 1) / 1).toNat = b - a := by first | (first | lia | omega) | (simp; done) | (simp; (first | lia | omega))
    simp only [h, if_true, e3]
    refine List.map_congr_left fun k _ => ?_
    (first | lia | omega)
  · have : b - a = 0 := by (first | lia | omega)
    simp [h, this]
theorem picked_eq (x : List Nat) (l u : Option (Int × Tok)) : slicePicked (st x) l u none = (List.range (hiOf x.length u - loOf x.length l)).map fun k => loOf x.length l + k := by
  unfold slicePicked
  rw [st_length, ← range_go.2]
  unfold Builtin.Str.strSliceIndices
  simp only [Option.map_none, Option.getD_none, show ((1 : Int) > 0) = True from by simp, if_true]
  congr 1
  · cases l with
    | none => rfl
    | some k => exact clip_eq _ _
  · cases u with
    | none => rfl
    | some k => exact clip_eq _ _
theorem lo_le (n : Nat) (l : Option (Int × Tok)) : loOf n l ≤ n := by
  cases l with
  | none => exact Nat.zero_le _
  | some k => exact clamp_le _ _
theorem hi_le (n : Nat) (l : Option (Int × Tok)) : hiOf n l ≤ n := by
  cases l with
  | none => exact Nat.le_refl _
  | some k => exact clamp_le _ _
theorem cut_eq (x : List Nat) (a b : Nat) : cut x a b = (x.drop a).take (b - a) := by
  unfold cut
  rw [List.drop_take]
theorem slice_post {x : List Nat} {tx : Tok} {l u : Option (Int × Tok)} {Q : Value → Shared → Prop} (hx : x.length ≤ lim) (h : ∀ t' k, Q (.str (st (cut x (loOf x.length l) (hiOf x.length u))) t') { s with toks := k }) :
    (sliceMade (st x) tx l u none).post Q s := by
  have lu := hi_le x.length u
  have ll := lo_le x.length l
  have e : (slicePicked (st x) l u none).filterMap ((st x).cps[·]?) = cut x (loOf x.length l) (hiOf x.length u) := by
    rw [picked_eq, cut_eq]
    by_cases hab : loOf x.length l ≤ hiOf x.length u
    · have := StrLaws.picks x (hiOf x.length u - loOf x.length l) (loOf x.length l) (by (first | lia | omega))
      simpa using this
    · have : hiOf x.length u - loOf x.length l = 0 := by (first | lia | omega)
      simp [this]
  unfold sliceMade
  split
  · rename_i hc
    simp only [Bool.and_eq_true] at hc
    have hl := beq_iff_eq.mp hc.2
    rw [picked_eq, st_length] at hl
    simp only [List.length_map, List.length_range] at hl
    have h0 : loOf x.length l = 0 ∨ x.length = 0 := by (first | lia | omega)
    have q : cut x (loOf x.length l) (hiOf x.length u) = x := by
      rw [cut_eq, hl]
      rcases h0 with h0 | h0
      · simp [h0]
      · have : x = [] := List.eq_nil_of_length_eq_zero h0
        simp [this]
    have := h tx s.toks
    rw [q] at this
    exact this
  · rw [e]
    refine ⟨?_, h _ _⟩
    show (st _).length ≤ sizeLine
    rw [st_length, cut_eq]
    refine Nat.le_trans ?_ (show lim ≤ sizeLine from by decide)
    simp only [List.length_take, List.length_drop]
    (first | lia | omega)

/-- a sequence is made -/
theorem p_tup {vs : List V} {cvs : List Value} (I : FI prog w B f ρ t s.heap) (r : VRs ρ s.heap vs cvs) (hz : vs.length ≤ lim) : wpAny (model prog w) f.A (newTuple cvs) (PV prog w B f ρ (.ok (.tup vs)) t s) EE s := by
  have k : SeqStay ρ s.heap (s.heap.push { cls := .type "tuple", dict := none, data := .seq cvs.toArray 0 }) := fun b o e _ _ => ⟨o.slots, Heap.get?_push_of_some _ e⟩
  refine wpAny_newObj_type ?_ (by show cvs.toArray.size ≤ sizeLine; rw [List.size_toArray, r.length]; exact hz)
  exact pv_keep (tk := s.toks) I (fun _ _ e => Heap.get?_push_of_some _ e) (.tup (cvs := cvs) ⟨_, Heap.get?_push_size _ rfl, rfl, 0, rfl⟩ I.ci.hr.notNew hz (r.mono k (.refl _ _)))
theorem p_flist {vs : List V} {cvs : List Value} (I : FI prog w B f ρ t s.heap) (r : VRs ρ s.heap vs cvs) (hz : vs.length ≤ lim) : wpAny (model prog w) f.A (newList cvs) (PV prog w B f ρ (.ok (.lst vs)) t s) EE s := by
  have k : SeqStay ρ s.heap (s.heap.push { cls := .type "list", dict := none, data := .seq cvs.toArray 0 }) := fun b o e _ _ => ⟨o.slots, Heap.get?_push_of_some _ e⟩
  refine wpAny_newObj_type ?_ (by show cvs.toArray.size ≤ sizeLine; rw [List.size_toArray, r.length]; exact hz)
  exact pv_keep (tk := s.toks) I (fun _ _ e => Heap.get?_push_of_some _ e) (.lst (cvs := cvs) ⟨_, Heap.get?_push_size _ rfl, rfl, 0, rfl⟩ I.ci.hr.notNew hz (r.mono k (.refl _ _)))
theorem none_at (h : Heap) : h.get? h.objs.size = none := by
  cases q : h.get? h.objs.size with
  | none => rfl
  | some o => exact absurd (Heap.lt_size q) (Nat.lt_irrefl _)
theorem p_list {vs : List V} {cvs : List Value} (I : FI prog w B f ρ t s.heap) (r : VRs ρ s.heap vs cvs) (hz : vs.length ≤ lim) :
    wpAny (model prog w) f.A (newList cvs) (PV prog w B f ρ (.ok (.ref t.heap.length)) ⟨t.loc, t.heap ++ [.list vs]⟩ s) EE s := by
  refine wpAny_newObj_type ?_ (by show cvs.toArray.size ≤ sizeLine; rw [List.size_toArray, r.length]; exact hz)
  have k : SeqStay ρ s.heap (s.heap.push { cls := .type "list", dict := none, data := .seq cvs.toArray 0 }) := fun b o e _ _ => ⟨o.slots, Heap.get?_push_of_some _ e⟩
  have gr : Grows s.heap ρ (ρ ++ [s.heap.objs.size]) := ⟨_, rfl, fun b m => by rw [List.mem_singleton.mp m]; exact none_at _⟩
  obtain ⟨J, g⟩ := I.alloc (h' := s.heap.push { cls := .type "list", dict := none, data := .seq cvs.toArray 0 }) (o' := .list vs) (fun _ _ e => Heap.get?_push_of_some _ e) (none_at _) ⟨cvs, 0, Heap.get?_push_size _ rfl, hz, r.mono k gr⟩
  refine ⟨_, _, rfl, .ref (by rw [← I.ci.hr.len]; simp), J, .of_keeps fun _ _ e => Heap.get?_push_of_some _ e, g, rfl, rfl⟩

theorem small {n : Nat} (h : n ≤ lim) : (n : Int) < 2 ^ 63 := Int.lt_of_le_of_lt (Int.ofNat_le.mpr h) (by decide)
theorem p_len {x : V} {cx : Value} {n : Nat} (I : FI prog w B f ρ t s.heap) (rx : VR ρ s.heap x cx) (e : (∃ z, x = .str z ∧ n = z.length) ∨ ∃ vs, x = .lst vs ∧ n = vs.length) :
    wpAny (model prog w) f.A (call (.builtin "len") [cx]) (PV prog w B f ρ (.ok (.int n)) t s) EE s := by
  rcases e with ⟨z, rfl, rfl⟩ | ⟨vs, rfl, rfl⟩
  · apply rx.elim; refine fun _ lz => len_str (by rw [st_length]; exact Int.not_le.mpr (small lz)) ?_
    rw [st_length]
    exact pv_tok I (.int _ _)
  · apply rx.elim; refine fun _ _ hx _ lx vx => call_len_list hx (by rw [List.size_toArray, vx.length]; exact small lx) ?_
    rw [List.size_toArray, vx.length]
    exact pv_tok I (.int _ _)
theorem p_ord {c : Nat} {cx : Value} (I : FI prog w B f ρ t s.heap) (rx : VR ρ s.heap (.str [c]) cx) : wpAny (model prog w) f.A (call (.builtin "ord") [cx]) (PV prog w B f ρ (.ok (.int c)) t s) EE s := by
  apply rx.elim; refine fun _ _ => ord_of_one rfl (pv_tok I (.int _ _))

theorem p_append {x : V} {cx cl : Value} {n : Nat} {vs : List V} (I : FI prog w B f ρ t s.heap) (rl : VR ρ s.heap (.ref n) cl) (rx : VR ρ s.heap x cx) (e : t.heap[n]? = some (.list vs)) (hz : vs.length < lim) :
    wpAny (model prog w) f.A (call (.builtin "list.append") [cl, cx]) (PV prog w B f ρ (.ok .none) ⟨t.loc, t.heap.set n (.list (vs ++ [x]))⟩ s) EE s := by
  apply rl.elim; refine fun al el => ?_
  obtain ⟨cvs, m, g1, l1, r1⟩ := I.ci.hr.obj _ _ _ e el
  refine append_at g1 (fun h' hs g2 => ?_) (by rw [List.size_toArray, r1.length]; exact Nat.le_of_lt hz)
  have ma := List.mem_of_getElem? el
  have k : SeqStay ρ s.heap h' := fun b o p nb _ => ⟨o.slots, (hs.2 b fun q => nb (q ▸ ma)).trans p⟩
  have o' : OR prog w ρ h' _ (.list (vs ++ [x])) := ⟨cvs ++ [cx], m + 1, by rw [g2]; simp, by simp; (first | lia | omega), (r1.mono k (.refl _ _)).append (.cons (rx.mono k (.refl _ _)) .nil)⟩
  exact ⟨_, _, rfl, .none, I.upd hs el o', FI.ext hs el o', .refl _ _, rfl, rfl⟩

theorem wpAny_setItem_listE {l : Addr} {cvs : List Value} {n : Nat} {k : Int} {u : Tok} {v : Value} {Q : Unit → Shared → Prop} {E : Value → Shared → Prop} (hg : s.heap.get? l = some { cls := .type "list", data := .seq cvs.toArray n })
    (h0 : 0 ≤ k) (hfit : k < 2 ^ 63) (hn : k < cvs.length)
    (hQ : ∀ h', h'.get? l = some { cls := .type "list", data := .seq (cvs.set k.toNat v).toArray n } → Heap.SameBut l s.heap h' → Q () { s with heap := h' }) :
    wpAny (model prog w) A (setItem (.ref l) (.int k u) v) Q E s := by
  have hl : s.heap.IsList l cvs.toArray := ⟨_, hg, rfl, _, rfl⟩
  unfold setItem
  try with_reducible refine wpAny_holding ?_
  first | refine wpAny_bind (wpAny_pure ?_) | skip
  refine wpAny_bind (wpAny_sequenceKey hl.typeIs (by decide) ?_)
  refine wpAny_bind (wpAny_callSpecial?_slot (name := Str.ofString "__setitem__") hl.typeIs slot_list_setitem
    (wpAny_call_entry slot_list_setitem hl.typeIs entry_list_setitem ?_ (args_list_setitem _ _ _)))
  show wpAny _ _ (Builtin.List.listSubscript? (.int k u) >>= _) _ _ s
  refine wpAny_bind (wpAny_listSubscript_int (fitsIndex_of h0 hfit) ?_)
  clear hfit
  obtain ⟨j, rfl⟩ := Int.eq_ofNat_of_zero_le h0
  have hj : j < cvs.length := by (first | lia | omega)
  have hx' : cvs.toArray[j]? = some cvs[j] := by simp [hj]
  show wpAny _ _ ((seqItemAt l j >>= fun r => pure (r.map (j, ·))) >>= _) _ _ s
  refine wpAny_bind (wpAny_bind (wpAny_seqItemAt hg rfl (wpAny_pure ?_)))
  rw [hx']
  show wpAny _ _ (setSeqItemAt l j v >>= _) _ _ s
  have em : Obj.mapSeq (·.setIfInBounds j v) ({ cls := .type "list", data := .seq cvs.toArray n } : Obj) = { cls := .type "list", data := .seq (cvs.set j v).toArray n } := by
    simp [Obj.mapSeq]
  have hfin : (s.heap.update l (Obj.mapSeq (·.setIfInBounds j v))).get? l = some { cls := .type "list", data := .seq (cvs.set j v).toArray n } := by
    rw [Heap.get?_update_self _ hg (by rw [em]; rfl), em]
  refine wpAny_bind (wpAny_setSeqItemAt hg rfl ?_)
  first
    | exact wpAny_bind (wpAny_pure (wpAny_pure ⟨.none, rfl, wpAny_pure (hQ _ hfin (Heap.SameBut.update ..))⟩))
    | exact wpAny_pure ⟨.none, rfl, wpAny_pure (hQ _ hfin (Heap.SameBut.update ..))⟩

theorem put_keys (x : List Nat) (v : V) : ∀ (kvs : List (List Nat × V)), (kvs.lookup x).isSome = true → (putKey kvs x v).map (fun kv => st kv.1) = kvs.map (fun kv => st kv.1) ∧ (putKey kvs x v).length = kvs.length := by
  intro kvs
  induction kvs with
  | nil => exact fun h => no2 h
  | cons kv kvs ih =>
    obtain ⟨k, u⟩ := kv
    intro h
    show (if k == x then (k, v) :: kvs else (k, u) :: putKey kvs x v).map _ = _ ∧ (if k == x then (k, v) :: kvs else (k, u) :: putKey kvs x v).length = _
    by_cases q : k = x
    · subst q; rw [if_pos (beq_self_eq_true _)]; exact ⟨rfl, rfl⟩
    · rw [if_neg (by simpa using q)]
      rw [List.lookup_cons, beq_false_of_ne fun e => q e.symm] at h
      exact ⟨congrArg (st k :: ·) (ih h).1, congrArg Nat.succ (ih h).2⟩
theorem put_vals {ρ : List Addr} {hp : Heap} {cv : Value} {x : List Nat} {v : V} (rv : VR ρ hp v cv) : ∀ (kvs : List (List Nat × V)) (ckvs : List (Str × Value)), ckvs.map (·.1) = kvs.map (fun kv => st kv.1) → (ckvs.map (·.1)).Nodup → (kvs.lookup x).isSome = true →
    VRs ρ hp (kvs.map (·.2)) (ckvs.map (·.2)) → VRs ρ hp ((putKey kvs x v).map (·.2)) ((ckvs.map fun kv => if kv.1 = st x then (kv.1, cv) else kv).map (·.2)) := by
  intro kvs
  induction kvs with
  | nil => exact fun _ _ _ h => no2 h
  | cons kv kvs ih =>
    obtain ⟨k, u⟩ := kv
    intro ckvs hk nd h r
    cases ckvs with
    | nil => exact nomatch hk
    | cons ckv ckvs =>
      obtain ⟨ck, cu⟩ := ckv
      obtain ⟨rfl, hk2⟩ := List.cons.inj hk
      obtain ⟨_, _, hq, r1, r2⟩ := r.split
      obtain ⟨rfl, rfl⟩ := List.cons.inj hq
      obtain ⟨n1, n2⟩ := List.nodup_cons.mp nd
      show VRs ρ hp ((if k == x then (k, v) :: kvs else (k, u) :: putKey kvs x v).map _) (Prod.snd (if st k = st x then (st k, cv) else (st k, cu)) :: _)
      by_cases q : k = x
      · subst q
        rw [if_pos (beq_self_eq_true _), if_pos rfl, map_store_of_not_mem ckvs (st k) cv n1]
        exact .cons rv r2
      · rw [if_neg (by simpa using q), if_neg (st_ne q)]
        rw [List.lookup_cons, beq_false_of_ne fun e => q e.symm] at h
        exact .cons r1 (ih ckvs hk2 n2 h r2)
theorem put_stored {kvs : List (List Nat × V)} {ckvs : List (Str × Value)} {x : List Nat} (cv : Value) (hk : ckvs.map (·.1) = kvs.map (fun kv => st kv.1)) (h : (kvs.lookup x).isSome = true) :
    stored ckvs (st x) cv = ckvs.map fun kv => if kv.1 = st x then (kv.1, cv) else kv := by
  unfold stored
  rw [if_pos]
  rw [List.any_eq_true]
  have : st x ∈ ckvs.map (·.1) := by
    rw [hk]
    clear hk
    induction kvs with
    | nil => simp at h
    | cons kv r ih =>
      obtain ⟨k, u⟩ := kv
      by_cases q : x = k
      · subst q; simp
      · rw [List.lookup_cons, show (x == k) = false by simpa using q] at h
        exact .tail _ (ih h)
  obtain ⟨kv, m, e⟩ := List.mem_map.mp this
  exact ⟨kv, m, by simp [e]⟩

theorem storeV_e {h h' : List O} {P : V → V → Prop} {v : V} (h1 : ∀ n k vs, h[n]? = some (.list vs) → 0 ≤ k ∧ k.toNat < vs.length → h.set n (.list (vs.set k.toNat v)) = h' → P (.ref n) (.int k))
    (h2 : ∀ n x kvs, h[n]? = some (.dict kvs) → (kvs.lookup x).isSome = true → h.set n (.dict (putKey kvs x v)) = h' → P (.ref n) (.str x)) {o k : V} (e : storeV h o k v = some h') : P o k := by
  (first | exact no o | exact no1 o | exact no2 o | exact noE o | exact noE1 o | obtain rfl := Option.some.inj o | obtain rfl := Except.ok.inj o | obtain rfl := o | cases o) <;> first | exact no e | ((first | exact no k | exact no1 k | exact no2 k | exact noE k | exact noE1 k | obtain rfl := Option.some.inj k | obtain rfl := Except.ok.inj k | obtain rfl := k | cases k) <;> first | exact no e | skip)
  · rename_i n k
    replace e : (match h[n]? with | some (.list vs) => if 0 ≤ k ∧ k.toNat < vs.length then some (h.set n (.list (vs.set k.toNat v))) else Option.none | _ => Option.none) = some h' := e
    have q := h1 n k
    generalize h[n]? = x at e q
    rcases x with _ | _ | _ <;> first | exact no e | exact ifE e fun c e => q _ rfl c (Option.some.inj e)
  · rename_i n y
    replace e : (match h[n]? with | some (.dict kvs) => if (kvs.lookup y).isSome then some (h.set n (.dict (putKey kvs y v))) else Option.none | _ => Option.none) = some h' := e
    have q := h2 n y
    generalize h[n]? = x at e q
    rcases x with _ | _ | _ <;> first | exact no e | exact ifE e fun c e => q _ rfl c (Option.some.inj e)
theorem p_setItem {o k v : V} {co ck cv : Value} {h : List O} {Q : Unit → Shared → Prop} (I : FI prog w B f ρ t s.heap) (e : storeV t.heap o k v = some h) (ro : VR ρ s.heap o co) (rk : VR ρ s.heap k ck) (rv : VR ρ s.heap v cv)
    (hQ : ∀ s', FI prog w B f ρ ⟨t.loc, h⟩ s'.heap → Gr (frs f.outer) (f.X ρ) ρ ρ s s' → Q () s') : wpAny (model prog w) f.A (setItem co ck cv) Q EE s := by
  refine storeV_e (P := fun o k => VR ρ s.heap o co → VR ρ s.heap k ck → wpAny (model prog w) f.A (setItem co ck cv) Q EE s) ?_ ?_ e ro rk <;> clear e ro rk
  · rintro n i vs h1 hi rfl ro rk
    refine ro.elim (P := fun co => wpAny _ _ (setItem co ck cv) Q EE s) ?_; refine fun a eo => rk.elim (P := fun ck => wpAny _ _ (setItem _ ck cv) Q EE s) ?_; refine fun _ => ?_
    obtain ⟨cvs, m, g1, l1, r1⟩ := I.ci.hr.obj _ _ _ h1 eo
    have lz : vs.length ≤ 16777216 := l1
    have hl := r1.length
    refine wpAny_setItem_listE (n := m) g1 hi.1 (by (first | lia | omega)) (by (first | lia | omega)) fun h' g2 hs => hQ _ ?_ ?_
    · have ma := List.mem_of_getElem? eo
      have k : SeqStay ρ s.heap h' := fun b o p nb _ => ⟨o.slots, (hs.2 b fun q => nb (q ▸ ma)).trans p⟩
      exact I.upd hs eo ⟨cvs.set i.toNat cv, m, g2, by simpa using l1, (r1.mono k (.refl _ _)).set _ (rv.mono k (.refl _ _))⟩
    · exact ⟨.sameBut hs (.tail _ (List.mem_of_getElem? eo)) ⟨_, g2⟩, .refl _ _, rfl, rfl⟩
  · rintro n x kvs h1 hk rfl ro rk
    refine ro.elim (P := fun co => wpAny _ _ (setItem co ck cv) Q EE s) ?_; refine fun a eo => rk.elim (P := fun ck => wpAny _ _ (setItem _ ck cv) Q EE s) ?_; refine fun _ _ => ?_
    obtain ⟨ckvs, d1, ⟨k1, z1, lo1⟩, r1⟩ := I.ci.hr.obj _ _ _ h1 eo
    have z2 : ckvs.length = kvs.length := by simpa using congrArg List.length k1
    have nd : (ckvs.map (·.1)).Nodup := by obtain ⟨_, _, _, _, _, _, _, _, nd⟩ := d1; exact nd
    refine wpAny_setItem_pairs (strKind_is prog w _ _) d1 (fun h' d2 hs => hQ _ ?_ ?_) (by rw [z2]; exact Nat.le_trans z1 (by decide))
    · have ma := List.mem_of_getElem? eo
      have k : SeqStay ρ s.heap h' := fun b o p nb _ => ⟨o.slots, (hs.2 b fun q => nb (q ▸ ma)).trans p⟩
      obtain ⟨p1, p2⟩ := put_keys x v kvs hk
      rw [put_stored cv k1 hk] at d2
      exact I.upd hs eo ⟨_, d2, ⟨by rw [p1, ← k1, keys_map_store], by (first | lia | omega), lo1⟩, put_vals (rv.mono k (.refl _ _)) kvs ckvs k1 nd hk (r1.mono k (.refl _ _))⟩
    · refine ⟨.sameBut hs (.tail _ (List.mem_of_getElem? eo)) ?_, .refl _ _, rfl, rfl⟩
      obtain ⟨ob, _, _, g, _⟩ := d2
      exact ⟨ob, g⟩
end
end Nt
end

section
open PySem PySem.W PyProof.Rows PySem.Calls PySem.SeqAt
set_option genSizeOf false
set_option genInjectivity false
set_option maxRecDepth 100000
set_option autoImplicit false
namespace Nt

noncomputable def fname : Nat → Str
  | 0 => "is_space" | 1 => "is_digit" | 2 => "is_alnum" | 3 => "past_spaces" | 4 => "is_word_sign" | 5 => "read_word" | 6 => "read_value" | 7 => "read_attr" | 8 => "read_simple" | 9 => "read_chain" | 10 => "read_selector"
  | 11 => "_law_draw" | 12 => "_law_word" | 13 => "_law_gap" | 14 => "_law_bracket" | 15 => "_law_part" | 16 => "_law_written" | 17 => "_law_spoiled" | 18 => "_law_valued" | 19 => "_law_loose" | 20 => "_law_kind" | 21 => "_law_take" | 22 => "_law_read" | 23 => "_law_told" | _ => "law"

theorem dt {p : Prop} [Decidable p] (h : decide p = true) : p := of_decide_eq_true h
theorem an {a b : Bool} (h : (a && b) = true) : a = true ∧ b = true := Bool.and_eq_true_iff.mp h
/-- a tree's head as a record -/
structure Hd where
  tag : Nat
  x : Str
  c : Const
  u : UnaryOp
  o : Operator
  bo : BoolOp
  cs : List CmpOp
  a : Expr
  b : Expr
  d : Expr
  l : List Expr
  ks : List (Option Expr)
  q1 : Option Expr
  q2 : Option Expr
  n : Nat
  p : Pos
noncomputable def h0 (e : Expr) : Hd := ⟨0, "", .none, .Not, .Add, .And, [], e, e, e, [], [], none, none, 0, ⟨0, 0, 0, 0⟩⟩
noncomputable def toH (e : Expr) : Hd := match e with
  | .Name x p => { h0 e with tag := 1, x, p }
  | .Constant c n p => { h0 e with tag := 2, c, n, p }
  | .UnaryOp u a p => { h0 e with tag := 3, u, a, p }
  | .BinOp a o b p => { h0 e with tag := 4, a, o, b, p }
  | .Compare a cs l p => { h0 e with tag := 5, a, cs, l, p }
  | .BoolOp bo l p => { h0 e with tag := 6, bo, l, p }
  | .Call a l [] p => { h0 e with tag := 7, a, l, p }
  | .IfExp a b d p => { h0 e with tag := 8, a, b, d, p }
  | .Tuple l n p => { h0 e with tag := 9, l, n, p }
  | .List l p => { h0 e with tag := 10, l, p }
  | .Dict ks l p => { h0 e with tag := 11, ks, l, p }
  | .Subscript a b p => { h0 e with tag := 12, a, b, p }
  | .Slice q1 q2 none p => { h0 e with tag := 13, q1, q2, p }
  | .Attribute a x p => { h0 e with tag := 14, a, x, p }
  | e => h0 e
noncomputable def Back (n : Nat) (w : Hd) (e : Expr) : Prop := match n with
  | 0 => True
  | 1 => e = .Name w.x w.p
  | 2 => e = .Constant w.c w.n w.p
  | 3 => e = .UnaryOp w.u w.a w.p
  | 4 => e = .BinOp w.a w.o w.b w.p
  | 5 => e = .Compare w.a w.cs w.l w.p
  | 6 => e = .BoolOp w.bo w.l w.p
  | 7 => e = .Call w.a w.l [] w.p
  | 8 => e = .IfExp w.a w.b w.d w.p
  | 9 => e = .Tuple w.l w.n w.p
  | 10 => e = .List w.l w.p
  | 11 => e = .Dict w.ks w.l w.p
  | 12 => e = .Subscript w.a w.b w.p
  | 13 => e = .Slice w.q1 w.q2 none w.p
  | 14 => e = .Attribute w.a w.x w.p
  | _ => True
theorem back (e : Expr) : Back (toH e).tag (toH e) e := by
  (first | exact no e | exact no1 e | exact no2 e | exact noE e | exact noE1 e | obtain rfl := Option.some.inj e | obtain rfl := Except.ok.inj e | obtain rfl := e | cases e) <;> first | exact rfl | exact True.intro | skip
  · rename_i x _; (first | exact no x | exact no1 x | exact no2 x | exact noE x | exact noE1 x | obtain rfl := Option.some.inj x | obtain rfl := Except.ok.inj x | obtain rfl := x | cases x) <;> first | exact rfl | exact True.intro
  · rename_i x _; (first | exact no x | exact no1 x | exact no2 x | exact noE x | exact noE1 x | obtain rfl := Option.some.inj x | obtain rfl := Except.ok.inj x | obtain rfl := x | cases x) <;> first | exact rfl | exact True.intro
noncomputable def tagIs (e : Expr) (n : Nat) : Bool := (toH e).tag == n
theorem backAt {e : Expr} {n : Nat} (h : tagIs e n = true) : Back n (toH e) e := eq_of_beq h ▸ back e
noncomputable def isNS (e : Expr) : Bool := tagIs e 1 || tagIs e 12
noncomputable def isN (e : Expr) : Bool := tagIs e 1
theorem isN_i {e : Expr} (h : isN e = true) : ∃ x p, e = .Name x p := ⟨_, _, backAt h⟩
theorem isNS_i {e : Expr} (h : isNS e = true) : (∃ x p, e = .Name x p) ∨ ∃ a b p, e = .Subscript a b p := (Bool.or_eq_true_iff.mp h).elim (fun h => .inl ⟨_, _, backAt h⟩) fun h => .inr ⟨_, _, _, backAt h⟩
noncomputable def onName (e : Expr) (k : Str → Bool) : Bool := tagIs e 1 && k (toH e).x
noncomputable def onConst (e : Expr) (k : Const → Bool) : Bool := tagIs e 2 && k (toH e).c
noncomputable def onUn (e : Expr) (k : UnaryOp → Expr → Bool) : Bool := tagIs e 3 && k (toH e).u (toH e).a
noncomputable def onBin (e : Expr) (k : Expr → Operator → Expr → Bool) : Bool := tagIs e 4 && k (toH e).a (toH e).o (toH e).b
noncomputable def onCmp (e : Expr) (k : Expr → List CmpOp → List Expr → Bool) : Bool := tagIs e 5 && k (toH e).a (toH e).cs (toH e).l
noncomputable def onBool (e : Expr) (k : BoolOp → List Expr → Pos → Bool) : Bool := tagIs e 6 && k (toH e).bo (toH e).l (toH e).p
noncomputable def onIf (e : Expr) (k : Expr → Expr → Expr → Bool) : Bool := tagIs e 8 && k (toH e).a (toH e).b (toH e).d
noncomputable def onTup (e : Expr) (k : List Expr → Bool) : Bool := tagIs e 9 && k (toH e).l
noncomputable def onList (e : Expr) (k : List Expr → Bool) : Bool := tagIs e 10 && k (toH e).l
noncomputable def onDict (e : Expr) (k : List (Option Expr) → List Expr → Bool) : Bool := tagIs e 11 && k (toH e).ks (toH e).l
noncomputable def onCall (e : Expr) (k : Expr → List Expr → Pos → Bool) : Bool := tagIs e 7 && k (toH e).a (toH e).l (toH e).p
noncomputable def onSub (e : Expr) (k : Expr → Expr → Bool) : Bool := tagIs e 12 && k (toH e).a (toH e).b
noncomputable def onSlice (e : Expr) (k : Option Expr → Option Expr → Bool) : Bool := tagIs e 13 && k (toH e).q1 (toH e).q2
noncomputable def onAttr (e : Expr) (k : Expr → Str → Pos → Bool) : Bool := tagIs e 14 && k (toH e).a (toH e).x (toH e).p
theorem onName_i {e : Expr} {k : Str → Bool} (h : onName e k = true) : ∃ x p, e = .Name x p ∧ k x = true := ⟨_, _, backAt (an h).1, (an h).2⟩
theorem onName_e {P : Expr → Prop} {e : Expr} {k : Str → Bool} (h : onName e k = true) (q : ∀ x p, k x = true → P (.Name x p)) : P e := Eq.subst (motive := P) (Eq.symm (backAt (an h).1)) (q _ _ (an h).2)
theorem onConst_i {e : Expr} {k : Const → Bool} (h : onConst e k = true) : ∃ c n p, e = .Constant c n p ∧ k c = true := ⟨_, _, _, backAt (an h).1, (an h).2⟩
theorem onConst_e {P : Expr → Prop} {e : Expr} {k : Const → Bool} (h : onConst e k = true) (q : ∀ c n p, k c = true → P (.Constant c n p)) : P e := Eq.subst (motive := P) (Eq.symm (backAt (an h).1)) (q _ _ _ (an h).2)
theorem onUn_i {e : Expr} {k : UnaryOp → Expr → Bool} (h : onUn e k = true) : ∃ o a p, e = .UnaryOp o a p ∧ k o a = true := ⟨_, _, _, backAt (an h).1, (an h).2⟩
theorem onUn_e {P : Expr → Prop} {e : Expr} {k : UnaryOp → Expr → Bool} (h : onUn e k = true) (q : ∀ o a p, k o a = true → P (.UnaryOp o a p)) : P e := Eq.subst (motive := P) (Eq.symm (backAt (an h).1)) (q _ _ _ (an h).2)
theorem onBin_i {e : Expr} {k : Expr → Operator → Expr → Bool} (h : onBin e k = true) : ∃ a o b p, e = .BinOp a o b p ∧ k a o b = true := ⟨_, _, _, _, backAt (an h).1, (an h).2⟩
theorem onBin_e {P : Expr → Prop} {e : Expr} {k : Expr → Operator → Expr → Bool} (h : onBin e k = true) (q : ∀ a o b p, k a o b = true → P (.BinOp a o b p)) : P e := Eq.subst (motive := P) (Eq.symm (backAt (an h).1)) (q _ _ _ _ (an h).2)
theorem onCmp_i {e : Expr} {k : Expr → List CmpOp → List Expr → Bool} (h : onCmp e k = true) : ∃ a o b p, e = .Compare a o b p ∧ k a o b = true := ⟨_, _, _, _, backAt (an h).1, (an h).2⟩
theorem onCmp_e {P : Expr → Prop} {e : Expr} {k : Expr → List CmpOp → List Expr → Bool} (h : onCmp e k = true) (q : ∀ a o b p, k a o b = true → P (.Compare a o b p)) : P e := Eq.subst (motive := P) (Eq.symm (backAt (an h).1)) (q _ _ _ _ (an h).2)
theorem onBool_i {e : Expr} {k : BoolOp → List Expr → Pos → Bool} (h : onBool e k = true) : ∃ o l p, e = .BoolOp o l p ∧ k o l p = true := ⟨_, _, _, backAt (an h).1, (an h).2⟩
theorem onBool_e {P : Expr → Prop} {e : Expr} {k : BoolOp → List Expr → Pos → Bool} (h : onBool e k = true) (q : ∀ o l p, k o l p = true → P (.BoolOp o l p)) : P e := Eq.subst (motive := P) (Eq.symm (backAt (an h).1)) (q _ _ _ (an h).2)
theorem onIf_i {e : Expr} {k : Expr → Expr → Expr → Bool} (h : onIf e k = true) : ∃ x y z p, e = .IfExp x y z p ∧ k x y z = true := ⟨_, _, _, _, backAt (an h).1, (an h).2⟩
theorem onIf_e {P : Expr → Prop} {e : Expr} {k : Expr → Expr → Expr → Bool} (h : onIf e k = true) (q : ∀ x y z p, k x y z = true → P (.IfExp x y z p)) : P e := Eq.subst (motive := P) (Eq.symm (backAt (an h).1)) (q _ _ _ _ (an h).2)
theorem onTup_i {e : Expr} {k : List Expr → Bool} (h : onTup e k = true) : ∃ l n p, e = .Tuple l n p ∧ k l = true := ⟨_, _, _, backAt (an h).1, (an h).2⟩
theorem onTup_e {P : Expr → Prop} {e : Expr} {k : List Expr → Bool} (h : onTup e k = true) (q : ∀ l n p, k l = true → P (.Tuple l n p)) : P e := Eq.subst (motive := P) (Eq.symm (backAt (an h).1)) (q _ _ _ (an h).2)
theorem onList_i {e : Expr} {k : List Expr → Bool} (h : onList e k = true) : ∃ l p, e = .List l p ∧ k l = true := ⟨_, _, backAt (an h).1, (an h).2⟩
theorem onList_e {P : Expr → Prop} {e : Expr} {k : List Expr → Bool} (h : onList e k = true) (q : ∀ l p, k l = true → P (.List l p)) : P e := Eq.subst (motive := P) (Eq.symm (backAt (an h).1)) (q _ _ (an h).2)
theorem onDict_i {e : Expr} {k : List (Option Expr) → List Expr → Bool} (h : onDict e k = true) : ∃ a b p, e = .Dict a b p ∧ k a b = true := ⟨_, _, _, backAt (an h).1, (an h).2⟩
theorem onDict_e {P : Expr → Prop} {e : Expr} {k : List (Option Expr) → List Expr → Bool} (h : onDict e k = true) (q : ∀ a b p, k a b = true → P (.Dict a b p)) : P e := Eq.subst (motive := P) (Eq.symm (backAt (an h).1)) (q _ _ _ (an h).2)
theorem onCall_i {e : Expr} {k : Expr → List Expr → Pos → Bool} (h : onCall e k = true) : ∃ g as p, e = .Call g as [] p ∧ k g as p = true := ⟨_, _, _, backAt (an h).1, (an h).2⟩
theorem onCall_e {P : Expr → Prop} {e : Expr} {k : Expr → List Expr → Pos → Bool} (h : onCall e k = true) (q : ∀ g as p, k g as p = true → P (.Call g as [] p)) : P e := Eq.subst (motive := P) (Eq.symm (backAt (an h).1)) (q _ _ _ (an h).2)
theorem onSub_i {e : Expr} {k : Expr → Expr → Bool} (h : onSub e k = true) : ∃ a b p, e = .Subscript a b p ∧ k a b = true := ⟨_, _, _, backAt (an h).1, (an h).2⟩
theorem onSub_e {P : Expr → Prop} {e : Expr} {k : Expr → Expr → Bool} (h : onSub e k = true) (q : ∀ a b p, k a b = true → P (.Subscript a b p)) : P e := Eq.subst (motive := P) (Eq.symm (backAt (an h).1)) (q _ _ _ (an h).2)
theorem onSlice_i {e : Expr} {k : Option Expr → Option Expr → Bool} (h : onSlice e k = true) : ∃ a b p, e = .Slice a b none p ∧ k a b = true := ⟨_, _, _, backAt (an h).1, (an h).2⟩
theorem onSlice_e {P : Expr → Prop} {e : Expr} {k : Option Expr → Option Expr → Bool} (h : onSlice e k = true) (q : ∀ a b p, k a b = true → P (.Slice a b none p)) : P e := Eq.subst (motive := P) (Eq.symm (backAt (an h).1)) (q _ _ _ (an h).2)
theorem onAttr_i {e : Expr} {k : Expr → Str → Pos → Bool} (h : onAttr e k = true) : ∃ o x p, e = .Attribute o x p ∧ k o x p = true := ⟨_, _, _, backAt (an h).1, (an h).2⟩
theorem onAttr_e {P : Expr → Prop} {e : Expr} {k : Expr → Str → Pos → Bool} (h : onAttr e k = true) (q : ∀ o x p, k o x p = true → P (.Attribute o x p)) : P e := Eq.subst (motive := P) (Eq.symm (backAt (an h).1)) (q _ _ _ (an h).2)
noncomputable def onCB (c : Const) (k : Bool → Bool) : Bool := match c with
  | .bool b => k b
  | _ => false
noncomputable def onCI (c : Const) (k : Int → Bool) : Bool := match c with
  | .int b => k b
  | _ => false
noncomputable def onCS (c : Const) (k : Str → Bool) : Bool := match c with
  | .str b => k b
  | _ => false
noncomputable def on1 {α : Type} (l : List α) (k : α → Bool) : Bool := match l with
  | [x] => k x
  | _ => false
noncomputable def onC {α : Type} (l : List α) (k : α → List α → Bool) : Bool := match l with
  | x :: r => k x r
  | [] => false
noncomputable def onO {α : Type} (l : Option α) (k : α → Bool) : Bool := match l with
  | some x => k x
  | none => false
theorem onCB_e {P : Const → Prop} {c : Const} {k : Bool → Bool} (h : onCB c k = true) (q : ∀ b, k b = true → P (.bool b)) : P c := by (first | exact no c | exact no1 c | exact no2 c | exact noE c | exact noE1 c | obtain rfl := Option.some.inj c | obtain rfl := Except.ok.inj c | obtain rfl := c | cases c) <;> first | exact no2 h | exact q _ h
theorem onCI_e {P : Const → Prop} {c : Const} {k : Int → Bool} (h : onCI c k = true) (q : ∀ b, k b = true → P (.int b)) : P c := by (first | exact no c | exact no1 c | exact no2 c | exact noE c | exact noE1 c | obtain rfl := Option.some.inj c | obtain rfl := Except.ok.inj c | obtain rfl := c | cases c) <;> first | exact no2 h | exact q _ h
theorem onCS_e {P : Const → Prop} {c : Const} {k : Str → Bool} (h : onCS c k = true) (q : ∀ b, k b = true → P (.str b)) : P c := by (first | exact no c | exact no1 c | exact no2 c | exact noE c | exact noE1 c | obtain rfl := Option.some.inj c | obtain rfl := Except.ok.inj c | obtain rfl := c | cases c) <;> first | exact no2 h | exact q _ h
theorem onC_e {α : Type} {P : List α → Prop} {l : List α} {k : α → List α → Bool} (h : onC l k = true) (q : ∀ x r, k x r = true → P (x :: r)) : P l := match l, h with
  | _ :: _, h => q _ _ h
  | [], h => no2 h
theorem on1_e {α : Type} {P : List α → Prop} {l : List α} {k : α → Bool} (h : on1 l k = true) (q : ∀ x, k x = true → P [x]) : P l := by
  cases l with
  | nil => exact no2 h
  | cons x r => cases r with
    | nil => exact q _ h
    | cons => exact no2 h
theorem onO_e {α : Type} {P : Option α → Prop} {l : Option α} {k : α → Bool} (h : onO l k = true) (q : ∀ x, k x = true → P (some x)) : P l := match l, h with
  | some _, h => q _ h
  | none, h => no2 h

noncomputable def chkKeys : List (List Nat) → List (Option Expr) → Bool
  | [], r => r.isEmpty
  | k :: ks, l => onC l fun o r => onO o fun e => onConst e fun c => onCS c fun x => decide (x.cps.toList = k) && (decide (k.length ≤ lim) && chkKeys ks r)
theorem st_of {x : Str} {l : List Nat} (h : x.cps.toList = l) : x = st l := by
  cases x with
  | mk cps => simp at h; rw [← h]
theorem chkKeys_e {P : List (Option Expr) → Prop} {k : List Nat} {ks : List (List Nat)} {l : List (Option Expr)} (h : chkKeys (k :: ks) l = true) (q : ∀ p q r, k.length ≤ lim → chkKeys ks r = true → P (some (.Constant (.str (st k)) p q) :: r)) : P l :=
  onC_e h fun o r h => onO_e (P := fun o => P (o :: r)) h fun e h => onConst_e (P := fun e => P (some e :: r)) h fun c n p h => onCS_e (P := fun c => P (some (.Constant c n p) :: r)) h fun x h =>
    st_of (dt (an h).1) ▸ q n p r (dt (an (an h).2).1) (an (an h).2).2
theorem chkKeys_len {ks : List (List Nat)} {l : List (Option Expr)} (h : chkKeys ks l = true) : ks.length = l.length ∧ l.all (·.isSome) = true := by
  induction ks generalizing l with
  | nil => rw [List.isEmpty_iff.mp h]; exact ⟨rfl, rfl⟩
  | cons k ks ih =>
    exact chkKeys_e (P := fun l => (k :: ks).length = l.length ∧ l.all (·.isSome) = true) h fun p q r _ h => ⟨congrArg (· + 1) (ih h).1, (ih h).2⟩
noncomputable def isG (sc : Scope) (x : Str) : Bool := decide (sc.names.lookup x = some .globalImplicit)
noncomputable def onMeth (pe : Expr) (name : Str) (k : Expr → List Expr → Bool) : Bool :=
  onCall pe fun g as p => onAttr g fun o x ap => decide (x = name) && ((ap.endLine == p.line) && (isNS o && k o as))
theorem onMeth_e {P : Expr → Prop} {e : Expr} {x : Str} {k : Expr → List Expr → Bool} (h : onMeth e x k = true) (q : ∀ o ap as p, (ap.endLine == p.line) = true → isNS o = true → k o as = true → P (.Call (.Attribute o x ap) as [] p)) : P e :=
  onCall_e h fun g as p h => onAttr_e (P := fun g => P (.Call g as [] p)) h fun o y ap h =>
    have h1 := an h
    have h2 := an h1.2
    have h3 := an h2.2
    Eq.subst (motive := fun y => P (.Call (.Attribute o y ap) as [] p)) (dt h1.1).symm (q o ap as p h2.1 h3.1 h3.2)
noncomputable def onFn (pe : Expr) (k : Str → List Expr → Bool) : Bool := onCall pe fun g as _ => onName g fun x => k x as
theorem onFn_e {P : Expr → Prop} {e : Expr} {k : Str → List Expr → Bool} (h : onFn e k = true) (q : ∀ x np as p, k x as = true → P (.Call (.Name x np) as [] p)) : P e :=
  onCall_e h fun g as p h => onName_e (P := fun g => P (.Call g as [] p)) h fun x np h => q x np as p h
noncomputable def onBB (pe : Expr) (op : BoolOp) (k : Expr → Expr → Bool) : Bool :=
  onBool pe fun o l p => decide (o = op) && onC l fun x l => onC l fun y r => k x (match r with | [] => y | z :: r => .BoolOp op (y :: z :: r) p)
theorem onBB_e {P : Expr → Prop} {pe : Expr} {op : BoolOp} {k : Expr → Expr → Bool} (h : onBB pe op k = true) (q1 : ∀ x y p, k x y = true → P (.BoolOp op [x, y] p)) (q2 : ∀ x y z r p, k x (.BoolOp op (y :: z :: r) p) = true → P (.BoolOp op (x :: y :: z :: r) p)) : P pe :=
  onBool_e h fun o l p h => Eq.subst (motive := fun o => P (.BoolOp o l p)) (dt (an h).1).symm
    (onC_e (P := fun l => P (.BoolOp op l p)) (an h).2 fun x l h => onC_e (P := fun l => P (.BoolOp op (x :: l) p)) h fun y r h => match r, h with
      | [], h => q1 x y p h
      | _ :: _, h => q2 x y _ _ p h)

mutual
noncomputable def chkE (sc : Scope) (nm : List Str) : E → Expr → Bool
  | .loc i, pe => onName pe fun x => decide (nm[i]? = some x) && (decide (sc.names.lookup x = some .local) && (x == ("__debug__" : Str)) == false)
  | .none, pe => onConst pe fun c => decide (c = .none)
  | .bool b, pe => onConst pe fun c => onCB c fun x => decide (b = x)
  | .int i, pe => onConst pe fun c => onCI c fun j => decide (j = (i : Int))
  | .neg i, pe => onUn pe fun o e => decide (o = .USub) && onConst e fun c => onCI c fun j => decide (j = (i : Int))
  | .str s, pe => onConst pe fun c => onCS c fun x => decide (x.cps.toList = s) && decide (s.length ≤ lim)
  | .op o a b, pe => onBin pe fun l op r => decide (op = opOf o) && (chkE sc nm a l && chkE sc nm b r)
  | .cmp c a b, pe => onCmp pe fun l ops rs => on1 rs fun r => decide (ops = [cmpOf c]) && (behindInMarks (cmpOf c) r == false && (chkE sc nm a l && chkE sc nm b r))
  | .between a b c, pe => onCmp pe fun l ops rs => onC rs fun m rs => on1 rs fun r => decide (ops = [.LtE, .LtE]) && (lastMarks [.LtE, .LtE] [m, r] == false && (chkE sc nm a l && (chkE sc nm b m && chkE sc nm c r)))
  | .and a b, pe => onBB pe .And fun x y => chkE sc nm a x && chkE sc nm b y
  | .or a b, pe => onBB pe .Or fun x y => chkE sc nm a x && chkE sc nm b y
  | .ifx c a b, pe => onIf pe fun x y z => chkE sc nm c x && (chkE sc nm a y && chkE sc nm b z)
  | .nil, _ => false
  | .cons _ _, _ => false
  | .tup es, pe => onTup pe fun elts => chkEs sc nm es elts && decide (elts.length ≤ 100)
  | .list es, pe => onList pe fun elts => chkEs sc nm es elts && decide (elts.length ≤ 100)
  | .flist es, pe => onList pe fun elts => chkEs sc nm es elts && decide (elts.length ≤ 100)
  | .dict ks es, pe => onDict pe fun keys vals => chkKeys ks keys && (chkEs sc nm es vals && (decide (keys.length = vals.length) && (decide (keys.length ≤ 15) && (decide (ks ≠ []) && decide ks.Nodup))))
  | .call f es, pe => onFn pe fun x as => onC as fun a0 args => decide (x = fname f) && (decide (f < 25) && (isG sc x && chkEs sc nm es (a0 :: args)))
  | .len a, pe => onFn pe fun x as => on1 as fun e => decide (x = ("len" : Str)) && (isG sc x && chkE sc nm a e)
  | .ord a, pe => onFn pe fun x as => on1 as fun e => decide (x = ("ord" : Str)) && (isG sc x && chkE sc nm a e)
  | .idx a i, pe => onSub pe fun v sl => chkE sc nm a v && chkE sc nm i sl
  | .slice a lo hi, pe => onSub pe fun v sl => onSlice sl fun l u => onO l fun l => onO u fun u => isN v && (chkE sc nm a v && (chkE sc nm lo l && chkE sc nm hi u))
  | .sliceFrom a lo, pe => onSub pe fun v sl => onSlice sl fun l u => onO l fun l => u.isNone && (isN v && (chkE sc nm a v && chkE sc nm lo l))
  | .sliceTo a hi, pe => onSub pe fun v sl => onSlice sl fun l u => onO u fun u => l.isNone && (isN v && (chkE sc nm a v && chkE sc nm hi u))
  | .append a x, pe => onMeth pe "append" fun o as => on1 as fun e => chkE sc nm a o && chkE sc nm x e
  | .pop a, pe => onMeth pe "pop" fun o as => as.isEmpty && chkE sc nm a o
  | .endswith a x, pe => onMeth pe "endswith" fun o as => on1 as fun e => chkE sc nm a o && chkE sc nm x e
  | .replace a x y, pe => onMeth pe "replace" fun o as => onC as fun e1 as => on1 as fun e2 => onConst e1 fun c1 => onCS c1 fun u => onConst e2 fun c2 => onCS c2 fun v => chkE sc nm a o && (decide (u.cps.toList = x) && decide (v.cps.toList = y))
noncomputable def chkEs (sc : Scope) (nm : List Str) : E → List Expr → Bool
  | .nil, pes => pes.isEmpty
  | .cons a b, pes => onC pes fun e r => chkE sc nm a e && chkEs sc nm b r
  | .loc _, _ => false
  | .none, _ => false
  | .bool _, _ => false
  | .int _, _ => false
  | .neg _, _ => false
  | .str _, _ => false
  | .op _ _ _, _ => false
  | .cmp _ _ _, _ => false
  | .between _ _ _, _ => false
  | .and _ _, _ => false
  | .or _ _, _ => false
  | .ifx _ _ _, _ => false
  | .tup _, _ => false
  | .list _, _ => false
  | .flist _, _ => false
  | .dict _ _, _ => false
  | .call _ _, _ => false
  | .len _, _ => false
  | .ord _, _ => false
  | .idx _ _, _ => false
  | .slice _ _ _, _ => false
  | .sliceFrom _ _, _ => false
  | .sliceTo _ _, _ => false
  | .append _ _, _ => false
  | .pop _, _ => false
  | .endswith _ _, _ => false
  | .replace _ _ _, _ => false
end
theorem no_t {P : Prop} {b : Bool} (h : b = true) (e : b = false) : P := by rw [e] at h; (first | exact no h | exact no1 h | exact no2 h | exact noE h | exact noE1 h | obtain rfl := Option.some.inj h | obtain rfl := Except.ok.inj h | obtain rfl := h | cases h)
theorem chkEs_e {P : E → List Expr → Prop} {sc : Scope} {nm : List Str} {es : E} {pes : List Expr} (h : chkEs sc nm es pes = true) (h1 : P .nil []) (h2 : ∀ a b e r, chkE sc nm a e = true → chkEs sc nm b r = true → P (.cons a b) (e :: r)) : P es pes := by
  (first | exact no es | exact no1 es | exact no2 es | exact noE es | exact noE1 es | obtain rfl := Option.some.inj es | obtain rfl := Except.ok.inj es | obtain rfl := es | cases es) <;> first | exact no2 h | skip
  · cases pes with
    | nil => exact h1
    | cons => exact no2 h
  · cases pes with
    | nil => exact no2 h
    | cons e r => exact h2 _ _ _ _ (an h).1 (an h).2

theorem chkEs_hd {sc : Scope} {nm : List Str} {es : E} {e : Expr} {r : List Expr} (h : chkEs sc nm es (e :: r) = true) : ∃ a, chkE sc nm a e = true :=
  chkEs_e (P := fun es pes => pes = e :: r → ∃ a, chkE sc nm a e = true) h nofun (fun _ _ _ _ h1 _ q => ⟨_, (List.cons.inj q).1 ▸ h1⟩) rfl
/-- what the text's top has laid, as far as the law's call asks it -/
structure Top0 (prog : Program) (w : World) (B : Heap) (fn : Nat → Addr) (CM : Addr) : Prop where
  names : ∃ mg mb, B.Ns mainGlobals mg ∧ B.Ns builtinsNs mb ∧ (∀ i, i < 25 → mg (fname i) = some (.ref (fn i))) ∧ (mg ("len" : Str) = none ∧ mb ("len" : Str) = some (.builtin "len")) ∧ (mg ("ord" : Str) = none ∧ mb ("ord" : Str) = some (.builtin "ord")) ∧
    (mg ("range" : Str) = none ∧ mb ("range" : Str) = some (.type "range")) ∧ mg ("Misused" : Str) = some (.ref CM)
  mods : ∃ a o, B.get? a = some o ∧ sysModules < a
  fun_ : ∀ i, i < 25 → ∃ o fd, B.get? (fn i) = some o ∧ o.data = .func fd

/-- an exception with its trace, the trace's flight as told -/
inductive ExcAt (CM : Addr) (hs h : Heap) (e : Addr) (x : List Nat) (fl : Value) : Prop
  | mk (oe : Obj) (vs : Array Value) (dx : Addr) (od : Obj) : h.get? e = some oe → oe.cls = .ref CM → oe.dict = some dx → oe.data = .fields vs → hs.get? e = none → h.get? dx = some od → WhyObj od x → hs.get? dx = none →
    ∀ (T : Addr) (oT : Obj) (ts : Array Value), vs[1]? = some (.ref T) → T ≠ e → hs.get? T = none → h.get? T = some oT → oT.data = .fields ts → ts[3]? = some fl → ExcAt CM hs h e x fl

/-- an exception as it leaves a frame -/
noncomputable abbrev ExcOut (CM : Addr) (hs h : Heap) (e : Addr) (x : List Nat) : Prop := ExcAt CM hs h e x .none
theorem ExcOut.in {CM : Addr} {hs h : Heap} {e : Addr} {x : List Nat} (q : ExcOut CM hs h e x) (L : Addr) : ExcIn CM L hs h e x := by
  obtain ⟨oe, vs, dx, od, h1, h2, h3, h4, h5, h6, h7, h8, T, oT, ts, a, b, c, d, e, g⟩ := q
  exact ⟨oe, vs, dx, od, h1, h2, h3, h4, h5, h6, h7, h8, .inr ⟨T, oT, ts, a, b, c, d, e, .inl g⟩⟩

/-- a call does what the small language says -/
noncomputable def CallsOk (prog : Program) (w : World) (B : Heap) (fn : Nat → Addr) (CM : Addr) (C : Calls) (n : Nat) : Prop :=
  ∀ (i : Nat) (args : List V) (σ : List O) (r : Except (List Nat) V) (σ' : List O), C i args σ = some (r, σ') →
  ∀ (A : Around) (outer : List Env) (ρ : List Addr) (s : Shared) (cargs : List Value) (R : Result → Shared → Prop),
    A.frames = some outer → A.handled = none → A.depth + n < recursionLimit → A.units + 3 * n + 100 < cLine → 1 ≤ s.toks → CI prog w B outer ρ σ s.heap → VRs ρ s.heap args cargs →
    (∀ v c s' ρ', r = .ok v → VR ρ' s'.heap v c → CI prog w B outer ρ' σ' s'.heap → Gr (frs outer) ρ ρ ρ' s s' → R (.ok (.ret c)) s') →
    (∀ x e s' ρ', r = .error x → ExcOut CM s.heap s'.heap e x → CI prog w B outer ρ' σ' s'.heap → Gr (frs outer) ρ ρ ρ' s s' → R (.error (.ref e)) s') →
    codeAny (model prog w) A (.call (.ref (fn i)) ⟨cargs, []⟩) R s

section
variable {prog : Program} {w : World} {B : Heap} {fn : Nat → Addr} {CM : Addr} {f : Fm} {ρ : List Addr} {t : St} {s : Shared} {C : Calls} {n : Nat}

theorem chk_starred {sc : Scope} {nm : List Str} {e : E} {v : Expr} {p : Pos} : chkE sc nm e (.Starred v p) = false := by (first | exact no e | exact no1 e | exact no2 e | exact noE e | exact noE1 e | obtain rfl := Option.some.inj e | obtain rfl := Except.ok.inj e | obtain rfl := e | cases e) <;> rfl
noncomputable def StarP (rest : List Expr) (env : Env) (pe : Expr) : Prop := starEach (pe :: rest) env = (false, eval pe env) :: starEach rest env
theorem chk_star {sc : Scope} {nm : List Str} {e : E} {pe : Expr} (h : chkE sc nm e pe = true) (rest : List Expr) (env : Env) : starEach (pe :: rest) env = (false, eval pe env) :: starEach rest env := by
  show StarP rest env pe
  (first | exact no pe | exact no1 pe | exact no2 pe | exact noE pe | exact noE1 pe | obtain rfl := Option.some.inj pe | obtain rfl := Except.ok.inj pe | obtain rfl := pe | cases pe) <;> first | exact rfl | exact no_t h chk_starred
theorem chks_plain {sc : Scope} {nm : List Str} {env : Env} {pos : Pos} {es : E} {pes : List Expr} (h : chkEs sc nm es pes = true) : (backTo pos (starEach pes env)).any (·.1) = false := by
  induction pes generalizing es with
  | nil => rfl
  | cons e r ih =>
    refine chkEs_e (P := fun es pes => pes = e :: r → (backTo pos (starEach (e :: r) env)).any (·.1) = false) h nofun (fun a b e' r' h1 h2 q => ?_) rfl
    obtain ⟨rfl, rfl⟩ := List.cons.inj q
    rw [chk_star h1]
    exact ih h2

/-- the frame, seen from a call that it makes -/
theorem FI.down (I : FI prog w B f ρ t s.heap) (K : f.Ok n) : CI prog w B (f.env :: f.outer) ρ t.heap s.heap := by
  obtain ⟨m, ⟨o, es, ep, e, d, r⟩, _⟩ := I.ns
  refine ⟨I.ci.base, ⟨?_, ⟨f.L, o, rfl, I.new, e, fun vs q => by rw [d] at q; cases q⟩, I.ci.frames⟩, fun b hb => ?_, I.ci.hr⟩
  · show f.scope.kind ≠ .module
    rw [K.kind]; decide
  · rcases List.mem_cons.mp (show b ∈ f.L :: frs f.outer from hb) with q | q
    · exact q ▸ I.off
    · exact I.ci.apart b q
/-- back from a call -/
theorem FI.up {ρ' : List Addr} {σ' : List O} {s' : Shared} (I : FI prog w B f ρ t s.heap) (J : CI prog w B (f.env :: f.outer) ρ' σ' s'.heap) (g : Gr (frs (f.env :: f.outer)) ρ ρ ρ' s s') :
    FI prog w B f ρ' ⟨t.loc, σ'⟩ s'.heap ∧ Gr (frs f.outer) (f.X ρ) ρ ρ' s s' := by
  obtain ⟨m, ns, l⟩ := I.ns
  have hf : ∀ b, b ∈ frs (f.env :: f.outer) ↔ b = f.L ∨ b ∈ frs f.outer := fun b => List.mem_cons
  refine ⟨⟨⟨J.base, J.frames.2.2, fun b hb => J.apart b ((hf b).mpr (.inr hb)), J.hr⟩, ⟨m, ?_, l.stay (seqStayC g.ext) g.grows⟩, I.len, I.new, I.out, J.apart _ ((hf _).mpr (.inl rfl))⟩, ?_, g.grows, g.gens, g.os⟩
  · obtain ⟨o, es, ep, e, d, r⟩ := ns
    obtain ⟨sl, e'⟩ := g.ext.slots _ _ e I.off ((hf _).mpr (.inl rfl))
    exact ⟨_, es, ep, e', d, r⟩
  · refine ⟨fun b o e n p => g.ext.same b o e (fun q => n (.tail _ q)) fun q => ?_, fun b o e n p => g.ext.slots b o e (fun q => n (.tail _ q)) ((hf b).mpr (.inr p)), g.ext.live⟩
    rcases (hf b).mp q with q | q
    · exact n (q ▸ .head _)
    · exact p q

theorem call_frame {fa : Addr} {o : Obj} {fd : FuncData} {x : Expr} {r : List Expr} {env : Env} {pos : Pos} {Q : Value → Shared → Prop} {E : Value → Shared → Prop} {A : Around} (hB : B.get? fa = some o) (hd : o.data = .func fd)
    (hn : starEach (x :: r) env = (false, eval x env) :: starEach r env) (hp : (backTo pos (starEach (x :: r) env)).any (·.1) = false)
    (h : wpAny (model prog w) A (spliced (backTo pos (starEach (x :: r) env))) (fun vs s₁ => B.StaysIn s₁.heap ∧ wpAny (model prog w) A (call (.ref fa) vs) Q E s₁) E s) : wpAny (model prog w) A (callWith pos (.ref fa) [] (backTo pos (starEach (x :: r) env)) []) Q E s := by
  refine callWith_of (P := fun h => B.StaysIn h) (by rw [hp]; rfl) (fun h st => ⟨.frame, .inl rfl, ?_⟩) ?_
  · exact Looks.andThen (Looks.ld (part := none) (st _ _ hB)) (by rw [hd]; exact Looks.now)
  · rw [hn] at h ⊢
    exact evalArgs_plain h
end
end Nt
end

section
open PySem PySem.W PyProof.Rows PySem.Calls PySem.SeqAt
set_option genSizeOf false
set_option genInjectivity false
set_option maxRecDepth 100000
set_option autoImplicit false
namespace Nt
section
variable {prog : Program} {w : World} {B : Heap} {fn : Nat → Addr} {CM : Addr} {f : Fm} {C : Calls} {n : Nat}

noncomputable def EvOk (prog : Program) (w : World) (B : Heap) (CM : Addr) (f : Fm) (C : Calls) (e : E) (pe : Expr) : Prop :=
  ∀ (t : St) (ρ : List Addr) (s : Shared) (r : Except (List Nat) V) (t' : St), evalE C e t = some (r, t') → FI prog w B f ρ t s.heap → 1 ≤ s.toks →
    wpAny (model prog w) f.A (eval pe f.env) (PV prog w B f ρ r t' s) (PE prog w B CM f ρ r t' s) s
noncomputable def TsOk (prog : Program) (w : World) (B : Heap) (CM : Addr) (f : Fm) (C : Calls) (e : E) (pe : Expr) : Prop :=
  ∀ (t : St) (ρ : List Addr) (s : Shared) (r : Except (List Nat) V) (t' : St), evalE C e t = some (r, t') → (∀ v, r = .ok v → ∃ b, v = .bool b) → FI prog w B f ρ t s.heap → 1 ≤ s.toks →
    wpAny (model prog w) f.A (isTrue pe f.env (eval pe f.env)) (fun b s' => PV prog w B f ρ r t' s (.bool b) s') (PE prog w B CM f ρ r t' s) s
inductive PVs (prog : Program) (w : World) (B : Heap) (f : Fm) (ρ : List Addr) (r : Except (List Nat) V) (t' : St) (s : Shared) (k : Nat) (c : List Value) (s' : Shared) : Prop
  | mk (vs : List V) (ρ' : List Addr) : r = .ok (.lst vs) → VRs ρ' s'.heap vs c → FI prog w B f ρ' t' s'.heap → Gr (frs f.outer) (f.X ρ) ρ ρ' s s' → vs.length = k → PVs prog w B f ρ r t' s k c s'
noncomputable def AsOk (prog : Program) (w : World) (B : Heap) (CM : Addr) (f : Fm) (C : Calls) (e : E) (pes : List Expr) : Prop :=
  ∀ (pos : Pos) (t : St) (ρ : List Addr) (s : Shared) (r : Except (List Nat) V) (t' : St), evalE C e t = some (r, t') → FI prog w B f ρ t s.heap → 1 ≤ s.toks →
    wpAny (model prog w) f.A (spliced (backTo pos (starEach pes f.env))) (PVs prog w B f ρ r t' s pes.length) (PE prog w B CM f ρ r t' s) s
noncomputable def KvOk (prog : Program) (w : World) (B : Heap) (CM : Addr) (f : Fm) (C : Calls) (e : E) (pes : List Expr) : Prop :=
  ∀ (pos : Pos) (ks : List (List Nat)) (keys : List (Option Expr)), chkKeys ks keys = true → keys.length = pes.length → ∀ (t : St) (ρ : List Addr) (s : Shared) (r : Except (List Nat) V) (t' : St), evalE C e t = some (r, t') → FI prog w B f ρ t s.heap → 1 ≤ s.toks →
    wpAny (model prog w) f.A (evalPairs (pairTrees keys pes f.env pos)) (fun (ps : List (Value × Value)) s' => PVs prog w B f ρ r t' s pes.length (ps.map Prod.snd) s' ∧ Carries (PySem.strKind prog w) ps ((ks.map st).zip (ps.map Prod.snd))) (PE prog w B CM f ρ r t' s) s

theorem wpBack {ρ ρ₁ : List Addr} {r : Except (List Nat) V} {t' : St} {s s₁ : Shared} {tr : Sem Value} (g : Gr (frs f.outer) (f.X ρ) ρ ρ₁ s s₁) (h : wpAny (model prog w) f.A tr (PV prog w B f ρ₁ r t' s₁) (PE prog w B CM f ρ₁ r t' s₁) s₁) :
    wpAny (model prog w) f.A tr (PV prog w B f ρ r t' s) (PE prog w B CM f ρ r t' s) s₁ := wpAny_mono h (fun _ _ p => p.back g) fun _ _ p => p.back g
/-- a test and what comes behind it -/
theorem wp_bdT {α : Type} {ρ : List Addr} {s : Shared} {m : Res V} {k : V → St → Res α} {r : Except (List Nat) α} {t' : St} {tr : Sem Bool} {P : Bool → Shared → Prop} {R : Value → Shared → Prop}
    (e : bd m k = some (r, t')) (hk : ∀ v t₁, k v t₁ = some (r, t') → ∃ b, v = .bool b)
    (ih : ∀ r₁ t₁, m = some (r₁, t₁) → (∀ v, r₁ = .ok v → ∃ b, v = .bool b) → wpAny (model prog w) f.A tr (fun b s' => PV prog w B f ρ r₁ t₁ s (.bool b) s') (PE prog w B CM f ρ r₁ t₁ s) s)
    (hE : ∀ c s', PE prog w B CM f ρ r t' s c s' → R c s') (ht : 1 ≤ s.toks)
    (h : ∀ b t₁ s₁ ρ₁, 1 ≤ s₁.toks → m = some (.ok (.bool b), t₁) → k (.bool b) t₁ = some (r, t') → FI prog w B f ρ₁ t₁ s₁.heap → Gr (frs f.outer) (f.X ρ) ρ ρ₁ s s₁ → P b s₁) :
    wpAny (model prog w) f.A tr P R s := by
  match m, e, ih, h with
  | some (.ok v, t₁), e, ih, h =>
    refine wpAny_mono (wpAny_toks (ih _ _ rfl fun v' q => by (first | exact no q | exact no1 q | exact no2 q | exact noE q | exact noE1 q | obtain rfl := Option.some.inj q | obtain rfl := Except.ok.inj q | obtain rfl := q | cases q); exact hk v t₁ e)) (fun c s₁ p => ?_) fun c s₁ p => ?_ <;> obtain ⟨p, tk⟩ := p
    · obtain ⟨v', ρ', h1, h2, h3, h4⟩ := p
      (first | exact no h1 | exact no1 h1 | exact no2 h1 | exact noE h1 | exact noE1 h1 | obtain rfl := Option.some.inj h1 | obtain rfl := Except.ok.inj h1 | obtain rfl := h1 | cases h1)
      (first | exact no h2 | exact no1 h2 | exact no2 h2 | exact noE h2 | exact noE1 h2 | obtain rfl := Option.some.inj h2 | obtain rfl := Except.ok.inj h2 | obtain rfl := h2 | cases h2)
      exact h c t₁ s₁ ρ' (Nat.le_trans ht tk) rfl e h3 h4
    · obtain ⟨x, e, ρ', h1, h2, h3, h4, h5⟩ := p
      (first | exact no h2 | exact no1 h2 | exact no2 h2 | exact noE h2 | exact noE1 h2 | obtain rfl := Option.some.inj h2 | obtain rfl := Except.ok.inj h2 | obtain rfl := h2 | cases h2)
  | some (.error x, t₁), e, ih, h =>
    have e' : (some (.error x, t₁) : Res α) = some (r, t') := e
    (first | exact no e' | exact no1 e' | exact no2 e' | exact noE e' | exact noE1 e' | obtain rfl := Option.some.inj e' | obtain rfl := Except.ok.inj e' | obtain rfl := e' | cases e')
    refine wpAny_mono (ih _ _ rfl fun v q => by (first | exact no q | exact no1 q | exact no2 q | exact noE q | exact noE1 q | obtain rfl := Option.some.inj q | obtain rfl := Except.ok.inj q | obtain rfl := q | cases q)) (fun c s₁ p => ?_) fun c s₁ p => ?_
    · obtain ⟨v', ρ', h1, h2, h3, h4⟩ := p
      (first | exact no h1 | exact no1 h1 | exact no2 h1 | exact noE h1 | exact noE1 h1 | obtain rfl := Option.some.inj h1 | obtain rfl := Except.ok.inj h1 | obtain rfl := h1 | cases h1)
    · obtain ⟨x', e, ρ', h1, h2, h3, h4, h5⟩ := p
      (first | exact no h2 | exact no1 h2 | exact no2 h2 | exact noE h2 | exact noE1 h2 | obtain rfl := Option.some.inj h2 | obtain rfl := Except.ok.inj h2 | obtain rfl := h2 | cases h2)
      exact hE c s₁ ⟨x, e, ρ', h1, rfl, h3, h4, h5⟩
  | none, e, _, _ => (first | exact no e | exact no1 e | exact no2 e | exact noE e | exact noE1 e | obtain rfl := Option.some.inj e | obtain rfl := Except.ok.inj e | obtain rfl := e | cases e)

/-- a test by its value -/
theorem ts_of_ev {e : E} {pe : Expr} (h : EvOk prog w B CM f C e pe) (he : ∀ whole : Sem Value, isTrue pe f.env whole = (do let v ← whole; standAt pe.pos; holding [v] (truthy v))) : TsOk prog w B CM f C e pe := by
  intro t ρ s r t' ev hb I tk
  refine isTrue_plain (wpAny_mono (h t ρ s r t' ev I tk) (fun c s₁ p => ?_) fun _ _ p => p) (he _)
  obtain ⟨v, ρ', h1, h2, h3, h4⟩ := p
  obtain ⟨b, rfl⟩ := hb v h1
  (first | exact no h2 | exact no1 h2 | exact no2 h2 | exact noE h2 | exact noE1 h2 | obtain rfl := Option.some.inj h2 | obtain rfl := Except.ok.inj h2 | obtain rfl := h2 | cases h2)
  exact wpAny_truthy_bool ⟨_, ρ', h1, .bool b, h3, h4⟩

theorem lift_some {α : Type} {m : Option α} {t t' : St} {r : Except (List Nat) α} (e : lift m t = some (r, t')) : ∃ a, m = some a ∧ r = .ok a ∧ t' = t := by
  cases m with
  | none => (first | exact no e | exact no1 e | exact no2 e | exact noE e | exact noE1 e | obtain rfl := Option.some.inj e | obtain rfl := Except.ok.inj e | obtain rfl := e | cases e)
  | some a => (first | exact no e | exact no1 e | exact no2 e | exact noE e | exact noE1 e | obtain rfl := Option.some.inj e | obtain rfl := Except.ok.inj e | obtain rfl := e | cases e); exact ⟨a, rfl, rfl, rfl⟩
theorem ok_some {α : Type} {a : α} {t t' : St} {r : Except (List Nat) α} (e : ok a t = some (r, t')) : r = .ok a ∧ t' = t := by
  (first | exact no e | exact no1 e | exact no2 e | exact noE e | exact noE1 e | obtain rfl := Option.some.inj e | obtain rfl := Except.ok.inj e | obtain rfl := e | cases e); exact ⟨rfl, rfl⟩

theorem local_ {i : Nat} {x : Str} {v : V} {t : St} {ρ : List Addr} {s : Shared} (K : f.Ok n) (I : FI prog w B f ρ t s.heap) (hx : f.names[i]? = some x) (hv : t.loc[i]? = some (some v)) (hl : f.scope.names.lookup x = some .local)
    {Q : Value → Shared → Prop} {E : Value → Shared → Prop} (h : ∀ c, VR ρ s.heap v c → Q c s) : wpAny (model prog w) f.A (loadName f.env x) Q E s := by
  obtain ⟨m, ns, l⟩ := I.ns
  obtain ⟨c, e, r⟩ := l i x v hx hv
  exact wpAny_loadName_local K.kind hl ns e (h c r)

theorem global_ {x : Str} {p : Pos} {v : Value} {mg : Str → Option Value} {t : St} {ρ : List Addr} {s : Shared} (K : f.Ok n) (I : FI prog w B f ρ t s.heap) (hg : B.Ns mainGlobals mg) (hv : mg x = some v) (hl : f.scope.names.lookup x = some .globalImplicit)
    (hd : (x == ("__debug__" : Str)) = false) {Q : Value → Shared → Prop} {E : Value → Shared → Prop} (h : Q v s) : wpAny (model prog w) f.A (eval (.Name x p) f.env) Q E s :=
  Name_function_global K.kind hl (loadGlobal_global (env := f.env) (hg.keeps I.ci.base) hv h) hd
theorem builtin_ {x : Str} {p : Pos} {v : Value} {mg mb : Str → Option Value} {t : St} {ρ : List Addr} {s : Shared} (K : f.Ok n) (I : FI prog w B f ρ t s.heap) (hg : B.Ns mainGlobals mg) (hm : mg x = none) (hb : B.Ns builtinsNs mb) (hv : mb x = some v)
    (hl : f.scope.names.lookup x = some .globalImplicit) (hd : (x == ("__debug__" : Str)) = false) {Q : Value → Shared → Prop} {E : Value → Shared → Prop} (h : Q v s) : wpAny (model prog w) f.A (eval (.Name x p) f.env) Q E s :=
  Name_function_global K.kind hl (loadGlobal_builtin (env := f.env) (hg.keeps I.ci.base) hm (hb.keeps I.ci.base) hv h) hd
theorem fname_debug : ∀ i, i < 25 → (fname i == ("__debug__" : Str)) = false := by decide +kernel

theorem merged_new : ∀ (more acc : List (Str × Value)), ((acc ++ more).map (·.1)).Nodup → PySem.merged acc more = acc ++ more
  | [], acc, _ => by simp [PySem.merged]
  | (k, v) :: more, acc, h => by
    have hk : k ∉ acc.map (·.1) := fun m => by
      rw [List.map_append, List.map_cons] at h
      exact (List.nodup_append.mp h).2.2 k m k (.head _) rfl
    have e : stored acc k v = acc ++ [(k, v)] := by
      unfold stored
      rw [if_neg]
      intro q
      rw [List.any_eq_true] at q
      obtain ⟨kv, m, e⟩ := q
      exact hk (List.mem_map.mpr ⟨kv, m, by simpa using e⟩)
    show (more.foldl (fun acc kv => stored acc kv.1 kv.2) (stored acc k v)) = _
    rw [e]
    have := merged_new more (acc ++ [(k, v)]) (by simpa using h)
    simpa [PySem.merged] using this

theorem frs_live {outer : List Env} {h : Heap} (fr : h.FunFrames B outer) {b : Addr} (m : b ∈ frs outer) : ∃ o, h.get? b = some o := let ⟨_, o, e, _⟩ := fr.mem m; ⟨o, e⟩

theorem ev_dict (lo : ∃ a o, B.get? a = some o ∧ sysModules < a) {es : E} {ks : List (List Nat)} {keys : List (Option Expr)} {vals : List Expr} {pos : Pos} (ih : KvOk prog w B CM f C es vals)
    (hk : chkKeys ks keys = true) (hl : keys.length = vals.length) (h15 : keys.length ≤ 15) (h0 : ks ≠ []) (hnd : ks.Nodup) : EvOk prog w B CM f C (.dict ks es) (.Dict keys vals pos) := by
  intro t ρ s r t' ev I tk
  obtain ⟨kl, hall⟩ := chkKeys_len hk
  obtain ⟨m, ns, l⟩ := I.ns
  have F : Fr ({} : Heap) f.L s.heap m := ⟨ns, fun b o e => by simp [Heap.get?] at e, Nat.zero_le _⟩
  have nD : s.heap.objs.size ∉ ρ := I.ci.hr.notNew
  have nL : s.heap.objs.size ≠ f.L := Nat.ne_of_gt ns.lt
  have nΦ : s.heap.objs.size ∉ frs f.outer := fun mm => by
    obtain ⟨_, e⟩ := frs_live I.ci.frames mm
    exact absurd (Heap.lt_size e) (Nat.lt_irrefl _)
  have nB : B.get? s.heap.objs.size = none := I.ci.base.fresh
  refine Dict_made (knd := PySem.strKind prog w) F hall hl (fun q => h0 (by cases ks with | nil => rfl | cons a b => rw [q] at kl; simp at kl)) h15 fun _ => ?_
  simp only [eE_loc, eE_none, eE_bool, eE_int, eE_neg, eE_str, eE_op, eE_cmp, eE_between, eE_and, eE_or, eE_ifx, eE_nil, eE_cons, eE_tup, eE_list, eE_flist, eE_dict, eE_call, eE_len, eE_ord, eE_idx, eE_slice, eE_sliceFrom, eE_sliceTo, eE_append, eE_pop, eE_endswith, eE_replace] at ev
  generalize hm : evalE C es t = mm at ev
  match mm, hm, ev with
  | some (.error x, t₁), hm, ev =>
    (first | exact no ev | exact no1 ev | exact no2 ev | exact noE ev | exact noE1 ev | obtain rfl := Option.some.inj ev | obtain rfl := Except.ok.inj ev | obtain rfl := ev | cases ev)
    refine wpAny_mono (ih pos ks keys hk hl t ρ _ _ _ hm (I.push _) tk) (fun ps s₁ p => ?_) fun c s₁ p => ?_
    · obtain ⟨⟨vs, ρ', e1, _⟩, _⟩ := p
      (first | exact no e1 | exact no1 e1 | exact no2 e1 | exact noE e1 | exact noE1 e1 | obtain rfl := Option.some.inj e1 | obtain rfl := Except.ok.inj e1 | obtain rfl := e1 | cases e1)
    · exact PE.back (Gr.of_heap (tk := s.toks) (Ext.push _ _ _ _)) p
  | some (.ok x, t₁), hm, ev =>
    refine wpAny_mono (ih pos ks keys hk hl t ρ _ _ _ hm (I.push _) tk) (fun ps s₁ p => ?_) fun c s₁ p => ?_
    · obtain ⟨⟨vs, ρ', e1, r1, I1, g1, lz⟩, ca⟩ := p
      (first | exact no e1 | exact no1 e1 | exact no2 e1 | exact noE e1 | exact noE1 e1 | obtain rfl := Option.some.inj e1 | obtain rfl := Except.ok.inj e1 | obtain rfl := e1 | cases e1)
      have ev' : (if vs.length = ks.length then ok (.ref t₁.heap.length) ⟨t₁.loc, t₁.heap ++ [.dict (ks.zip vs)]⟩ else Option.none : Res V) = some (r, t') := ev
      rw [if_pos (by (first | lia | omega))] at ev'
      obtain ⟨rfl, rfl⟩ := ok_some ev'
      have gD : (s.heap.push { cls := .type "dict", data := .dict #[] }).get? s.heap.objs.size = some { cls := .type "dict", data := .dict #[] } := Heap.get?_push_size _ rfl
      have gD1 := g1.ext.same _ _ gD (fun q => (List.mem_cons.mp q).elim nL nD) nΦ
      have nD' : s.heap.objs.size ∉ ρ' := g1.grows.not nD gD
      have D0 : s₁.heap.DictOf (PySem.strKind prog w) s.heap.objs.size [] := by
        obtain ⟨o, es', ep, e, q⟩ := Heap.DictOf.new (knd := PySem.strKind prog w) s.heap
        rw [gD] at e; (first | exact no e | exact no1 e | exact no2 e | exact noE e | exact noE1 e | obtain rfl := Option.some.inj e | obtain rfl := Except.ok.inj e | obtain rfl := e | cases e)
        exact ⟨_, es', ep, gD1, q⟩
      refine ⟨_, ca, D0, fun h' D1 hs => ?_⟩
      have hkl : (ks.map st).length = (ps.map Prod.snd).length := by rw [List.length_map, r1.length, lz, ← hl, kl]
      have kk : ((ks.map st).zip (ps.map Prod.snd)).map (·.1) = ks.map st := by rw [List.map_fst_zip (by (first | lia | omega))]
      have vv : ((ks.map st).zip (ps.map Prod.snd)).map (·.2) = ps.map Prod.snd := by rw [List.map_snd_zip (by (first | lia | omega))]
      have nd : ((([] : List (Str × Value)) ++ (ks.map st).zip (ps.map Prod.snd)).map (·.1)).Nodup := by
        rw [List.nil_append, kk]
        refine List.Pairwise.map st (fun a b q => ?_) hnd
        simpa using q
      rw [merged_new _ _ nd, List.nil_append] at D1
      have nseq : ∃ ob, s₁.heap.get? s.heap.objs.size = some ob ∧ ∀ vs n, ob.data ≠ .seq vs n := ⟨_, gD1, fun _ _ q => by cases q⟩
      have ss : SeqStay ρ' s₁.heap h' := fun b o p _ d => ⟨o.slots, (hs.2 b (fun q => by
        subst q; rw [gD1] at p; (first | exact no p | exact no1 p | exact no2 p | exact noE p | exact noE1 p | obtain rfl := Option.some.inj p | obtain rfl := Except.ok.inj p | obtain rfl := p | cases p); obtain ⟨vs, n, d⟩ := d; (first | exact no d | exact no1 d | exact no2 d | exact noE d | exact noE1 d | obtain rfl := Option.some.inj d | obtain rfl := Except.ok.inj d | obtain rfl := d | cases d))).trans p⟩
      have ft : Fits s₁.heap ρ' (ρ' ++ [s.heap.objs.size]) := ⟨fun n b e => by rw [List.getElem?_append_left (List.getElem?_eq_some_iff.mp e).1]; exact e, fun b o p d nb mm => by
        rcases List.mem_append.mp mm with mm | mm
        · exact nb mm
        · rw [List.mem_singleton.mp mm, gD1] at p; (first | exact no p | exact no1 p | exact no2 p | exact noE p | exact noE1 p | obtain rfl := Option.some.inj p | obtain rfl := Except.ok.inj p | obtain rfl := p | cases p); obtain ⟨vs, n, d⟩ := d; cases d⟩
      have vl : ks.length = vs.length := by (first | lia | omega)
      have lo' : (s.heap.objs.size == sysModules) = false := by
        obtain ⟨b, o, q1, q2⟩ := lo
        exact beq_eq_false_iff_ne.mpr (Nat.ne_of_gt (Nat.lt_trans q2 (Heap.lt_size (I.ci.base _ _ q1))))
      have J := I1.adopt (o' := .dict (ks.zip vs)) hs nseq nD' nB nL nΦ ⟨_, D1, ⟨by
        rw [kk]
        have : (ks.zip vs).map (fun kv => st kv.1) = ((ks.zip vs).map (·.1)).map st := by simp
        rw [this, List.map_fst_zip (by (first | lia | omega))], by simp; (first | lia | omega), lo'⟩, by
        rw [vv, List.map_snd_zip (by (first | lia | omega))]
        exact r1.monoF ss ft⟩
      refine ⟨_, _, rfl, .ref ?_, J, ⟨?_, ?_, ?_, ?_⟩⟩
      · rw [← I1.ci.hr.len]; simp
      · have x1 : Ext (frs f.outer) (f.X ρ) s.heap s₁.heap := (Ext.push _ _ s.heap { cls := .type "dict", data := .dict #[] }).trans g1.ext fun _ _ _ q => q
        have ne : ∀ b o, s.heap.get? b = some o → b ≠ s.heap.objs.size := fun b o e q => absurd (Heap.lt_size e) (by rw [q]; exact Nat.lt_irrefl _)
        refine ⟨fun b o e n p => (hs.2 b (ne b o e)).trans (x1.same b o e n p), fun b o e n p => ?_, fun b o e => ?_⟩
        · obtain ⟨sl, q⟩ := x1.slots b o e n p
          exact ⟨sl, (hs.2 b (ne b o e)).trans q⟩
        · obtain ⟨o', q⟩ := x1.live b o e
          exact ⟨o', (hs.2 b (ne b o e)).trans q⟩
      · have gg : Grows s.heap ρ ρ' := (Grows.refl s.heap ρ).trans g1.grows fun b o e => ⟨o, Heap.get?_push_of_some _ e⟩
        obtain ⟨new, e1, e2⟩ := gg
        exact ⟨new ++ [s.heap.objs.size], by rw [e1]; simp, fun a mm => by
          rcases List.mem_append.mp mm with mm | mm
          · exact e2 a mm
          · rw [List.mem_singleton.mp mm]; exact none_at _⟩
      · exact g1.gens
      · exact g1.os
    · obtain ⟨x', e, ρ', h1, h2, h3, h4, h5⟩ := p
      (first | exact no h2 | exact no1 h2 | exact no2 h2 | exact noE h2 | exact noE1 h2 | obtain rfl := Option.some.inj h2 | obtain rfl := Except.ok.inj h2 | obtain rfl := h2 | cases h2)
  | none, hm, ev => (first | exact no ev | exact no1 ev | exact no2 ev | exact noE ev | exact noE1 ev | obtain rfl := Option.some.inj ev | obtain rfl := Except.ok.inj ev | obtain rfl := ev | cases ev)
end
end Nt
end

section
open PySem PySem.W PyProof.Rows PySem.Calls PySem.SeqAt
set_option genSizeOf false
set_option genInjectivity false
set_option maxRecDepth 100000
set_option autoImplicit false
namespace Nt
section
variable {prog : Program} {w : World} {B : Heap} {fn : Nat → Addr} {CM : Addr} {f : Fm} {C : Calls} {n : Nat}

/-- a value at hand -/
theorem wp_here {ρ : List Addr} {t : St} {s : Shared} {v : V} {c : Value} {r : Except (List Nat) V} {t' : St} {tk : Nat} (e : ok v t = some (r, t')) (I : FI prog w B f ρ t s.heap) (h : VR ρ s.heap v c) : PV prog w B f ρ r t' s c { s with toks := tk } := by
  obtain ⟨rfl, rfl⟩ := ok_some e
  exact pv_tok I h

theorem ev_loc {i : Nat} {x : Str} {p : Pos} (K : f.Ok n) (hx : f.names[i]? = some x) (hl : f.scope.names.lookup x = some .local) (hd : (x == ("__debug__" : Str)) = false) : EvOk prog w B CM f C (.loc i) (.Name x p) := by
  intro t ρ s r t' ev I tk
  simp only [eE_loc, eE_none, eE_bool, eE_int, eE_neg, eE_str, eE_op, eE_cmp, eE_between, eE_and, eE_or, eE_ifx, eE_nil, eE_cons, eE_tup, eE_list, eE_flist, eE_dict, eE_call, eE_len, eE_ord, eE_idx, eE_slice, eE_sliceFrom, eE_sliceTo, eE_append, eE_pop, eE_endswith, eE_replace] at ev
  split at ev
  · rename_i v hv
    exact wpAny_Name (local_ K I hx hv hl fun c rc => wp_here (tk := s.toks) ev I rc) hd
  · (first | exact no ev | exact no1 ev | exact no2 ev | exact noE ev | exact noE1 ev | obtain rfl := Option.some.inj ev | obtain rfl := Except.ok.inj ev | obtain rfl := ev | cases ev)

theorem ev_op {o : Op2} {a b : E} {l r : Expr} {p : Pos} (iha : EvOk prog w B CM f C a l) (ihb : EvOk prog w B CM f C b r) : EvOk prog w B CM f C (.op o a b) (.BinOp l (opOf o) r p) := by
  intro t ρ s rr t' ev I tk
  simp only [eE_loc, eE_none, eE_bool, eE_int, eE_neg, eE_str, eE_op, eE_cmp, eE_between, eE_and, eE_or, eE_ifx, eE_nil, eE_cons, eE_tup, eE_list, eE_flist, eE_dict, eE_call, eE_len, eE_ord, eE_idx, eE_slice, eE_sliceFrom, eE_sliceTo, eE_append, eE_pop, eE_endswith, eE_replace] at ev
  refine wpAny_BinOp (wp_bd ev (fun r₁ t₁ e => iha t ρ s r₁ t₁ e I tk) (fun _ _ p => p) tk fun x t₁ cx s₁ ρ₁ tk1 _ ev1 rx I1 g1 => ?_)
  refine wp_bd (ρ := ρ₁) ev1 (fun r₁ t₂ e => ihb t₁ ρ₁ s₁ r₁ t₂ e I1 tk1) (fun _ _ p => p.back g1) tk1 fun y t₂ cy s₂ ρ₂ tk2 _ ev2 ry I2 g2 => ?_
  obtain ⟨v, e1, rfl, rfl⟩ := lift_some ev2
  exact wpBack (g1.transF g2) (p_op I2 e1 (I1.vr g2 rx) ry)

theorem ev_cmp {c : Cmp} {a b : E} {l r : Expr} {p : Pos} (T0 : Top0 prog w B fn CM) (K : f.Ok n) (iha : EvOk prog w B CM f C a l) (ihb : EvOk prog w B CM f C b r) (hm : behindInMarks (cmpOf c) r = false) : EvOk prog w B CM f C (.cmp c a b) (.Compare l [cmpOf c] [r] p) := by
  intro t ρ s rr t' ev I tk
  simp only [eE_loc, eE_none, eE_bool, eE_int, eE_neg, eE_str, eE_op, eE_cmp, eE_between, eE_and, eE_or, eE_ifx, eE_nil, eE_cons, eE_tup, eE_list, eE_flist, eE_dict, eE_call, eE_len, eE_ord, eE_idx, eE_slice, eE_sliceFrom, eE_sliceTo, eE_append, eE_pop, eE_endswith, eE_replace] at ev
  refine wpAny_Compare1 (wp_bd ev (fun r₁ t₁ e => iha t ρ s r₁ t₁ e I tk) (fun _ _ p => p) tk fun x t₁ cx s₁ ρ₁ tk1 _ ev1 rx I1 g1 => ?_) hm
  refine wp_bd (ρ := ρ₁) ev1 (fun r₁ t₂ e => ihb t₁ ρ₁ s₁ r₁ t₂ e I1 tk1) (fun _ _ p => p.back g1) tk1 fun y t₂ cy s₂ ρ₂ tk2 _ ev2 ry I2 g2 => ?_
  obtain ⟨v, e1, rfl, rfl⟩ := lift_some ev2
  rw [Option.map_eq_some_iff] at e1
  obtain ⟨b', e2, rfl⟩ := e1
  exact wpBack (g1.transF g2) (p_cmp K T0.mods I2 e2 (I1.vr g2 rx) ry)
theorem ts_cmp {c : Cmp} {a b : E} {l r : Expr} {p : Pos} (T0 : Top0 prog w B fn CM) (K : f.Ok n) (iha : EvOk prog w B CM f C a l) (ihb : EvOk prog w B CM f C b r) (hm : behindInMarks (cmpOf c) r = false) : TsOk prog w B CM f C (.cmp c a b) (.Compare l [cmpOf c] [r] p) := by
  intro t ρ s rr t' ev _ I tk
  simp only [eE_loc, eE_none, eE_bool, eE_int, eE_neg, eE_str, eE_op, eE_cmp, eE_between, eE_and, eE_or, eE_ifx, eE_nil, eE_cons, eE_tup, eE_list, eE_flist, eE_dict, eE_call, eE_len, eE_ord, eE_idx, eE_slice, eE_sliceFrom, eE_sliceTo, eE_append, eE_pop, eE_endswith, eE_replace] at ev
  refine wpAny_isTrue_Compare1 (wp_bd ev (fun r₁ t₁ e => iha t ρ s r₁ t₁ e I tk) (fun _ _ p => p) tk fun x t₁ cx s₁ ρ₁ tk1 _ ev1 rx I1 g1 => ?_) hm
  refine wp_bd (ρ := ρ₁) ev1 (fun r₁ t₂ e => ihb t₁ ρ₁ s₁ r₁ t₂ e I1 tk1) (fun _ _ p => p.back g1) tk1 fun y t₂ cy s₂ ρ₂ tk2 _ ev2 ry I2 g2 => ?_
  obtain ⟨v, e1, rfl, rfl⟩ := lift_some ev2
  rw [Option.map_eq_some_iff] at e1
  obtain ⟨b', e2, rfl⟩ := e1
  refine wpAny_mono (wpBack (CM := CM) (g1.transF g2) (p_cmp K T0.mods I2 e2 (I1.vr g2 rx) ry)) (fun cv s₃ q => ?_) fun _ _ q => q
  obtain ⟨v, ρ', h1, h2, h3, h4⟩ := q
  (first | exact no h1 | exact no1 h1 | exact no2 h1 | exact noE h1 | exact noE1 h1 | obtain rfl := Option.some.inj h1 | obtain rfl := Except.ok.inj h1 | obtain rfl := h1 | cases h1); (first | exact no h2 | exact no1 h2 | exact no2 h2 | exact noE h2 | exact noE1 h2 | obtain rfl := Option.some.inj h2 | obtain rfl := Except.ok.inj h2 | obtain rfl := h2 | cases h2)
  exact wpAny_truthy_bool ⟨_, ρ', rfl, .bool _, h3, h4⟩

theorem ev_between {a b c : E} {l m r : Expr} {p : Pos} (T0 : Top0 prog w B fn CM) (K : f.Ok n) (iha : EvOk prog w B CM f C a l) (ihb : EvOk prog w B CM f C b m) (ihc : EvOk prog w B CM f C c r) (hm : lastMarks [.LtE, .LtE] [m, r] = false) :
    EvOk prog w B CM f C (.between a b c) (.Compare l [.LtE, .LtE] [m, r] p) := by
  intro t ρ s rr t' ev I tk
  simp only [eE_loc, eE_none, eE_bool, eE_int, eE_neg, eE_str, eE_op, eE_cmp, eE_between, eE_and, eE_or, eE_ifx, eE_nil, eE_cons, eE_tup, eE_list, eE_flist, eE_dict, eE_call, eE_len, eE_ord, eE_idx, eE_slice, eE_sliceFrom, eE_sliceTo, eE_append, eE_pop, eE_endswith, eE_replace] at ev
  refine Compare_chain (wp_bd ev (fun r₁ t₁ e => iha t ρ s r₁ t₁ e I tk) (fun _ _ p => p) tk fun x t₁ cx s₁ ρ₁ tk1 _ ev1 rx I1 g1 => ?_) hm
  refine chain_link (wp_bd (ρ := ρ₁) ev1 (fun r₁ t₂ e => ihb t₁ ρ₁ s₁ r₁ t₂ e I1 tk1) (fun _ _ p => p.back g1) tk1 fun y t₂ cy s₂ ρ₂ tk2 _ ev2 ry I2 g2 => ?_)
  cases hq : cmpV t₂.heap .le x y with
  | none => simp only [hq] at ev2; (first | exact no ev2 | exact no1 ev2 | exact no2 ev2 | exact noE ev2 | exact noE1 ev2 | obtain rfl := Option.some.inj ev2 | obtain rfl := Except.ok.inj ev2 | obtain rfl := ev2 | cases ev2)
  | some q =>
    simp only [hq] at ev2
    refine wpAny_mono (wpAny_toks (p_cmp (c := .le) K T0.mods I2 hq (I1.vr g2 rx) ry)) (fun cv s₃ qq => ?_) fun _ _ (z : False ∧ _) => z.1.elim
    obtain ⟨⟨v, ρ₃, h1, h2, I3, g3⟩, tk3⟩ := qq
    (first | exact no h1 | exact no1 h1 | exact no2 h1 | exact noE h1 | exact noE1 h1 | obtain rfl := Option.some.inj h1 | obtain rfl := Except.ok.inj h1 | obtain rfl := h1 | cases h1); (first | exact no h2 | exact no1 h2 | exact no2 h2 | exact noE h2 | exact noE1 h2 | obtain rfl := Option.some.inj h2 | obtain rfl := Except.ok.inj h2 | obtain rfl := h2 | cases h2)
    refine wpAny_truthy_bool ?_
    cases q with
    | false =>
      obtain ⟨rfl, rfl⟩ := ok_some ev2
      exact ⟨_, ρ₃, rfl, .bool _, I3, (g1.transF g2).transF g3⟩
    | true =>
      refine chain_last (wp_bd (ρ := ρ₃) ev2 (fun r₁ t₃ e => ihc t₂ ρ₃ s₃ r₁ t₃ e I3 (Nat.le_trans tk2 tk3)) (fun _ _ p => p.back ((g1.transF g2).transF g3)) (Nat.le_trans tk2 tk3) fun z t₃ cz s₄ ρ₄ tk4 _ ev3 rz I4 g4 => ?_)
      obtain ⟨v, e1, rfl, rfl⟩ := lift_some ev3
      rw [Option.map_eq_some_iff] at e1
      obtain ⟨b', e2, rfl⟩ := e1
      exact wpBack (((g1.transF g2).transF g3).transF g4) (p_cmp K T0.mods I4 e2 (I3.vr g4 (I2.vr g3 ry)) rz)
theorem ts_between {a b c : E} {l m r : Expr} {p : Pos} (T0 : Top0 prog w B fn CM) (K : f.Ok n) (iha : EvOk prog w B CM f C a l) (ihb : EvOk prog w B CM f C b m) (ihc : EvOk prog w B CM f C c r) (hm : lastMarks [.LtE, .LtE] [m, r] = false) :
    TsOk prog w B CM f C (.between a b c) (.Compare l [.LtE, .LtE] [m, r] p) := by
  intro t ρ s rr t' ev _ I tk
  simp only [eE_loc, eE_none, eE_bool, eE_int, eE_neg, eE_str, eE_op, eE_cmp, eE_between, eE_and, eE_or, eE_ifx, eE_nil, eE_cons, eE_tup, eE_list, eE_flist, eE_dict, eE_call, eE_len, eE_ord, eE_idx, eE_slice, eE_sliceFrom, eE_sliceTo, eE_append, eE_pop, eE_endswith, eE_replace] at ev
  refine isTrue_chain (wp_bd ev (fun r₁ t₁ e => iha t ρ s r₁ t₁ e I tk) (fun _ _ p => p) tk fun x t₁ cx s₁ ρ₁ tk1 _ ev1 rx I1 g1 => ?_) hm
  refine test_link (wp_bd (ρ := ρ₁) ev1 (fun r₁ t₂ e => ihb t₁ ρ₁ s₁ r₁ t₂ e I1 tk1) (fun _ _ p => p.back g1) tk1 fun y t₂ cy s₂ ρ₂ tk2 _ ev2 ry I2 g2 => ?_)
  cases hq : cmpV t₂.heap .le x y with
  | none => simp only [hq] at ev2; (first | exact no ev2 | exact no1 ev2 | exact no2 ev2 | exact noE ev2 | exact noE1 ev2 | obtain rfl := Option.some.inj ev2 | obtain rfl := Except.ok.inj ev2 | obtain rfl := ev2 | cases ev2)
  | some q =>
    simp only [hq] at ev2
    refine wpAny_mono (wpAny_toks (p_cmp (c := .le) K T0.mods I2 hq (I1.vr g2 rx) ry)) (fun cv s₃ qq => ?_) fun _ _ (z : False ∧ _) => z.1.elim
    obtain ⟨⟨v, ρ₃, h1, h2, I3, g3⟩, tk3⟩ := qq
    (first | exact no h1 | exact no1 h1 | exact no2 h1 | exact noE h1 | exact noE1 h1 | obtain rfl := Option.some.inj h1 | obtain rfl := Except.ok.inj h1 | obtain rfl := h1 | cases h1); (first | exact no h2 | exact no1 h2 | exact no2 h2 | exact noE h2 | exact noE1 h2 | obtain rfl := Option.some.inj h2 | obtain rfl := Except.ok.inj h2 | obtain rfl := h2 | cases h2)
    refine wpAny_truthy_bool ?_
    cases q with
    | false =>
      obtain ⟨rfl, rfl⟩ := ok_some ev2
      exact ⟨_, ρ₃, rfl, .bool _, I3, (g1.transF g2).transF g3⟩
    | true =>
      refine test_last (wp_bd (ρ := ρ₃) ev2 (fun r₁ t₃ e => ihc t₂ ρ₃ s₃ r₁ t₃ e I3 (Nat.le_trans tk2 tk3)) (fun _ _ p => p.back ((g1.transF g2).transF g3)) (Nat.le_trans tk2 tk3) fun z t₃ cz s₄ ρ₄ tk4 _ ev3 rz I4 g4 => ?_)
      obtain ⟨v, e1, rfl, rfl⟩ := lift_some ev3
      rw [Option.map_eq_some_iff] at e1
      obtain ⟨b', e2, rfl⟩ := e1
      refine wpAny_mono (wpBack (CM := CM) (((g1.transF g2).transF g3).transF g4) (p_cmp K T0.mods I4 e2 (I3.vr g4 (I2.vr g3 ry)) rz)) (fun cv s₃ q => ?_) fun _ _ q => q
      obtain ⟨v, ρ', h1, h2, h3, h4⟩ := q
      (first | exact no h1 | exact no1 h1 | exact no2 h1 | exact noE h1 | exact noE1 h1 | obtain rfl := Option.some.inj h1 | obtain rfl := Except.ok.inj h1 | obtain rfl := h1 | cases h1); (first | exact no h2 | exact no1 h2 | exact no2 h2 | exact noE h2 | exact noE1 h2 | obtain rfl := Option.some.inj h2 | obtain rfl := Except.ok.inj h2 | obtain rfl := h2 | cases h2)
      exact wpAny_truthy_bool ⟨_, ρ', rfl, .bool _, h3, h4⟩

theorem ev_ifx {c a b : E} {x y z : Expr} {p : Pos} (ihc : TsOk prog w B CM f C c x) (iha : EvOk prog w B CM f C a y) (ihb : EvOk prog w B CM f C b z) : EvOk prog w B CM f C (.ifx c a b) (.IfExp x y z p) := by
  intro t ρ s rr t' ev I tk
  simp only [eE_loc, eE_none, eE_bool, eE_int, eE_neg, eE_str, eE_op, eE_cmp, eE_between, eE_and, eE_or, eE_ifx, eE_nil, eE_cons, eE_tup, eE_list, eE_flist, eE_dict, eE_call, eE_len, eE_ord, eE_idx, eE_slice, eE_sliceFrom, eE_sliceTo, eE_append, eE_pop, eE_endswith, eE_replace] at ev
  refine IfExp_ (wp_bdT ev (fun v t₁ e => ?_) (fun r₁ t₁ e hb => ihc t ρ s r₁ t₁ e hb I tk) (fun _ _ p => p) tk fun b' t₁ s₁ ρ₁ tk1 _ ev1 I1 g1 => ?_)
  · (first | exact no v | exact no1 v | exact no2 v | exact noE v | exact noE1 v | obtain rfl := Option.some.inj v | obtain rfl := Except.ok.inj v | obtain rfl := v | cases v) <;> first | exact ⟨_, rfl⟩ | (first | exact no e | exact no1 e | exact no2 e | exact noE e | exact noE1 e | obtain rfl := Option.some.inj e | obtain rfl := Except.ok.inj e | obtain rfl := e | cases e)
  · cases b' with
    | true => exact wpBack g1 (iha t₁ ρ₁ s₁ rr t' ev1 I1 tk1)
    | false => exact wpBack g1 (ihb t₁ ρ₁ s₁ rr t' ev1 I1 tk1)

theorem ev_and {a b : E} {l r : Expr} {rest : List Expr} {p : Pos} (iha : EvOk prog w B CM f C a l) (ihb : EvOk prog w B CM f C b (.BoolOp .And (r :: rest) p)) : EvOk prog w B CM f C (.and a b) (.BoolOp .And (l :: r :: rest) p) := by
  intro t ρ s rr t' ev I tk
  simp only [eE_loc, eE_none, eE_bool, eE_int, eE_neg, eE_str, eE_op, eE_cmp, eE_between, eE_and, eE_or, eE_ifx, eE_nil, eE_cons, eE_tup, eE_list, eE_flist, eE_dict, eE_call, eE_len, eE_ord, eE_idx, eE_slice, eE_sliceFrom, eE_sliceTo, eE_append, eE_pop, eE_endswith, eE_replace] at ev
  refine BoolOp_and (wp_bd ev (fun r₁ t₁ e => iha t ρ s r₁ t₁ e I tk) (fun _ _ p => p) tk fun x t₁ cx s₁ ρ₁ tk1 _ ev1 rx I1 g1 => ?_)
  split at ev1
  · (first | exact no rx | exact no1 rx | exact no2 rx | exact noE rx | exact noE1 rx | obtain rfl := Option.some.inj rx | obtain rfl := Except.ok.inj rx | obtain rfl := rx | cases rx)
    exact wpAny_truthy_bool (wpBack g1 (ihb t₁ ρ₁ s₁ rr t' ev1 I1 tk1))
  · (first | exact no rx | exact no1 rx | exact no2 rx | exact noE rx | exact noE1 rx | obtain rfl := Option.some.inj rx | obtain rfl := Except.ok.inj rx | obtain rfl := rx | cases rx)
    obtain ⟨rfl, rfl⟩ := ok_some ev1
    exact wpAny_truthy_bool ⟨_, ρ₁, rfl, .bool _, I1, g1⟩
  · (first | exact no ev1 | exact no1 ev1 | exact no2 ev1 | exact noE ev1 | exact noE1 ev1 | obtain rfl := Option.some.inj ev1 | obtain rfl := Except.ok.inj ev1 | obtain rfl := ev1 | cases ev1)
theorem ev_or {a b : E} {l r : Expr} {rest : List Expr} {p : Pos} (iha : EvOk prog w B CM f C a l) (ihb : EvOk prog w B CM f C b (.BoolOp .Or (r :: rest) p)) : EvOk prog w B CM f C (.or a b) (.BoolOp .Or (l :: r :: rest) p) := by
  intro t ρ s rr t' ev I tk
  simp only [eE_loc, eE_none, eE_bool, eE_int, eE_neg, eE_str, eE_op, eE_cmp, eE_between, eE_and, eE_or, eE_ifx, eE_nil, eE_cons, eE_tup, eE_list, eE_flist, eE_dict, eE_call, eE_len, eE_ord, eE_idx, eE_slice, eE_sliceFrom, eE_sliceTo, eE_append, eE_pop, eE_endswith, eE_replace] at ev
  refine BoolOp_or (wp_bd ev (fun r₁ t₁ e => iha t ρ s r₁ t₁ e I tk) (fun _ _ p => p) tk fun x t₁ cx s₁ ρ₁ tk1 _ ev1 rx I1 g1 => ?_)
  split at ev1
  · (first | exact no rx | exact no1 rx | exact no2 rx | exact noE rx | exact noE1 rx | obtain rfl := Option.some.inj rx | obtain rfl := Except.ok.inj rx | obtain rfl := rx | cases rx)
    obtain ⟨rfl, rfl⟩ := ok_some ev1
    exact wpAny_truthy_bool ⟨_, ρ₁, rfl, .bool _, I1, g1⟩
  · (first | exact no rx | exact no1 rx | exact no2 rx | exact noE rx | exact noE1 rx | obtain rfl := Option.some.inj rx | obtain rfl := Except.ok.inj rx | obtain rfl := rx | cases rx)
    exact wpAny_truthy_bool (wpBack g1 (ihb t₁ ρ₁ s₁ rr t' ev1 I1 tk1))
  · (first | exact no ev1 | exact no1 ev1 | exact no2 ev1 | exact noE ev1 | exact noE1 ev1 | obtain rfl := Option.some.inj ev1 | obtain rfl := Except.ok.inj ev1 | obtain rfl := ev1 | cases ev1)
theorem ev_one {b : E} {op : BoolOp} {r : Expr} {p : Pos} (ih : EvOk prog w B CM f C b r) : EvOk prog w B CM f C b (.BoolOp op [r] p) := fun t ρ s rr t' ev I tk => BoolOp_one (ih t ρ s rr t' ev I tk)
/-- tests over any whole -/
noncomputable def TsAll (prog : Program) (w : World) (B : Heap) (CM : Addr) (f : Fm) (C : Calls) (e : E) (pe : Expr) : Prop :=
  ∀ (whole : Sem Value) (t : St) (ρ : List Addr) (s : Shared) (r : Except (List Nat) V) (t' : St), evalE C e t = some (r, t') → (∀ v, r = .ok v → ∃ b, v = .bool b) → FI prog w B f ρ t s.heap → 1 ≤ s.toks →
    wpAny (model prog w) f.A (isTrue pe f.env whole) (fun b s' => PV prog w B f ρ r t' s (.bool b) s') (PE prog w B CM f ρ r t' s) s
theorem ts_and {a b : E} {l r : Expr} {rest : List Expr} {p : Pos} (iha : TsOk prog w B CM f C a l) (ihb : TsAll prog w B CM f C b (.BoolOp .And (r :: rest) p)) : TsAll prog w B CM f C (.and a b) (.BoolOp .And (l :: r :: rest) p) := by
  intro whole t ρ s rr t' ev hb I tk
  simp only [eE_loc, eE_none, eE_bool, eE_int, eE_neg, eE_str, eE_op, eE_cmp, eE_between, eE_and, eE_or, eE_ifx, eE_nil, eE_cons, eE_tup, eE_list, eE_flist, eE_dict, eE_call, eE_len, eE_ord, eE_idx, eE_slice, eE_sliceFrom, eE_sliceTo, eE_append, eE_pop, eE_endswith, eE_replace] at ev
  refine isTrue_and (wp_bdT ev (fun v t₁ e => ?_) (fun r₁ t₁ e hb => iha t ρ s r₁ t₁ e hb I tk) (fun _ _ p => p) tk fun b' t₁ s₁ ρ₁ tk1 _ ev1 I1 g1 => ?_)
  · (first | exact no v | exact no1 v | exact no2 v | exact noE v | exact noE1 v | obtain rfl := Option.some.inj v | obtain rfl := Except.ok.inj v | obtain rfl := v | cases v) <;> first | exact ⟨_, rfl⟩ | (first | exact no e | exact no1 e | exact no2 e | exact noE e | exact noE1 e | obtain rfl := Option.some.inj e | obtain rfl := Except.ok.inj e | obtain rfl := e | cases e)
  · cases b' with
    | true => exact wpAny_mono (ihb whole t₁ ρ₁ s₁ rr t' ev1 hb I1 tk1) (fun _ _ p => p.back g1) fun _ _ p => p.back g1
    | false =>
      obtain ⟨rfl, rfl⟩ := ok_some ev1
      exact ⟨_, ρ₁, rfl, .bool _, I1, g1⟩
theorem ts_or {a b : E} {l r : Expr} {rest : List Expr} {p : Pos} (iha : TsOk prog w B CM f C a l) (ihb : TsAll prog w B CM f C b (.BoolOp .Or (r :: rest) p)) : TsAll prog w B CM f C (.or a b) (.BoolOp .Or (l :: r :: rest) p) := by
  intro whole t ρ s rr t' ev hb I tk
  simp only [eE_loc, eE_none, eE_bool, eE_int, eE_neg, eE_str, eE_op, eE_cmp, eE_between, eE_and, eE_or, eE_ifx, eE_nil, eE_cons, eE_tup, eE_list, eE_flist, eE_dict, eE_call, eE_len, eE_ord, eE_idx, eE_slice, eE_sliceFrom, eE_sliceTo, eE_append, eE_pop, eE_endswith, eE_replace] at ev
  refine isTrue_or (wp_bdT ev (fun v t₁ e => ?_) (fun r₁ t₁ e hb => iha t ρ s r₁ t₁ e hb I tk) (fun _ _ p => p) tk fun b' t₁ s₁ ρ₁ tk1 _ ev1 I1 g1 => ?_)
  · (first | exact no v | exact no1 v | exact no2 v | exact noE v | exact noE1 v | obtain rfl := Option.some.inj v | obtain rfl := Except.ok.inj v | obtain rfl := v | cases v) <;> first | exact ⟨_, rfl⟩ | (first | exact no e | exact no1 e | exact no2 e | exact noE e | exact noE1 e | obtain rfl := Option.some.inj e | obtain rfl := Except.ok.inj e | obtain rfl := e | cases e)
  · cases b' with
    | false => exact wpAny_mono (ihb whole t₁ ρ₁ s₁ rr t' ev1 hb I1 tk1) (fun _ _ p => p.back g1) fun _ _ p => p.back g1
    | true =>
      obtain ⟨rfl, rfl⟩ := ok_some ev1
      exact ⟨_, ρ₁, rfl, .bool _, I1, g1⟩
theorem isTrue_or_nil' {env : Env} {pos : Pos} {whole : Sem Value} {Q : Bool → Shared → Prop} {E : Value → Shared → Prop} {s : Shared} {M : Model} {A : Around} (h : Q false s) : wpAny M A (isTrue (.BoolOp .Or [] pos) env whole) Q E s := wpAny_pure (a := false) h
theorem ts_one_and {b : E} {r : Expr} {p : Pos} (ih : TsOk prog w B CM f C b r) : TsAll prog w B CM f C b (.BoolOp .And [r] p) := fun whole t ρ s rr t' ev hb I tk =>
  isTrue_and (wpAny_mono (ih t ρ s rr t' ev hb I tk) (fun c s' p => by
    cases c with
    | true => exact isTrue_and_nil p
    | false => exact p) fun _ _ p => p)
theorem ts_one_or {b : E} {r : Expr} {p : Pos} (ih : TsOk prog w B CM f C b r) : TsAll prog w B CM f C b (.BoolOp .Or [r] p) := fun whole t ρ s rr t' ev hb I tk =>
  isTrue_or (wpAny_mono (ih t ρ s rr t' ev hb I tk) (fun c s' p => by
    cases c with
    | true => exact p
    | false => exact isTrue_or_nil' p) fun _ _ p => p)

/-- the items of a display, one by one -/
theorem as_nil : AsOk prog w B CM f C .nil [] := by
  intro pos t ρ s r t' ev I tk
  simp only [eE_loc, eE_none, eE_bool, eE_int, eE_neg, eE_str, eE_op, eE_cmp, eE_between, eE_and, eE_or, eE_ifx, eE_nil, eE_cons, eE_tup, eE_list, eE_flist, eE_dict, eE_call, eE_len, eE_ord, eE_idx, eE_slice, eE_sliceFrom, eE_sliceTo, eE_append, eE_pop, eE_endswith, eE_replace] at ev
  obtain ⟨rfl, rfl⟩ := ok_some ev
  exact spliced_none ⟨[], ρ, rfl, .nil, I, .refl _ _ _ _, rfl⟩
/-- the rest of a display, behind its first item -/
theorem wp_rest {α : Type} {b : E} {k : Nat} {x : V} {cx : Value} {t₁ t' : St} {ρ ρ₁ : List Addr} {s s₁ : Shared} {rr : Except (List Nat) V} {tr : Sem α} {items : α → List Value} {Q : α → Shared → Prop} {R : α → Shared → Prop}
    (ev1 : (bd (evalE C b t₁) fun y st => match y with | .lst vs => ok (.lst (x :: vs)) st | _ => Option.none) = some (rr, t'))
    (ih : ∀ r₂ t₂, evalE C b t₁ = some (r₂, t₂) → wpAny (model prog w) f.A tr (fun c s' => PVs prog w B f ρ₁ r₂ t₂ s₁ k (items c) s' ∧ Q c s') (PE prog w B CM f ρ₁ r₂ t₂ s₁) s₁) (g1 : Gr (frs f.outer) (f.X ρ) ρ ρ₁ s s₁) (rx : VR ρ₁ s₁.heap x cx) (I1 : FI prog w B f ρ₁ t₁ s₁.heap)
    (h : ∀ c s', PVs prog w B f ρ rr t' s (k + 1) (cx :: items c) s' → Q c s' → R c s') : wpAny (model prog w) f.A tr R (PE prog w B CM f ρ rr t' s) s₁ := by
  revert h
  refine bd_e (P := fun rr t' => (∀ c s', PVs prog w B f ρ rr t' s (k + 1) (cx :: items c) s' → Q c s' → R c s') → wpAny (model prog w) f.A tr R (PE prog w B CM f ρ rr t' s) s₁) ev1 (fun x' t₂ hm h => ?_) fun y t₂ hm ev1 h => ?_
  · exact wpAny_mono (ih _ _ hm) (fun c s₂ p => by obtain ⟨⟨vs', ρ', e1, _⟩, _⟩ := p; exact noE e1) fun _ _ p => PE.back g1 p
  · refine wpAny_mono (ih _ _ hm) (fun c s₂ p => ?_) fun _ _ p => by obtain ⟨x', e, ρ', h1, h2, _⟩ := p; exact noE1 h2
    obtain ⟨⟨vs', ρ', e1, r1, I2, g2, lz⟩, q⟩ := p
    obtain rfl := Except.ok.inj e1
    obtain ⟨rfl, rfl⟩ := ok_some (show ok (.lst (x :: vs')) t₂ = some (rr, t') from ev1)
    exact h c s₂ ⟨_, ρ', rfl, .cons (I1.vr g2 rx) r1, I2, g1.transF g2, congrArg Nat.succ lz⟩ q
theorem as_cons {a b : E} {e : Expr} {r : List Expr} (hs : starEach (e :: r) f.env = (false, eval e f.env) :: starEach r f.env) (iha : EvOk prog w B CM f C a e) (ihb : AsOk prog w B CM f C b r) : AsOk prog w B CM f C (.cons a b) (e :: r) := by
  intro pos t ρ s rr t' ev I tk
  refine spliced_more (wp_bd ev (fun r₁ t₁ e => iha t ρ s r₁ t₁ e I tk) (fun _ _ p => p) tk fun x t₁ cx s₁ ρ₁ tk1 _ ev1 rx I1 g1 => ?_) hs
  exact wp_rest (items := id) (Q := fun _ _ => True) ev1 (fun r₂ t₂ hm => wpAny_mono (ihb pos t₁ ρ₁ s₁ _ _ hm I1 tk1) (fun _ _ p => ⟨p, trivial⟩) fun _ _ p => p) g1 rx I1 fun _ _ p _ => p
theorem kv_nil : KvOk prog w B CM f C .nil [] := by
  intro pos ks keys hk hl t ρ s r t' ev I tk
  simp only [eE_loc, eE_none, eE_bool, eE_int, eE_neg, eE_str, eE_op, eE_cmp, eE_between, eE_and, eE_or, eE_ifx, eE_nil, eE_cons, eE_tup, eE_list, eE_flist, eE_dict, eE_call, eE_len, eE_ord, eE_idx, eE_slice, eE_sliceFrom, eE_sliceTo, eE_append, eE_pop, eE_endswith, eE_replace] at ev
  obtain ⟨rfl, rfl⟩ := ok_some ev
  cases keys with
  | cons a b => simp at hl
  | nil =>
    cases ks with
    | cons a b => exact no2 hk
    | nil => exact evalPairs_nil ⟨⟨[], ρ, rfl, .nil, I, .refl _ _ _ _, rfl⟩, trivial⟩
theorem kv_cons {a b : E} {e : Expr} {r : List Expr} (iha : EvOk prog w B CM f C a e) (ihb : KvOk prog w B CM f C b r) : KvOk prog w B CM f C (.cons a b) (e :: r) := by
  intro pos ks keys hk hl t ρ s rr t' ev I tk
  cases ks with
  | nil => rw [List.isEmpty_iff.mp hk] at hl; exact nomatch hl
  | cons k ks =>
    refine chkKeys_e (P := fun keys => keys.length = (e :: r).length → wpAny (model prog w) f.A (evalPairs (pairTrees keys (e :: r) f.env pos)) (fun (ps : List (Value × Value)) s' => PVs prog w B f ρ rr t' s (e :: r).length (ps.map Prod.snd) s' ∧ Carries (PySem.strKind prog w) ps (((k :: ks).map st).zip (ps.map Prod.snd))) (PE prog w B CM f ρ rr t' s) s) hk (fun p1 p2 keys hk2 hk3 hl => ?_) hl
    refine evalPairs_cons (wpAny_Constant_str ?_)
    have I0 : FI prog w B f ρ t ({ s with toks := s.toks + 1 } : Shared).heap := I
    have eta : ∀ {Q : Value → Shared → Prop} {E : Value → Shared → Prop} {s : Shared}, wpAny (model prog w) f.A (eval e f.env) Q E s → wpAny (model prog w) f.A (do let x ← eval e f.env; standAt pos; pure x) Q E s := fun h =>
      wpAny_bind (wpAny_mono h (fun _ _ q => wpAny_bind (wpAny_standAt (wpAny_pure q))) fun _ _ q => q)
    refine eta (wp_bd (s := { s with toks := s.toks + 1 }) ev (fun r₁ t₁ e => iha t ρ { s with toks := s.toks + 1 } r₁ t₁ e I0 (Nat.le_add_left _ _)) (fun _ _ p => PE.back (Gr.of_heap (.refl _ _ _)) p) (Nat.le_add_left _ _) fun x t₁ cx s₁ ρ₁ tk1 _ ev1 rx I1 g1 => ?_)
    have g1' : Gr (frs f.outer) (f.X ρ) ρ ρ₁ s s₁ := (Gr.of_heap (tk := s.toks + 1) (.refl _ _ s.heap)).transF g1
    exact wp_rest (items := fun ps : List (Value × Value) => ps.map Prod.snd) ev1 (fun r₂ t₂ hm => ihb pos ks keys hk3 (Nat.succ.inj hl) t₁ ρ₁ s₁ r₂ t₂ hm I1 tk1) g1' rx I1 fun ps s₂ q ca => ⟨q, strKind_is prog w _ _, rfl, ca⟩
end
end Nt
end

section
open PySem PySem.W PyProof.Rows PySem.Calls PySem.SeqAt
set_option genSizeOf false
set_option genInjectivity false
set_option maxRecDepth 100000
set_option autoImplicit false
namespace Nt
section
variable {prog : Program} {w : World} {B : Heap} {fn : Nat → Addr} {CM : Addr} {f : Fm} {C : Calls} {n : Nat}

theorem Made.post_mono' {x : List Nat} {tx : Tok} {l u : Option (Int × Tok)} {Q Q' : Value → Shared → Prop} {s : Shared} (h : (sliceMade (st x) tx l u none).post Q s) (k : ∀ c s', Q c s' → Q' c s') : (sliceMade (st x) tx l u none).post Q' s := by
  unfold sliceMade at h ⊢
  split
  · rename_i hc; rw [if_pos hc] at h; exact k _ _ h
  · rename_i hc; rw [if_neg hc] at h; exact ⟨h.1, k _ _ h.2⟩
/-- an argument list and what comes behind it -/
theorem wp_bdAs {es : E} {pes : List Expr} {pos : Pos} {t : St} {ρ : List Addr} {s : Shared} {k : V → St → Res V} {r : Except (List Nat) V} {t' : St} {P : List Value → Shared → Prop}
    (ev : bd (evalE C es t) k = some (r, t')) (ih : AsOk prog w B CM f C es pes) (I : FI prog w B f ρ t s.heap) (tk : 1 ≤ s.toks)
    (h : ∀ vs t₁ cs s₁ ρ₁, 1 ≤ s₁.toks → k (.lst vs) t₁ = some (r, t') → VRs ρ₁ s₁.heap vs cs → FI prog w B f ρ₁ t₁ s₁.heap → Gr (frs f.outer) (f.X ρ) ρ ρ₁ s s₁ → vs.length = pes.length → P cs s₁) :
    wpAny (model prog w) f.A (spliced (backTo pos (starEach pes f.env))) P (PE prog w B CM f ρ r t' s) s := by
  generalize hm : evalE C es t = mm at ev
  match mm, hm, ev with
  | some (.error x, t₁), hm, ev =>
    (first | exact no ev | exact no1 ev | exact no2 ev | exact noE ev | exact noE1 ev | obtain rfl := Option.some.inj ev | obtain rfl := Except.ok.inj ev | obtain rfl := ev | cases ev)
    refine wpAny_mono (ih pos t ρ s _ _ hm I tk) (fun ps s₁ p => ?_) fun c s₁ p => p
    obtain ⟨vs, ρ', e1, _⟩ := p
    (first | exact no e1 | exact no1 e1 | exact no2 e1 | exact noE e1 | exact noE1 e1 | obtain rfl := Option.some.inj e1 | obtain rfl := Except.ok.inj e1 | obtain rfl := e1 | cases e1)
  | some (.ok x, t₁), hm, ev =>
    refine wpAny_mono (wpAny_toks (ih pos t ρ s _ _ hm I tk)) (fun ps s₁ p => ?_) fun c s₁ p => ?_ <;> obtain ⟨p, tk'⟩ := p
    · obtain ⟨vs, ρ', e1, r1, I1, g1, lz⟩ := p
      (first | exact no e1 | exact no1 e1 | exact no2 e1 | exact noE e1 | exact noE1 e1 | obtain rfl := Option.some.inj e1 | obtain rfl := Except.ok.inj e1 | obtain rfl := e1 | cases e1)
      exact h vs t₁ ps s₁ ρ' (Nat.le_trans tk tk') ev r1 I1 g1 lz
    · obtain ⟨x', e, ρ', h1, h2, h3, h4, h5⟩ := p
      (first | exact no h2 | exact no1 h2 | exact no2 h2 | exact noE h2 | exact noE1 h2 | obtain rfl := Option.some.inj h2 | obtain rfl := Except.ok.inj h2 | obtain rfl := h2 | cases h2)
  | none, hm, ev => (first | exact no ev | exact no1 ev | exact no2 ev | exact noE ev | exact noE1 ev | obtain rfl := Option.some.inj ev | obtain rfl := Except.ok.inj ev | obtain rfl := ev | cases ev)

theorem z100 {k : Nat} (h : k ≤ 100) : k ≤ lim := Nat.le_trans h (by decide)
theorem ev_tup {es : E} {pes : List Expr} {k : Nat} {p : Pos} (ih : AsOk prog w B CM f C es pes) (hz : pes.length ≤ 100) : EvOk prog w B CM f C (.tup es) (.Tuple pes k p) := by
  intro t ρ s rr t' ev I tk
  simp only [eE_loc, eE_none, eE_bool, eE_int, eE_neg, eE_str, eE_op, eE_cmp, eE_between, eE_and, eE_or, eE_ifx, eE_nil, eE_cons, eE_tup, eE_list, eE_flist, eE_dict, eE_call, eE_len, eE_ord, eE_idx, eE_slice, eE_sliceFrom, eE_sliceTo, eE_append, eE_pop, eE_endswith, eE_replace] at ev
  refine Tuple_ (wp_bdAs ev ih I tk fun vs t₁ cs s₁ ρ₁ tk1 ev1 r1 I1 g1 lz => ?_)
  obtain ⟨rfl, rfl⟩ := ok_some ev1
  exact wpBack g1 (p_tup I1 r1 (z100 (lz ▸ hz)))
theorem ev_list {es : E} {pes : List Expr} {p : Pos} (ih : AsOk prog w B CM f C es pes) (hz : pes.length ≤ 100) : EvOk prog w B CM f C (.list es) (.List pes p) := by
  intro t ρ s rr t' ev I tk
  simp only [eE_loc, eE_none, eE_bool, eE_int, eE_neg, eE_str, eE_op, eE_cmp, eE_between, eE_and, eE_or, eE_ifx, eE_nil, eE_cons, eE_tup, eE_list, eE_flist, eE_dict, eE_call, eE_len, eE_ord, eE_idx, eE_slice, eE_sliceFrom, eE_sliceTo, eE_append, eE_pop, eE_endswith, eE_replace] at ev
  refine List_ (wp_bdAs ev ih I tk fun vs t₁ cs s₁ ρ₁ tk1 ev1 r1 I1 g1 lz => ?_)
  obtain ⟨rfl, rfl⟩ := ok_some ev1
  exact wpBack g1 (p_list I1 r1 (z100 (lz ▸ hz)))
theorem ev_flist {es : E} {pes : List Expr} {p : Pos} (ih : AsOk prog w B CM f C es pes) (hz : pes.length ≤ 100) : EvOk prog w B CM f C (.flist es) (.List pes p) := by
  intro t ρ s rr t' ev I tk
  simp only [eE_loc, eE_none, eE_bool, eE_int, eE_neg, eE_str, eE_op, eE_cmp, eE_between, eE_and, eE_or, eE_ifx, eE_nil, eE_cons, eE_tup, eE_list, eE_flist, eE_dict, eE_call, eE_len, eE_ord, eE_idx, eE_slice, eE_sliceFrom, eE_sliceTo, eE_append, eE_pop, eE_endswith, eE_replace] at ev
  have ev0 : bd (evalE C es t) ok = some (rr, t') := by
    rw [ev]
    (first | exact no rr | exact no1 rr | exact no2 rr | exact noE rr | exact noE1 rr | obtain rfl := Option.some.inj rr | obtain rfl := Except.ok.inj rr | obtain rfl := rr | cases rr) <;> rfl
  refine List_ (wp_bdAs ev0 ih I tk fun vs t₁ cs s₁ ρ₁ tk1 ev1 r1 I1 g1 lz => ?_)
  obtain ⟨rfl, rfl⟩ := ok_some ev1
  exact wpBack g1 (p_flist I1 r1 (z100 (lz ▸ hz)))

theorem ev_call {i : Nat} {es : E} {a0 : Expr} {pes : List Expr} {np p : Pos} (T0 : Top0 prog w B fn CM) (HC : CallsOk prog w B fn CM C n) (K : f.Ok n) (hi : i < 25) (hl : f.scope.names.lookup (fname i) = some .globalImplicit)
    (hn : starEach (a0 :: pes) f.env = (false, eval a0 f.env) :: starEach pes f.env) (hp : ∀ pos, (backTo pos (starEach (a0 :: pes) f.env)).any (·.1) = false) (ih : AsOk prog w B CM f C es (a0 :: pes)) :
    EvOk prog w B CM f C (.call i es) (.Call (.Name (fname i) np) (a0 :: pes) [] p) := by
  intro t ρ s rr t' ev I tk
  simp only [eE_loc, eE_none, eE_bool, eE_int, eE_neg, eE_str, eE_op, eE_cmp, eE_between, eE_and, eE_or, eE_ifx, eE_nil, eE_cons, eE_tup, eE_list, eE_flist, eE_dict, eE_call, eE_len, eE_ord, eE_idx, eE_slice, eE_sliceFrom, eE_sliceTo, eE_append, eE_pop, eE_endswith, eE_replace] at ev
  obtain ⟨mg, mb, hg, hb, hfn, _⟩ := T0.names
  obtain ⟨o, fd, ho, hd⟩ := T0.fun_ i hi
  refine Call_ (global_ K I hg (hfn i hi) hl (fname_debug i hi) ?_)
  refine call_frame (B := B) ho hd hn (hp p) (wp_bdAs ev ih I tk fun vs t₁ cs s₁ ρ₁ tk1 ev1 r1 I1 g1 lz => ⟨I1.ci.base, ?_⟩)
  simp only at ev1
  cases hc : C i vs t₁.heap with
  | none => simp only [hc] at ev1; (first | exact no ev1 | exact no1 ev1 | exact no2 ev1 | exact noE ev1 | exact noE1 ev1 | obtain rfl := Option.some.inj ev1 | obtain rfl := Except.ok.inj ev1 | obtain rfl := ev1 | cases ev1)
  | some q =>
    obtain ⟨r2, h2⟩ := q
    simp only [hc] at ev1
    obtain ⟨rfl, rfl⟩ : r2 = rr ∧ (⟨t₁.loc, h2⟩ : St) = t' := by (first | exact no ev1 | exact no1 ev1 | exact no2 ev1 | exact noE ev1 | exact noE1 ev1 | obtain rfl := Option.some.inj ev1 | obtain rfl := Except.ok.inj ev1 | obtain rfl := ev1 | cases ev1); exact ⟨rfl, rfl⟩
    refine wpAny_call (HC i vs t₁.heap r2 h2 hc f.A (f.env :: f.outer) ρ₁ s₁ cs _ K.fr K.hd K.room K.units tk1 (I1.down K) r1 (fun v c s' ρ' e rv J g => ?_) fun x e s' ρ' ex X J g => ?_)
    · obtain ⟨J1, g2⟩ := I1.up J g
      exact ⟨v, ρ', e, rv, J1, g1.transF g2⟩
    · obtain ⟨J1, g2⟩ := I1.up J g
      exact ⟨x, e, ρ', rfl, ex, (X.in f.L).since g1.ext.live, J1, g1.transF g2⟩

theorem ev_builtin1 {a : E} {pe : Expr} {x : Str} {id : String} {np p : Pos} {k : V → St → Res V} (T0 : ∃ mg mb, B.Ns mainGlobals mg ∧ B.Ns builtinsNs mb ∧ mg x = none ∧ mb x = some (.builtin id)) (K : f.Ok n) (hl : f.scope.names.lookup x = some .globalImplicit) (hd : (x == ("__debug__" : Str)) = false)
    (hn : starEach [pe] f.env = [(false, eval pe f.env)]) (ih : EvOk prog w B CM f C a pe) {t : St} {ρ : List Addr} {s : Shared} {rr : Except (List Nat) V} {t' : St} (ev : bd (evalE C a t) k = some (rr, t')) (I : FI prog w B f ρ t s.heap) (tk : 1 ≤ s.toks)
    (h : ∀ v t₁ c s₁ ρ₁, k v t₁ = some (rr, t') → VR ρ₁ s₁.heap v c → FI prog w B f ρ₁ t₁ s₁.heap → wpAny (model prog w) f.A (call (.builtin id) [c]) (PV prog w B f ρ₁ rr t' s₁) (PE prog w B CM f ρ₁ rr t' s₁) s₁) :
    wpAny (model prog w) f.A (eval (.Call (.Name x np) [pe] [] p) f.env) (PV prog w B f ρ rr t' s) (PE prog w B CM f ρ rr t' s) s := by
  obtain ⟨mg, mb, hg, hb, h1, h2⟩ := T0
  refine Call_ (builtin_ K I hg h1 hb h2 hl hd (PyProof.Rows.callWith_builtin1 (spliced_more ?_ hn) hn))
  refine wp_bd ev (fun r₁ t₁ e => ih t ρ s r₁ t₁ e I tk) (fun _ _ p => p) tk fun x t₁ cx s₁ ρ₁ tk1 _ ev1 rx I1 g1 => ?_
  exact spliced_none (wpBack g1 (h x t₁ cx s₁ ρ₁ ev1 rx I1))

theorem ev_len {a : E} {pe : Expr} {np p : Pos} (T0 : Top0 prog w B fn CM) (K : f.Ok n) (hl : f.scope.names.lookup ("len" : Str) = some .globalImplicit) (hn : starEach [pe] f.env = [(false, eval pe f.env)]) (ih : EvOk prog w B CM f C a pe) :
    EvOk prog w B CM f C (.len a) (.Call (.Name ("len" : Str) np) [pe] [] p) := by
  intro t ρ s rr t' ev I tk
  simp only [eE_loc, eE_none, eE_bool, eE_int, eE_neg, eE_str, eE_op, eE_cmp, eE_between, eE_and, eE_or, eE_ifx, eE_nil, eE_cons, eE_tup, eE_list, eE_flist, eE_dict, eE_call, eE_len, eE_ord, eE_idx, eE_slice, eE_sliceFrom, eE_sliceTo, eE_append, eE_pop, eE_endswith, eE_replace] at ev
  obtain ⟨mg, mb, hg, hb, _, h1, _⟩ := T0.names
  refine ev_builtin1 ⟨mg, mb, hg, hb, h1⟩ K hl (by decide +kernel) hn ih ev I tk fun v t₁ c s₁ ρ₁ ev1 rx I1 => ?_
  split at ev1
  · obtain ⟨rfl, rfl⟩ := ok_some ev1
    exact p_len I1 rx (.inl ⟨_, rfl, rfl⟩)
  · obtain ⟨rfl, rfl⟩ := ok_some ev1
    exact p_len I1 rx (.inr ⟨_, rfl, rfl⟩)
  · (first | exact no ev1 | exact no1 ev1 | exact no2 ev1 | exact noE ev1 | exact noE1 ev1 | obtain rfl := Option.some.inj ev1 | obtain rfl := Except.ok.inj ev1 | obtain rfl := ev1 | cases ev1)
theorem ev_ord {a : E} {pe : Expr} {np p : Pos} (T0 : Top0 prog w B fn CM) (K : f.Ok n) (hl : f.scope.names.lookup ("ord" : Str) = some .globalImplicit) (hn : starEach [pe] f.env = [(false, eval pe f.env)]) (ih : EvOk prog w B CM f C a pe) :
    EvOk prog w B CM f C (.ord a) (.Call (.Name ("ord" : Str) np) [pe] [] p) := by
  intro t ρ s rr t' ev I tk
  simp only [eE_loc, eE_none, eE_bool, eE_int, eE_neg, eE_str, eE_op, eE_cmp, eE_between, eE_and, eE_or, eE_ifx, eE_nil, eE_cons, eE_tup, eE_list, eE_flist, eE_dict, eE_call, eE_len, eE_ord, eE_idx, eE_slice, eE_sliceFrom, eE_sliceTo, eE_append, eE_pop, eE_endswith, eE_replace] at ev
  obtain ⟨mg, mb, hg, hb, _, _, h1, _⟩ := T0.names
  refine ev_builtin1 ⟨mg, mb, hg, hb, h1⟩ K hl (by decide +kernel) hn ih ev I tk fun v t₁ c s₁ ρ₁ ev1 rx I1 => ?_
  split at ev1
  · obtain ⟨rfl, rfl⟩ := ok_some ev1
    exact p_ord I1 rx
  · (first | exact no ev1 | exact no1 ev1 | exact no2 ev1 | exact noE ev1 | exact noE1 ev1 | obtain rfl := Option.some.inj ev1 | obtain rfl := Except.ok.inj ev1 | obtain rfl := ev1 | cases ev1)

theorem ev_idx {a i : E} {l r : Expr} {p : Pos} (iha : EvOk prog w B CM f C a l) (ihi : EvOk prog w B CM f C i r) : EvOk prog w B CM f C (.idx a i) (.Subscript l r p) := by
  intro t ρ s rr t' ev I tk
  simp only [eE_loc, eE_none, eE_bool, eE_int, eE_neg, eE_str, eE_op, eE_cmp, eE_between, eE_and, eE_or, eE_ifx, eE_nil, eE_cons, eE_tup, eE_list, eE_flist, eE_dict, eE_call, eE_len, eE_ord, eE_idx, eE_slice, eE_sliceFrom, eE_sliceTo, eE_append, eE_pop, eE_endswith, eE_replace] at ev
  refine Subscript_ (wp_bd ev (fun r₁ t₁ e => iha t ρ s r₁ t₁ e I tk) (fun _ _ p => p) tk fun x t₁ cx s₁ ρ₁ tk1 _ ev1 rx I1 g1 => ?_)
  refine wp_bd (ρ := ρ₁) ev1 (fun r₁ t₂ e => ihi t₁ ρ₁ s₁ r₁ t₂ e I1 tk1) (fun _ _ p => p.back g1) tk1 fun y t₂ cy s₂ ρ₂ tk2 _ ev2 ry I2 g2 => ?_
  obtain ⟨v, e1, rfl, rfl⟩ := lift_some ev2
  exact wpBack (g1.transF g2) (p_idx I2 e1 (I1.vr g2 rx) ry)

theorem slice_end {x : List Nat} {tx : Tok} {l u : Option (Int × Tok)} {ρ : List Addr} {t : St} {s : Shared} {ob : Obj} (I : FI prog w B f ρ t s.heap) (hx : x.length ≤ lim) {y : List Nat} (hy : cut x (loOf x.length l) (hiOf x.length u) = y) :
    (sliceMade (st x) tx l u none).post (PV prog w B f ρ (.ok (.str y)) t s) { s with heap := s.heap.push ob } := by
  subst hy
  refine slice_post hx fun t' k => pv_keep (s := s) I (fun _ _ e => Heap.get?_push_of_some _ e) (.str _ _ ?_)
  rw [cut_eq]
  simp only [List.length_take, List.length_drop]
  (first | lia | omega)
theorem name_let {v : Expr} (h : isN v = true) : ∀ o r, letTemporaryGo v o r = pure () := by
  obtain ⟨x, p, rfl⟩ := isN_i h
  exact fun _ _ => rfl

theorem ev_slice {a lo hi : E} {v l u : Expr} {p p' : Pos} (hv : isN v = true) (iha : EvOk prog w B CM f C a v) (ihl : EvOk prog w B CM f C lo l) (ihu : EvOk prog w B CM f C hi u) : EvOk prog w B CM f C (.slice a lo hi) (.Subscript v (.Slice (some l) (some u) none p) p') := by
  intro t ρ s rr t' ev I tk
  simp only [eE_loc, eE_none, eE_bool, eE_int, eE_neg, eE_str, eE_op, eE_cmp, eE_between, eE_and, eE_or, eE_ifx, eE_nil, eE_cons, eE_tup, eE_list, eE_flist, eE_dict, eE_call, eE_len, eE_ord, eE_idx, eE_slice, eE_sliceFrom, eE_sliceTo, eE_append, eE_pop, eE_endswith, eE_replace] at ev
  refine wpAny_Subscript_str_slice (wp_bd ev (fun r₁ t₁ e => iha t ρ s r₁ t₁ e I tk) (fun _ _ p => p) tk fun x t₁ cx s₁ ρ₁ tk1 _ ev1 rx I1 g1 => ?_) (name_let hv)
  refine wp_bd (ρ := ρ₁) ev1 (fun r₁ t₂ e => ihl t₁ ρ₁ s₁ r₁ t₂ e I1 tk1) (fun _ _ p => p.back g1) tk1 fun y t₂ cy s₂ ρ₂ tk2 _ ev2 ry I2 g2 => ?_
  refine wp_bd (ρ := ρ₂) ev2 (fun r₁ t₃ e => ihu t₂ ρ₂ s₂ r₁ t₃ e I2 tk2) (fun _ _ p => p.back (g1.transF g2)) tk2 fun z t₃ cz s₃ ρ₃ tk3 _ ev3 rz I3 g3 => ?_
  split at ev3
  · obtain ⟨rfl, rfl⟩ := ok_some ev3
    have rx' := I2.vr g3 (I1.vr g2 rx)
    have ry' := I2.vr g3 ry
    cases rx' with
    | str _ tx lx =>
      cases ry' with
      | int _ ty =>
        cases rz with
        | int _ tz =>
          refine ⟨_, tx, some (_, ty), some (_, tz), rfl, rfl, rfl, ?_⟩
          exact Made.post_mono' (slice_end I3 lx rfl) fun c s' q => q.back ((g1.transF g2).transF g3)
  · (first | exact no ev3 | exact no1 ev3 | exact no2 ev3 | exact noE ev3 | exact noE1 ev3 | obtain rfl := Option.some.inj ev3 | obtain rfl := Except.ok.inj ev3 | obtain rfl := ev3 | cases ev3)
theorem ev_sliceFrom {a lo : E} {v l : Expr} {p p' : Pos} (hv : isN v = true) (iha : EvOk prog w B CM f C a v) (ihl : EvOk prog w B CM f C lo l) : EvOk prog w B CM f C (.sliceFrom a lo) (.Subscript v (.Slice (some l) none none p) p') := by
  intro t ρ s rr t' ev I tk
  simp only [eE_loc, eE_none, eE_bool, eE_int, eE_neg, eE_str, eE_op, eE_cmp, eE_between, eE_and, eE_or, eE_ifx, eE_nil, eE_cons, eE_tup, eE_list, eE_flist, eE_dict, eE_call, eE_len, eE_ord, eE_idx, eE_slice, eE_sliceFrom, eE_sliceTo, eE_append, eE_pop, eE_endswith, eE_replace] at ev
  refine wpAny_Subscript_str_slice (wp_bd ev (fun r₁ t₁ e => iha t ρ s r₁ t₁ e I tk) (fun _ _ p => p) tk fun x t₁ cx s₁ ρ₁ tk1 _ ev1 rx I1 g1 => ?_) (name_let hv)
  refine wp_bd (ρ := ρ₁) ev1 (fun r₁ t₂ e => ihl t₁ ρ₁ s₁ r₁ t₂ e I1 tk1) (fun _ _ p => p.back g1) tk1 fun y t₂ cy s₂ ρ₂ tk2 _ ev2 ry I2 g2 => ?_
  refine wpAny_pure ?_
  split at ev2
  · obtain ⟨rfl, rfl⟩ := ok_some ev2
    have rx' := I1.vr g2 rx
    cases rx' with
    | str _ tx lx =>
      cases ry with
      | int _ ty =>
        refine ⟨_, tx, some (_, ty), none, rfl, rfl, rfl, ?_⟩
        refine Made.post_mono' (slice_end I2 lx ?_) fun c s' q => q.back (g1.transF g2)
        unfold sliceV
        congr 1
        show _ = clamp _ _
        unfold clamp
        rw [if_neg (by (first | lia | omega))]
        simp [hiOf]
  · (first | exact no ev2 | exact no1 ev2 | exact no2 ev2 | exact noE ev2 | exact noE1 ev2 | obtain rfl := Option.some.inj ev2 | obtain rfl := Except.ok.inj ev2 | obtain rfl := ev2 | cases ev2)
theorem ev_sliceTo {a hi : E} {v u : Expr} {p p' : Pos} (hv : isN v = true) (iha : EvOk prog w B CM f C a v) (ihu : EvOk prog w B CM f C hi u) : EvOk prog w B CM f C (.sliceTo a hi) (.Subscript v (.Slice none (some u) none p) p') := by
  intro t ρ s rr t' ev I tk
  simp only [eE_loc, eE_none, eE_bool, eE_int, eE_neg, eE_str, eE_op, eE_cmp, eE_between, eE_and, eE_or, eE_ifx, eE_nil, eE_cons, eE_tup, eE_list, eE_flist, eE_dict, eE_call, eE_len, eE_ord, eE_idx, eE_slice, eE_sliceFrom, eE_sliceTo, eE_append, eE_pop, eE_endswith, eE_replace] at ev
  refine wpAny_Subscript_str_slice (wp_bd ev (fun r₁ t₁ e => iha t ρ s r₁ t₁ e I tk) (fun _ _ p => p) tk fun x t₁ cx s₁ ρ₁ tk1 _ ev1 rx I1 g1 => ?_) (name_let hv)
  refine wpAny_pure ?_
  refine wp_bd (ρ := ρ₁) ev1 (fun r₁ t₂ e => ihu t₁ ρ₁ s₁ r₁ t₂ e I1 tk1) (fun _ _ p => p.back g1) tk1 fun y t₂ cy s₂ ρ₂ tk2 _ ev2 ry I2 g2 => ?_
  split at ev2
  · obtain ⟨rfl, rfl⟩ := ok_some ev2
    have rx' := I1.vr g2 rx
    cases rx' with
    | str _ tx lx =>
      cases ry with
      | int _ ty =>
        refine ⟨_, tx, none, some (_, ty), rfl, rfl, rfl, ?_⟩
        refine Made.post_mono' (slice_end I2 lx ?_) fun c s' q => q.back (g1.transF g2)
        rfl
  · (first | exact no ev2 | exact no1 ev2 | exact no2 ev2 | exact noE ev2 | exact noE1 ev2 | obtain rfl := Option.some.inj ev2 | obtain rfl := Except.ok.inj ev2 | obtain rfl := ev2 | cases ev2)

/-- a method of a named object, or of an item -/
theorem method_ {o : Expr} {name : Str} {ap p : Pos} {args : List Expr} {s : Shared} {Q : Value → Shared → Prop} {R : Value → Shared → Prop} (ho : isNS o = true) (hp : (ap.endLine == p.line) = true) (hf : methodCallForm (args.length + 0) (backTo p (starEach args f.env)) [] = true)
    (h : ∀ pl, wpAny (model prog w) f.A (eval o f.env) (fun ov s₁ => wpAny (model prog w) f.A (getMethod ov name pl) (fun fx s₂ => wpAny (model prog w) f.A (callWith p fx.1 fx.2 (backTo p (starEach args f.env)) []) Q R s₂) R s₁) R s) :
    wpAny (model prog w) f.A (eval (.Call (.Attribute o name ap) args [] p) f.env) Q R s := by
  have e : eval (.Call (.Attribute o name ap) args [] p) f.env = (do
      let ov ← eval o f.env
      standAt ap.atName
      methodCall o name ap p f.env ov (args.length + 0) (backTo p (starEach args f.env)) []) := by
    rcases isNS_i ho with ⟨_, _, rfl⟩ | ⟨_, _, _, rfl⟩ <;> rfl
  rw [e]
  refine wpAny_bind (wpAny_mono (h (do return (← importBound o f.env).getD true)) (fun ov s₁ h₁ => wpAny_bind (wpAny_standAt ?_)) fun _ _ x => x)
  unfold methodCall calleeOf methodCallPos
  rw [hf, hp]
  simp only [if_true, Bool.not_true, Bool.false_or]
  refine wpAny_bind (wpAny_holding (wpAny_mono h₁ (fun fx s₂ h₂ => ?_) fun _ _ x => x))
  exact wpAny_bind (wpAny_pure h₂)
theorem form1 {e : Expr} {p : Pos} (hn : starEach [e] f.env = [(false, eval e f.env)]) : methodCallForm ([e].length + 0) (backTo p (starEach [e] f.env)) [] = true := by
  rw [hn]; rfl

theorem ev_append {a x : E} {o e : Expr} {ap p : Pos} (ho : isNS o = true) (hp : (ap.endLine == p.line) = true) (hn : starEach [e] f.env = [(false, eval e f.env)]) (iha : EvOk prog w B CM f C a o) (ihx : EvOk prog w B CM f C x e) : EvOk prog w B CM f C (.append a x) (.Call (.Attribute o ("append" : Str) ap) [e] [] p) := by
  intro t ρ s rr t' ev I tk
  simp only [eE_loc, eE_none, eE_bool, eE_int, eE_neg, eE_str, eE_op, eE_cmp, eE_between, eE_and, eE_or, eE_ifx, eE_nil, eE_cons, eE_tup, eE_list, eE_flist, eE_dict, eE_call, eE_len, eE_ord, eE_idx, eE_slice, eE_sliceFrom, eE_sliceTo, eE_append, eE_pop, eE_endswith, eE_replace] at ev
  refine method_ ho hp (form1 hn) fun pl => ?_
  refine wp_bd ev (fun r₁ t₁ e => iha t ρ s r₁ t₁ e I tk) (fun _ _ p => p) tk fun l t₁ cl s₁ ρ₁ tk1 _ ev1 rl I1 g1 => ?_
  (first | exact no l | exact no1 l | exact no2 l | exact noE l | exact noE1 l | obtain rfl := Option.some.inj l | obtain rfl := Except.ok.inj l | obtain rfl := l | cases l) <;> try (first | exact no ev1 | exact no1 ev1 | exact no2 ev1 | exact noE ev1 | exact noE1 ev1 | obtain rfl := Option.some.inj ev1 | obtain rfl := Except.ok.inj ev1 | obtain rfl := ev1 | cases ev1)
  rename_i m _
  simp only at ev1
  cases h1 : t₁.heap[m]? with
  | none => simp only [h1] at ev1; (first | exact no ev1 | exact no1 ev1 | exact no2 ev1 | exact noE ev1 | exact noE1 ev1 | obtain rfl := Option.some.inj ev1 | obtain rfl := Except.ok.inj ev1 | obtain rfl := ev1 | cases ev1)
  | some o1 =>
    cases o1 with
    | dict _ => simp only [h1] at ev1; (first | exact no ev1 | exact no1 ev1 | exact no2 ev1 | exact noE ev1 | exact noE1 ev1 | obtain rfl := Option.some.inj ev1 | obtain rfl := Except.ok.inj ev1 | obtain rfl := ev1 | cases ev1)
    | list vs0 =>
      simp only [h1] at ev1
      cases rl with
      | ref el =>
        rename_i al
        obtain ⟨cvs, n1, gl, _, _⟩ := I1.ci.hr.obj _ _ _ h1 el
        refine getMethod_list_append gl rfl rfl ?_
        refine PyProof.Rows.callWith_method1 (spliced_more ?_ hn) hn
        refine wp_bd (ρ := ρ₁) ev1 (fun r₁ t₂ e => ihx t₁ ρ₁ s₁ r₁ t₂ e I1 tk1) (fun _ _ p => p.back g1) tk1 fun y t₂ cy s₂ ρ₂ tk2 _ ev2 ry I2 g2 => ?_
        refine spliced_none ?_
        have el2 := I1.vr g2 (.ref (n := m) el)
        split at ev2
        · rename_i vs h2
          split at ev2
          · rename_i hz
            obtain ⟨rfl, rfl⟩ := ok_some ev2
            exact wpBack (g1.transF g2) (p_append I2 el2 ry h2 hz)
          · (first | exact no ev2 | exact no1 ev2 | exact no2 ev2 | exact noE ev2 | exact noE1 ev2 | obtain rfl := Option.some.inj ev2 | obtain rfl := Except.ok.inj ev2 | obtain rfl := ev2 | cases ev2)
        · (first | exact no ev2 | exact no1 ev2 | exact no2 ev2 | exact noE ev2 | exact noE1 ev2 | obtain rfl := Option.some.inj ev2 | obtain rfl := Except.ok.inj ev2 | obtain rfl := ev2 | cases ev2)

theorem ev_pop {a : E} {o : Expr} {ap p : Pos} (ho : isNS o = true) (hp : (ap.endLine == p.line) = true) (iha : EvOk prog w B CM f C a o) : EvOk prog w B CM f C (.pop a) (.Call (.Attribute o ("pop" : Str) ap) [] [] p) := by
  intro t ρ s rr t' ev I tk
  simp only [eE_loc, eE_none, eE_bool, eE_int, eE_neg, eE_str, eE_op, eE_cmp, eE_between, eE_and, eE_or, eE_ifx, eE_nil, eE_cons, eE_tup, eE_list, eE_flist, eE_dict, eE_call, eE_len, eE_ord, eE_idx, eE_slice, eE_sliceFrom, eE_sliceTo, eE_append, eE_pop, eE_endswith, eE_replace] at ev
  refine method_ ho hp rfl fun pl => ?_
  refine wp_bd ev (fun r₁ t₁ e => iha t ρ s r₁ t₁ e I tk) (fun _ _ p => p) tk fun l t₁ cl s₁ ρ₁ tk1 _ ev1 rl I1 g1 => ?_
  (first | exact no l | exact no1 l | exact no2 l | exact noE l | exact noE1 l | obtain rfl := Option.some.inj l | obtain rfl := Except.ok.inj l | obtain rfl := l | cases l) <;> try (first | exact no ev1 | exact no1 ev1 | exact no2 ev1 | exact noE ev1 | exact noE1 ev1 | obtain rfl := Option.some.inj ev1 | obtain rfl := Except.ok.inj ev1 | obtain rfl := ev1 | cases ev1)
  rename_i m _
  simp only at ev1
  split at ev1
  · rename_i vs h1
    split at ev1
    · rename_i v hv
      obtain ⟨rfl, rfl⟩ := ok_some ev1
      cases rl with
      | ref el =>
        rename_i al
        obtain ⟨cvs, n1, gl, lz, r1⟩ := I1.ci.hr.obj _ _ _ h1 el
        have L : s₁.heap.IsList al cvs.toArray := ⟨_, gl, rfl, _, rfl⟩
        refine getMethod_list_of PySem.F.slot_list_pop PySem.F.type_list_pop L ⟨_, gl, rfl⟩ ?_
        have hl := r1.length
        have hvs : vs ≠ [] := fun q => by rw [q] at hv; simp at hv
        have h0 : 0 < vs.length := List.length_pos_iff.mpr hvs
        have e1 : vs[vs.length - 1]? = some v := by rw [← List.getLast?_eq_getElem?]; exact hv
        obtain ⟨c, e2, r2⟩ := r1.get e1
        refine PySem.P.pop_list (items := cvs.toArray) (n := n1) gl (y := c) (by simpa [hl] using e2) ?_ (by rw [List.size_toArray, hl]; exact lz)
        have em : Obj.mapSeq (fun xs => xs.eraseIdxIfInBounds (cvs.toArray.size - 1)) ({ cls := .type "list", data := .seq cvs.toArray n1 } : Obj) = { cls := .type "list", data := .seq cvs.dropLast.toArray (n1 + 1) } := by
          have hc : 0 < cvs.length := by (first | lia | omega)
          have hq : cvs.toArray.eraseIdxIfInBounds (cvs.toArray.size - 1) = cvs.dropLast.toArray := by
            rw [Array.eraseIdxIfInBounds, dif_pos (by simp; (first | lia | omega))]
            simp only [List.eraseIdx_toArray, List.size_toArray]
            rw [List.eraseIdx_length_sub_one]
          simp only [Obj.mapSeq, hq]
          rw [if_neg]
          simp; (first | lia | omega)
        have hs : Heap.SameBut al s₁.heap (s₁.heap.update al (Obj.mapSeq fun xs => xs.eraseIdxIfInBounds (cvs.toArray.size - 1))) := Heap.SameBut.update ..
        have g2 : (s₁.heap.update al (Obj.mapSeq fun xs => xs.eraseIdxIfInBounds (cvs.toArray.size - 1))).get? al = some { cls := .type "list", data := .seq cvs.dropLast.toArray (n1 + 1) } := by
          rw [Heap.get?_update_self _ gl (by rw [em]; rfl), em]
        have ma := List.mem_of_getElem? el
        have k : SeqStay ρ₁ s₁.heap (s₁.heap.update al (Obj.mapSeq fun xs => xs.eraseIdxIfInBounds (cvs.toArray.size - 1))) := fun b o p nb _ => ⟨o.slots, (hs.2 b fun q => nb (q ▸ ma)).trans p⟩
        have o' : OR prog w ρ₁ (s₁.heap.update al (Obj.mapSeq fun xs => xs.eraseIdxIfInBounds (cvs.toArray.size - 1))) al (.list vs.dropLast) := ⟨_, _, g2, by simp; (first | lia | omega), (r1.mono k (.refl _ _)).dropLast⟩
        exact PV.back g1 ⟨v, ρ₁, rfl, r2.mono k (.refl _ _), I1.upd hs el o', FI.ext hs el o', .refl _ _, rfl, rfl⟩
    · (first | exact no ev1 | exact no1 ev1 | exact no2 ev1 | exact noE ev1 | exact noE1 ev1 | obtain rfl := Option.some.inj ev1 | obtain rfl := Except.ok.inj ev1 | obtain rfl := ev1 | cases ev1)
  · (first | exact no ev1 | exact no1 ev1 | exact no2 ev1 | exact noE ev1 | exact noE1 ev1 | obtain rfl := Option.some.inj ev1 | obtain rfl := Except.ok.inj ev1 | obtain rfl := ev1 | cases ev1)

theorem endsW_eq (x y : List Nat) : Txt.endswith (st x) (st y) = endsW x y := by
  unfold Txt.endswith endsW
  rw [StrLaws.subAt_eq, st_length, st_length]
  simp only [Nat.zero_add]
  by_cases h : y.length ≤ x.length
  · have : (x.drop (x.length - y.length)).take y.length = x.drop (x.length - y.length) := List.take_of_length_le (by simp; (first | lia | omega))
    simp [h, this]
  · simp [h]

theorem ev_endswith {a x : E} {o e : Expr} {ap p : Pos} (ho : isNS o = true) (hp : (ap.endLine == p.line) = true) (hn : starEach [e] f.env = [(false, eval e f.env)]) (iha : EvOk prog w B CM f C a o) (ihx : EvOk prog w B CM f C x e) : EvOk prog w B CM f C (.endswith a x) (.Call (.Attribute o ("endswith" : Str) ap) [e] [] p) := by
  intro t ρ s rr t' ev I tk
  simp only [eE_loc, eE_none, eE_bool, eE_int, eE_neg, eE_str, eE_op, eE_cmp, eE_between, eE_and, eE_or, eE_ifx, eE_nil, eE_cons, eE_tup, eE_list, eE_flist, eE_dict, eE_call, eE_len, eE_ord, eE_idx, eE_slice, eE_sliceFrom, eE_sliceTo, eE_append, eE_pop, eE_endswith, eE_replace] at ev
  refine method_ ho hp (form1 hn) fun pl => ?_
  refine wp_bd ev (fun r₁ t₁ e => iha t ρ s r₁ t₁ e I tk) (fun _ _ p => p) tk fun l t₁ cl s₁ ρ₁ tk1 _ ev1 rl I1 g1 => ?_
  (first | exact no l | exact no1 l | exact no2 l | exact noE l | exact noE1 l | obtain rfl := Option.some.inj l | obtain rfl := Except.ok.inj l | obtain rfl := l | cases l) <;> try (first | exact no ev1 | exact no1 ev1 | exact no2 ev1 | exact noE ev1 | exact noE1 ev1 | obtain rfl := Option.some.inj ev1 | obtain rfl := Except.ok.inj ev1 | obtain rfl := ev1 | cases ev1)
  simp only at ev1
  cases rl with
  | str _ tl ll =>
    refine GM.endswith ?_
    refine PyProof.Rows.callWith_method1 (spliced_more ?_ hn) hn
    refine wp_bd (ρ := ρ₁) ev1 (fun r₁ t₂ e => ihx t₁ ρ₁ s₁ r₁ t₂ e I1 tk1) (fun _ _ p => p.back g1) tk1 fun y t₂ cy s₂ ρ₂ tk2 _ ev2 ry I2 g2 => ?_
    refine spliced_none ?_
    split at ev2
    · obtain ⟨rfl, rfl⟩ := ok_some ev2
      cases ry with
      | str _ ty ly =>
        refine SC.endswith ?_
        rw [endsW_eq]
        exact PV.back (g1.transF g2) (pv_same I2 (.bool _))
    · (first | exact no ev2 | exact no1 ev2 | exact no2 ev2 | exact noE ev2 | exact noE1 ev2 | obtain rfl := Option.some.inj ev2 | obtain rfl := Except.ok.inj ev2 | obtain rfl := ev2 | cases ev2)

theorem ev_replace {a : E} {u v : List Nat} {o : Expr} {ap p c1 c2 : Pos} {k1 k2 : Nat} (ho : isNS o = true) (hp : (ap.endLine == p.line) = true) (iha : EvOk prog w B CM f C a o) :
    EvOk prog w B CM f C (.replace a u v) (.Call (.Attribute o ("replace" : Str) ap) [.Constant (.str (st u)) k1 c1, .Constant (.str (st v)) k2 c2] [] p) := by
  intro t ρ s rr t' ev I tk
  simp only [eE_loc, eE_none, eE_bool, eE_int, eE_neg, eE_str, eE_op, eE_cmp, eE_between, eE_and, eE_or, eE_ifx, eE_nil, eE_cons, eE_tup, eE_list, eE_flist, eE_dict, eE_call, eE_len, eE_ord, eE_idx, eE_slice, eE_sliceFrom, eE_sliceTo, eE_append, eE_pop, eE_endswith, eE_replace] at ev
  refine method_ ho hp rfl fun pl => ?_
  refine wp_bd ev (fun r₁ t₁ e => iha t ρ s r₁ t₁ e I tk) (fun _ _ p => p) tk fun l t₁ cl s₁ ρ₁ tk1 _ ev1 rl I1 g1 => ?_
  (first | exact no l | exact no1 l | exact no2 l | exact noE l | exact noE1 l | obtain rfl := Option.some.inj l | obtain rfl := Except.ok.inj l | obtain rfl := l | cases l) <;> try (first | exact no ev1 | exact no1 ev1 | exact no2 ev1 | exact noE ev1 | exact noE1 ev1 | obtain rfl := Option.some.inj ev1 | obtain rfl := Except.ok.inj ev1 | obtain rfl := ev1 | cases ev1)
  simp only at ev1
  split at ev1
  · (first | exact no ev1 | exact no1 ev1 | exact no2 ev1 | exact noE ev1 | exact noE1 ev1 | obtain rfl := Option.some.inj ev1 | obtain rfl := Except.ok.inj ev1 | obtain rfl := ev1 | cases ev1)
  · rename_i hcond
    obtain ⟨rfl, rfl⟩ := ok_some ev1
    simp only [not_or, Nat.not_lt] at hcond
    obtain ⟨c1, c2, c3, c4, c5⟩ := hcond
    cases rl with
    | str _ tl ll =>
      refine GM.replace ?_
      refine PyProof.Rows.callWith_method1 (spliced_more (wpAny_Constant_str (spliced_more (wpAny_Constant_str (spliced_none ?_)))))
      refine SC.replaceW (Nat.ne_of_gt tk1) (Nat.succ_ne_zero _) (Nat.ne_of_lt (Nat.lt_succ_self _)) (by rw [st_beq]; simpa using c2) (by rw [st_length]; (first | lia | omega)) (by rw [st_length]; exact c3) fun t' k => ?_
      rw [replace_eq _ _ _ c1]
      exact PV.back g1 (pv_tok (s := s₁) I1 (.str _ _ c5))
end
end Nt
end

section
open PySem PySem.W PyProof.Rows PySem.Calls PySem.SeqAt
set_option genSizeOf false
set_option genInjectivity false
set_option maxRecDepth 100000
set_option autoImplicit false
namespace Nt
section
variable {prog : Program} {w : World} {B : Heap} {fn : Nat → Addr} {CM : Addr} {f : Fm} {C : Calls} {n : Nat}

theorem ts_all {e : E} {op : BoolOp} {l : List Expr} {p : Pos} (h : TsOk prog w B CM f C e (.BoolOp op l p)) : TsAll prog w B CM f C e (.BoolOp op l p) := fun _ t ρ s r t' ev hb I tk => h t ρ s r t' ev hb I tk
theorem ts_this {e : E} {pe : Expr} (h : TsAll prog w B CM f C e pe) : TsOk prog w B CM f C e pe := fun t ρ s r t' ev hb I tk => h _ t ρ s r t' ev hb I tk

noncomputable def Both (prog : Program) (w : World) (B : Heap) (CM : Addr) (f : Fm) (C : Calls) (e : E) (pe : Expr) : Prop := EvOk prog w B CM f C e pe ∧ TsOk prog w B CM f C e pe
theorem pair {e : E} {pe : Expr} (h : EvOk prog w B CM f C e pe) (he : ∀ whole : Sem Value, isTrue pe f.env whole = (do let v ← whole; standAt pe.pos; holding [v] (truthy v))) : Both prog w B CM f C e pe := ⟨h, ts_of_ev h he⟩
noncomputable def Snd (prog : Program) (w : World) (B : Heap) (CM : Addr) (f : Fm) (C : Calls) (e : E) : Prop :=
  (∀ pe, chkE f.scope f.names e pe = true → Both prog w B CM f C e pe) ∧
    (∀ pes, chkEs f.scope f.names e pes = true → AsOk prog w B CM f C e pes ∧ KvOk prog w B CM f C e pes)
theorem eqD {α : Type} {a b : α} [Decidable (a = b)] {P : α → Prop} (h : decide (a = b) = true) (q : P b) : P a := (of_decide_eq_true h) ▸ q
theorem eqS {x : Str} {l : List Nat} {P : Str → Prop} (h : decide (x.cps.toList = l) = true) (q : P (st l)) : P x := (st_of (of_decide_eq_true h)) ▸ q
theorem onK_e {P : Expr → Prop} {e : Expr} {s : List Nat} {k : Bool} (h : (onConst e fun c => onCS c fun x => decide (x.cps.toList = s) && k) = true) (q : ∀ n p, k = true → P (.Constant (.str (st s)) n p)) : P e :=
  onConst_e h fun c n p h => onCS_e (P := fun c => P (.Constant c n p)) h fun x h => eqS (P := fun x => P (.Constant (.str x) n p)) (an h).1 (q n p (an h).2)
theorem snd_and {a b : E} (iha : Snd prog w B CM f C a) (ihb : Snd prog w B CM f C b) : Snd prog w B CM f C (.and a b) :=
  ⟨fun _ hc => onBB_e hc (fun _ _ _ h => ⟨ev_and (iha.1 _ (an h).1).1 (ev_one (ihb.1 _ (an h).2).1), ts_this (ts_and (iha.1 _ (an h).1).2 (ts_one_and (ihb.1 _ (an h).2).2))⟩)
    fun _ _ _ _ _ h => ⟨ev_and (iha.1 _ (an h).1).1 (ihb.1 _ (an h).2).1, ts_this (ts_and (iha.1 _ (an h).1).2 (ts_all (ihb.1 _ (an h).2).2))⟩, fun _ hc => no2 hc⟩
theorem snd_or {a b : E} (iha : Snd prog w B CM f C a) (ihb : Snd prog w B CM f C b) : Snd prog w B CM f C (.or a b) :=
  ⟨fun _ hc => onBB_e hc (fun _ _ _ h => ⟨ev_or (iha.1 _ (an h).1).1 (ev_one (ihb.1 _ (an h).2).1), ts_this (ts_or (iha.1 _ (an h).1).2 (ts_one_or (ihb.1 _ (an h).2).2))⟩)
    fun _ _ _ _ _ h => ⟨ev_or (iha.1 _ (an h).1).1 (ihb.1 _ (an h).2).1, ts_this (ts_or (iha.1 _ (an h).1).2 (ts_all (ihb.1 _ (an h).2).2))⟩, fun _ hc => no2 hc⟩
theorem ts_ifx {c a b : E} {x y z : Expr} {p : Pos} (ihc : TsOk prog w B CM f C c x) (iha : TsOk prog w B CM f C a y) (ihb : TsOk prog w B CM f C b z) : TsOk prog w B CM f C (.ifx c a b) (.IfExp x y z p) := by
  refine fun t ρ s r t' ev hb I tk => isTrue_IfExp (wp_bdT ev (fun v t₁ e => ?_) (fun r₁ t₁ e hb => ihc t ρ s r₁ t₁ e hb I tk) (fun _ _ p => p) tk fun b' t₁ s₁ ρ₁ tk1 _ ev1 I1 g1 => ?_)
  · (first | exact no v | exact no1 v | exact no2 v | exact noE v | exact noE1 v | obtain rfl := Option.some.inj v | obtain rfl := Except.ok.inj v | obtain rfl := v | cases v) <;> first | exact ⟨_, rfl⟩ | exact no e
  · cases b' with
    | true => exact wpAny_mono (iha t₁ ρ₁ s₁ r t' ev1 hb I1 tk1) (fun _ _ p => p.back g1) fun _ _ p => p.back g1
    | false => exact wpAny_mono (ihb t₁ ρ₁ s₁ r t' ev1 hb I1 tk1) (fun _ _ p => p.back g1) fun _ _ p => p.back g1
theorem snd_ifx {c a b : E} (ihc : Snd prog w B CM f C c) (iha : Snd prog w B CM f C a) (ihb : Snd prog w B CM f C b) : Snd prog w B CM f C (.ifx c a b) :=
  ⟨fun _ hc => onIf_e hc fun _ _ _ _ h => ⟨ev_ifx (ihc.1 _ (an h).1).2 (iha.1 _ (an (an h).2).1).1 (ihb.1 _ (an (an h).2).2).1, ts_ifx (ihc.1 _ (an h).1).2 (iha.1 _ (an (an h).2).1).2 (ihb.1 _ (an (an h).2).2).2⟩, fun _ hc => no2 hc⟩
theorem snd_neg {i : Nat} : Snd prog w B CM f C (.neg i) := by
  refine ⟨fun pe hc => onUn_e hc fun o e p hc => eqD (P := fun o => Both prog w B CM f C (.neg i) (.UnaryOp o e p)) (an hc).1 (onConst_e (P := fun e => Both prog w B CM f C (.neg i) (.UnaryOp .USub e p)) (an hc).2 fun c n q hc => onCI_e (P := fun c => Both prog w B CM f C (.neg i) (.UnaryOp .USub (.Constant c n q) p)) hc fun x hc => eqD (P := fun x => Both prog w B CM f C (.neg i) (.UnaryOp .USub (.Constant (.int x) n q) p)) hc ?_), fun _ hc => no2 hc⟩
  refine ⟨fun t ρ s r t' ev I tk => UnaryOp_ (wpAny_Constant_int (PyProof.Rows.neg_int (wp_here (s := s) ev I (.int _ _)))), fun t ρ s r t' ev hb I tk => ?_⟩
  obtain ⟨rfl, rfl⟩ := ok_some ev
  obtain ⟨b, hb⟩ := hb _ rfl
  exact nomatch hb
theorem snd_cmp {c : Cmp} {a b : E} (T0 : Top0 prog w B fn CM) (K : f.Ok n) (iha : Snd prog w B CM f C a) (ihb : Snd prog w B CM f C b) : Snd prog w B CM f C (.cmp c a b) :=
  ⟨fun _ hc => onCmp_e hc fun l ops rs p hc => on1_e (P := fun rs => Both prog w B CM f C (.cmp c a b) (.Compare l ops rs p)) hc fun r hc => eqD (P := fun ops => Both prog w B CM f C (.cmp c a b) (.Compare l ops [r] p)) (an hc).1
    (have h1 := an (an hc).2
     have h0 := eq_of_beq h1.1
     have h := an h1.2
     ⟨ev_cmp T0 K ((iha.1 _ h.1).1) ((ihb.1 _ h.2).1) h0, ts_cmp T0 K ((iha.1 _ h.1).1) ((ihb.1 _ h.2).1) h0⟩), fun _ hc => no2 hc⟩
theorem snd_between {a b c : E} (T0 : Top0 prog w B fn CM) (K : f.Ok n) (iha : Snd prog w B CM f C a) (ihb : Snd prog w B CM f C b) (ihc : Snd prog w B CM f C c) : Snd prog w B CM f C (.between a b c) :=
  ⟨fun _ hc => onCmp_e hc fun l ops rs p hc => onC_e (P := fun rs => Both prog w B CM f C (.between a b c) (.Compare l ops rs p)) hc fun m rs hc => on1_e (P := fun rs => Both prog w B CM f C (.between a b c) (.Compare l ops (m :: rs) p)) hc fun r hc =>
    eqD (P := fun ops => Both prog w B CM f C (.between a b c) (.Compare l ops [m, r] p)) (an hc).1
    (have h1 := an (an hc).2
     have h0 := eq_of_beq h1.1
     have h := an h1.2
     have h' := an h.2
     ⟨ev_between T0 K ((iha.1 _ h.1).1) ((ihb.1 _ h'.1).1) ((ihc.1 _ h'.2).1) h0, ts_between T0 K ((iha.1 _ h.1).1) ((ihb.1 _ h'.1).1) ((ihc.1 _ h'.2).1) h0⟩), fun _ hc => no2 hc⟩
theorem snd_dict {ks : List (List Nat)} {es : E} (T0 : Top0 prog w B fn CM) (ih : Snd prog w B CM f C es) : Snd prog w B CM f C (.dict ks es) :=
  ⟨fun _ hc => onDict_e hc fun _ _ _ hc =>
    have h1 := an hc
    have h2 := an h1.2
    have h3 := an h2.2
    have h4 := an h3.2
    have h5 := an h4.2
    pair (ev_dict T0.mods (ih.2 _ h2.1).2 h1.1 (dt h3.1) (dt h4.1) (dt h5.1) (dt h5.2)) fun _ => rfl, fun _ hc => no2 hc⟩
theorem snd_call {i : Nat} {es : E} (T0 : Top0 prog w B fn CM) (HC : CallsOk prog w B fn CM C n) (K : f.Ok n) (ih : Snd prog w B CM f C es) : Snd prog w B CM f C (.call i es) :=
  ⟨fun _ hc => onFn_e hc fun x np as p hc => onC_e (P := fun as => Both prog w B CM f C (.call i es) (.Call (.Name x np) as [] p)) hc fun a0 args hc => eqD (P := fun x => f.scope.names.lookup x = some .globalImplicit → Both prog w B CM f C (.call i es) (.Call (.Name x np) (a0 :: args) [] p)) (an hc).1
    (fun hg =>
     have h2 := an (an hc).2
     have h3 := an h2.2
     pair (ev_call T0 HC K (dt h2.1) hg ((chkEs_hd h3.2).elim fun _ h => chk_star h _ _) (fun _ => chks_plain h3.2) (ih.2 _ h3.2).1) fun _ => rfl) (dt (an (an (an hc).2).2).1), fun _ hc => no2 hc⟩
theorem snd_len {a : E} (T0 : Top0 prog w B fn CM) (K : f.Ok n) (ih : Snd prog w B CM f C a) : Snd prog w B CM f C (.len a) :=
  ⟨fun _ hc => onFn_e hc fun x np as p hc => on1_e (P := fun as => Both prog w B CM f C (.len a) (.Call (.Name x np) as [] p)) hc fun e hc => eqD (P := fun x => f.scope.names.lookup x = some .globalImplicit → Both prog w B CM f C (.len a) (.Call (.Name x np) [e] [] p)) (an hc).1
    (fun hg => pair (ev_len T0 K hg (chk_star (an (an hc).2).2 _ _) (ih.1 _ (an (an hc).2).2).1) fun _ => rfl) (dt (an (an hc).2).1), fun _ hc => no2 hc⟩
theorem snd_ord {a : E} (T0 : Top0 prog w B fn CM) (K : f.Ok n) (ih : Snd prog w B CM f C a) : Snd prog w B CM f C (.ord a) :=
  ⟨fun _ hc => onFn_e hc fun x np as p hc => on1_e (P := fun as => Both prog w B CM f C (.ord a) (.Call (.Name x np) as [] p)) hc fun e hc => eqD (P := fun x => f.scope.names.lookup x = some .globalImplicit → Both prog w B CM f C (.ord a) (.Call (.Name x np) [e] [] p)) (an hc).1
    (fun hg => pair (ev_ord T0 K hg (chk_star (an (an hc).2).2 _ _) (ih.1 _ (an (an hc).2).2).1) fun _ => rfl) (dt (an (an hc).2).1), fun _ hc => no2 hc⟩
theorem isNone_e {α : Type} {P : Option α → Prop} {o : Option α} (h : o.isNone = true) (q : P none) : P o := by cases o with
  | none => exact q
  | some => exact no2 h
theorem snd_slice {a lo hi : E} (iha : Snd prog w B CM f C a) (ihl : Snd prog w B CM f C lo) (ihu : Snd prog w B CM f C hi) : Snd prog w B CM f C (.slice a lo hi) :=
  ⟨fun _ hc => onSub_e hc fun v sl p hc => onSlice_e (P := fun sl => Both prog w B CM f C (.slice a lo hi) (.Subscript v sl p)) hc fun l u p' hc => onO_e (P := fun l => Both prog w B CM f C (.slice a lo hi) (.Subscript v (.Slice l u none p') p)) hc fun l hc => onO_e (P := fun u => Both prog w B CM f C (.slice a lo hi) (.Subscript v (.Slice (some l) u none p') p)) hc fun u hc =>
    have h := an hc
    have h1 := an h.2
    have h2 := an h1.2
    pair (ev_slice (p := p') (p' := p) h.1 (iha.1 _ h1.1).1 (ihl.1 _ h2.1).1 (ihu.1 _ h2.2).1) fun _ => rfl, fun _ hc => no2 hc⟩
theorem snd_sliceFrom {a lo : E} (iha : Snd prog w B CM f C a) (ihl : Snd prog w B CM f C lo) : Snd prog w B CM f C (.sliceFrom a lo) :=
  ⟨fun _ hc => onSub_e hc fun v sl p hc => onSlice_e (P := fun sl => Both prog w B CM f C (.sliceFrom a lo) (.Subscript v sl p)) hc fun l u p' hc => onO_e (P := fun l => Both prog w B CM f C (.sliceFrom a lo) (.Subscript v (.Slice l u none p') p)) hc fun l hc => isNone_e (P := fun u => Both prog w B CM f C (.sliceFrom a lo) (.Subscript v (.Slice (some l) u none p') p)) (an hc).1
    (have h := an (an hc).2
     have h1 := an h.2
     pair (ev_sliceFrom (p := p') (p' := p) h.1 (iha.1 _ h1.1).1 (ihl.1 _ h1.2).1) fun _ => rfl), fun _ hc => no2 hc⟩
theorem snd_sliceTo {a hi : E} (iha : Snd prog w B CM f C a) (ihu : Snd prog w B CM f C hi) : Snd prog w B CM f C (.sliceTo a hi) :=
  ⟨fun _ hc => onSub_e hc fun v sl p hc => onSlice_e (P := fun sl => Both prog w B CM f C (.sliceTo a hi) (.Subscript v sl p)) hc fun l u p' hc => onO_e (P := fun u => Both prog w B CM f C (.sliceTo a hi) (.Subscript v (.Slice l u none p') p)) hc fun u hc => isNone_e (P := fun l => Both prog w B CM f C (.sliceTo a hi) (.Subscript v (.Slice l (some u) none p') p)) (an hc).1
    (have h := an (an hc).2
     have h1 := an h.2
     pair (ev_sliceTo (p := p') (p' := p) h.1 (iha.1 _ h1.1).1 (ihu.1 _ h1.2).1) fun _ => rfl), fun _ hc => no2 hc⟩
theorem snd_replace {a : E} {x y : List Nat} (iha : Snd prog w B CM f C a) : Snd prog w B CM f C (.replace a x y) :=
  ⟨fun _ hc => onMeth_e hc fun o ap as p h1 h2 hc => onC_e (P := fun as => Both prog w B CM f C (.replace a x y) (.Call (.Attribute o "replace" ap) as [] p)) hc fun e1 as hc => on1_e (P := fun as => Both prog w B CM f C (.replace a x y) (.Call (.Attribute o "replace" ap) (e1 :: as) [] p)) hc fun e2 hc =>
    onConst_e (P := fun e1 => Both prog w B CM f C (.replace a x y) (.Call (.Attribute o "replace" ap) [e1, e2] [] p)) hc fun c1 n1 p1 hc => onCS_e (P := fun c1 => Both prog w B CM f C (.replace a x y) (.Call (.Attribute o "replace" ap) [.Constant c1 n1 p1, e2] [] p)) hc fun u hc =>
    onConst_e (P := fun e2 => Both prog w B CM f C (.replace a x y) (.Call (.Attribute o "replace" ap) [.Constant (.str u) n1 p1, e2] [] p)) hc fun c2 n2 p2 hc => onCS_e (P := fun c2 => Both prog w B CM f C (.replace a x y) (.Call (.Attribute o "replace" ap) [.Constant (.str u) n1 p1, .Constant c2 n2 p2] [] p)) hc fun v hc =>
    eqS (P := fun u => Both prog w B CM f C (.replace a x y) (.Call (.Attribute o "replace" ap) [.Constant (.str u) n1 p1, .Constant (.str v) n2 p2] [] p)) (an (an hc).2).1 (eqS (P := fun v => Both prog w B CM f C (.replace a x y) (.Call (.Attribute o "replace" ap) [.Constant (.str (st x)) n1 p1, .Constant (.str v) n2 p2] [] p)) (an (an hc).2).2
      (pair (ev_replace (f := f) h2 h1 (iha.1 _ (an hc).1).1) fun _ => rfl)), fun _ hc => no2 hc⟩
theorem sound_E (T0 : Top0 prog w B fn CM) (HC : CallsOk prog w B fn CM C n) (K : f.Ok n) : ∀ e : E, Snd prog w B CM f C e := by
  intro e
  induction e with
  | loc i => exact ⟨fun _ hc => onName_e hc fun _ _ hc => pair (ev_loc K (dt (an hc).1) (dt (an (an hc).2).1) (eq_of_beq (an (an hc).2).2)) fun _ => rfl, fun _ hc => no2 hc⟩
  | none => exact ⟨fun _ hc => onConst_e hc fun c n p hc => eqD (P := fun c => Both prog w B CM f C .none (.Constant c n p)) hc (pair (fun t ρ s r t' ev I tk => Constant_none (wp_here (tk := s.toks) ev I .none)) fun _ => rfl), fun _ hc => no2 hc⟩
  | bool b => exact ⟨fun _ hc => onConst_e hc fun c n p hc => onCB_e (P := fun c => Both prog w B CM f C (.bool b) (.Constant c n p)) hc fun x hc => (dt hc) ▸ (pair (fun t ρ s r t' ev I tk => Constant_bool (wp_here (tk := s.toks) ev I (.bool b))) fun _ => rfl), fun _ hc => no2 hc⟩
  | int i => exact ⟨fun _ hc => onConst_e hc fun c n p hc => onCI_e (P := fun c => Both prog w B CM f C (.int i) (.Constant c n p)) hc fun x hc => eqD (P := fun x => Both prog w B CM f C (.int i) (.Constant (.int x) n p)) hc (pair (fun t ρ s r t' ev I tk => wpAny_Constant_int (wp_here ev I (.int _ _))) fun _ => rfl), fun _ hc => no2 hc⟩
  | neg i => exact snd_neg
  | str x => exact ⟨fun _ hc => onK_e hc fun n p h2 => pair (fun t ρ s r t' ev I tk => wpAny_Constant_str (wp_here ev I (.str x _ (dt h2)))) fun _ => rfl, fun _ hc => no2 hc⟩
  | op o a b iha ihb => exact ⟨fun _ hc => onBin_e hc fun l op r p hc => eqD (P := fun op => Both prog w B CM f C (.op o a b) (.BinOp l op r p)) (an hc).1 (pair (ev_op (o := o) ((iha.1 _ (an (an hc).2).1).1) ((ihb.1 _ (an (an hc).2).2).1)) fun _ => rfl), fun _ hc => no2 hc⟩
  | cmp c a b iha ihb => exact snd_cmp T0 K iha ihb
  | between a b c iha ihb ihc => exact snd_between T0 K iha ihb ihc
  | and a b iha ihb => exact snd_and iha ihb
  | or a b iha ihb => exact snd_or iha ihb
  | ifx c a b ihc iha ihb => exact snd_ifx ihc iha ihb
  | nil => exact ⟨fun _ hc => no2 hc, fun pes hc => by rw [List.isEmpty_iff.mp hc]; exact ⟨as_nil, kv_nil⟩⟩
  | cons a b iha ihb => exact ⟨fun _ hc => no2 hc, fun pes hc => onC_e (P := fun pes => AsOk prog w B CM f C (.cons a b) pes ∧ KvOk prog w B CM f C (.cons a b) pes) hc fun e r hc => ⟨as_cons (chk_star (an hc).1 _ _) (iha.1 _ (an hc).1).1 (ihb.2 _ (an hc).2).1, kv_cons (iha.1 _ (an hc).1).1 (ihb.2 _ (an hc).2).2⟩⟩
  | tup es ih => exact ⟨fun _ hc => onTup_e hc fun _ _ _ h => pair (ev_tup (ih.2 _ (an h).1).1 (dt (an h).2)) fun _ => rfl, fun _ hc => no2 hc⟩
  | list es ih => exact ⟨fun _ hc => onList_e hc fun _ _ h => pair (ev_list (ih.2 _ (an h).1).1 (dt (an h).2)) fun _ => rfl, fun _ hc => no2 hc⟩
  | flist es ih => exact ⟨fun _ hc => onList_e hc fun _ _ h => pair (ev_flist (ih.2 _ (an h).1).1 (dt (an h).2)) fun _ => rfl, fun _ hc => no2 hc⟩
  | dict ks es ih => exact snd_dict T0 ih
  | call i es ih => exact snd_call T0 HC K ih
  | len a ih => exact snd_len T0 K ih
  | ord a ih => exact snd_ord T0 K ih
  | idx a i iha ihi => exact ⟨fun _ hc => onSub_e hc fun _ _ _ h => pair (ev_idx (iha.1 _ (an h).1).1 (ihi.1 _ (an h).2).1) fun _ => rfl, fun _ hc => no2 hc⟩
  | slice a lo hi iha ihl ihu => exact snd_slice iha ihl ihu
  | sliceFrom a lo iha ihl => exact snd_sliceFrom iha ihl
  | sliceTo a hi iha ihu => exact snd_sliceTo iha ihu
  | append a x iha ihx => exact ⟨fun _ hc => onMeth_e hc fun o ap as p h1 h2 hc => on1_e (P := fun as => Both prog w B CM f C (.append a x) (.Call (.Attribute o "append" ap) as [] p)) hc fun e h => pair (ev_append (f := f) h2 h1 (chk_star (an h).2 _ _) (iha.1 _ (an h).1).1 (ihx.1 _ (an h).2).1) fun _ => rfl, fun _ hc => no2 hc⟩
  | pop a iha => exact ⟨fun _ hc => onMeth_e hc fun o ap as p h1 h2 hc => by
      rw [List.isEmpty_iff.mp (an hc).1]
      exact pair (ev_pop (f := f) h2 h1 (iha.1 _ (an hc).2).1) fun _ => rfl, fun _ hc => no2 hc⟩
  | endswith a x iha ihx => exact ⟨fun _ hc => onMeth_e hc fun o ap as p h1 h2 hc => on1_e (P := fun as => Both prog w B CM f C (.endswith a x) (.Call (.Attribute o "endswith" ap) as [] p)) hc fun e h => pair (ev_endswith (f := f) h2 h1 (chk_star (an h).2 _ _) (iha.1 _ (an h).1).1 (ihx.1 _ (an h).2).1) fun _ => rfl, fun _ hc => no2 hc⟩
  | replace a x y iha => exact snd_replace iha
end
end Nt
end

section
open PySem PySem.W PyProof.Rows PySem.Calls PySem.SeqAt
set_option genSizeOf false
set_option genInjectivity false
set_option maxRecDepth 100000
set_option autoImplicit false
namespace Nt

/-- only what belongs to the exception is changed, and the frames' slots -/
structure Ex (Φ Xs : List Addr) (hs h h' : Heap) : Prop where
  same : ∀ b o, h.get? b = some o → b ∉ Xs → b ∉ Φ → h'.get? b = some o
  slots : ∀ b o, h.get? b = some o → b ∉ Xs → b ∈ Φ → ∃ sl, h'.get? b = some { o with slots := sl }
  rec_ : ∀ b ∈ Xs, (∃ o vs, h.get? b = some o ∧ o.data = .fields vs) ∧ hs.get? b = none

section
variable {prog : Program} {w : World} {B : Heap} {CM : Addr} {f : Fm} {n : Nat}

theorem Ex.upToX {Φ Xs : List Addr} {hs h h' : Heap} (x : Ex Φ Xs hs h h') {b : Addr} {o : Obj} (e : h.get? b = some o) (n : b ∉ Xs) : ∃ sl, h'.get? b = some { o with slots := sl } := by
  by_cases p : b ∈ Φ
  · exact x.slots b o e n p
  · exact ⟨o.slots, x.same b o e n p⟩
theorem Ex.upTo {Φ Xs : List Addr} {hs h h' : Heap} (x : Ex Φ Xs hs h h') {b : Addr} {o : Obj} (e : h.get? b = some o) (d : ∀ vs, o.data ≠ .fields vs) : ∃ sl, h'.get? b = some { o with slots := sl } :=
  x.upToX e fun m => by obtain ⟨⟨o', vs, e', d'⟩, _⟩ := x.rec_ b m; rw [e] at e'; (first | exact no e' | exact no1 e' | exact no2 e' | exact noE e' | exact noE1 e' | obtain rfl := Option.some.inj e' | obtain rfl := Except.ok.inj e' | obtain rfl := e' | cases e'); exact d vs d'
theorem Ex.at {Φ Xs : List Addr} {hs h h' : Heap} (x : Ex Φ Xs hs h h') {b : Addr} {o : Obj} (e : h.get? b = some o) (d : ∀ vs, o.data ≠ .fields vs) (n : b ∉ Φ) : h'.get? b = some o :=
  x.same b o e (fun m => by obtain ⟨⟨o', vs, e', d'⟩, _⟩ := x.rec_ b m; rw [e] at e'; (first | exact no e' | exact no1 e' | exact no2 e' | exact noE e' | exact noE1 e' | obtain rfl := Option.some.inj e' | obtain rfl := Except.ok.inj e' | obtain rfl := e' | cases e'); exact d vs d') n

theorem whyNoFields {o : Obj} {x : List Nat} (h : WhyObj o x) : ∀ vs, o.data ≠ .fields vs := by
  obtain ⟨a, b, c, d, rfl⟩ := h
  intro vs q; (first | exact no q | exact no1 q | exact no2 q | exact noE q | exact noE1 q | obtain rfl := Option.some.inj q | obtain rfl := Except.ok.inj q | obtain rfl := q | cases q)

theorem FI.exc {ρ : List Addr} {t : St} {Xs : List Addr} {hs h h' : Heap} (I : FI prog w B f ρ t h) (x : Ex (frs (f.env :: f.outer)) Xs hs h h') (hB : B.StaysIn hs) : FI prog w B f ρ t h' := by
  have hf : ∀ b, b ∈ frs (f.env :: f.outer) ↔ b = f.L ∨ b ∈ frs f.outer := fun b => List.mem_cons
  have ss : SeqStay ρ h h' := fun b o e _ d => x.upTo e fun vs q => by obtain ⟨_, _, d⟩ := d; rw [d] at q; (first | exact no q | exact no1 q | exact no2 q | exact noE q | exact noE1 q | obtain rfl := Option.some.inj q | obtain rfl := Except.ok.inj q | obtain rfl := q | cases q)
  obtain ⟨m, ns, l⟩ := I.ns
  refine ⟨⟨fun b o e => ?_, I.ci.frames.of_keeps fun b o e d => ?_, I.ci.apart, I.ci.hr.stay (fun a ma ob e => ?_) ss⟩, ⟨m, ?_, l.stay ss (.refl _ _)⟩, I.len, I.new, I.out, I.off⟩
  · refine x.same b o (I.ci.base b o e) (fun q => ?_) fun q => ?_
    · have := (x.rec_ b q).2
      rw [hB b o e] at this; (first | exact no this | exact no1 this | exact no2 this | exact noE this | exact noE1 this | obtain rfl := Option.some.inj this | obtain rfl := Except.ok.inj this | obtain rfl := this | cases this)
    · rcases (hf b).mp q with q | q
      · rw [q, I.new] at e; (first | exact no e | exact no1 e | exact no2 e | exact noE e | exact noE1 e | obtain rfl := Option.some.inj e | obtain rfl := Except.ok.inj e | obtain rfl := e | cases e)
      · rw [(I.ci.frames.mem q).1] at e; (first | exact no e | exact no1 e | exact no2 e | exact noE e | exact noE1 e | obtain rfl := Option.some.inj e | obtain rfl := Except.ok.inj e | obtain rfl := e | cases e)
  · obtain ⟨sl, e'⟩ := x.upTo e d
    exact ⟨_, e', rfl⟩
  · obtain ⟨_, _, _, _, y⟩ := I.ci.hr.at ma
    refine x.at e (y.noFields e) fun q => ?_
    rcases (hf a).mp q with q | q
    · exact I.off (q ▸ ma)
    · exact I.ci.apart a q ma
  · obtain ⟨o, es, ep, e, d, r⟩ := ns
    obtain ⟨sl, e'⟩ := x.upTo e fun vs q => by rw [d] at q; (first | exact no q | exact no1 q | exact no2 q | exact noE q | exact noE1 q | obtain rfl := Option.some.inj q | obtain rfl := Except.ok.inj q | obtain rfl := q | cases q)
    exact ⟨_, es, ep, e', d, r⟩
theorem Gr.exc {ρ ρ' : List Addr} {Xs : List Addr} {s s' : Shared} {h' : Heap} (g : Gr (frs f.outer) (f.X ρ) ρ ρ' s s') (x : Ex (frs (f.env :: f.outer)) Xs s.heap s'.heap h') : Gr (frs f.outer) (f.X ρ) ρ ρ' s { s' with heap := h' } := by
  have hf : ∀ b, b ∈ frs (f.env :: f.outer) ↔ b = f.L ∨ b ∈ frs f.outer := fun b => List.mem_cons
  have nX : ∀ b o, s.heap.get? b = some o → b ∉ Xs := fun b o e q => by have := (x.rec_ b q).2; rw [e] at this; (first | exact no this | exact no1 this | exact no2 this | exact noE this | exact noE1 this | obtain rfl := Option.some.inj this | obtain rfl := Except.ok.inj this | obtain rfl := this | cases this)
  refine ⟨⟨fun b o e n p => ?_, fun b o e n p => ?_, fun b o e => ?_⟩, g.grows, g.gens, g.os⟩
  · refine x.same b o (g.ext.same b o e n p) (nX b o e) fun q => ?_
    rcases (hf b).mp q with q | q
    · exact n (q ▸ .head _)
    · exact p q
  · obtain ⟨sl, e1⟩ := g.ext.slots b o e n p
    obtain ⟨sl', e2⟩ := x.upToX e1 (nX b o e)
    exact ⟨sl', e2⟩
  · obtain ⟨o', e1⟩ := g.ext.live b o e
    obtain ⟨sl, e2⟩ := x.upToX e1 (nX b o e)
    exact ⟨_, e2⟩

theorem wp_entry {A : Around} {env : Env} {outer : List Env} {L e dx : Addr} {oe od : Obj} {vs : Array Value} {head : Value} {hadNext : Bool} {E : Value → Shared → Prop} {Q : Unit → Shared → Prop} {hs : Heap} {s : Shared} {x : List Nat}
    (hfr : A.frames = some (env :: outer)) (hl : s.heap.FunFrames B (env :: outer)) (hF : ∀ b ∈ frs (env :: outer), hs.get? b ≠ none) (hf : env.frame = some L)
    (he : s.heap.get? e = some oe) (hcl : oe.cls = .ref CM) (hdx : oe.dict = some dx) (hd : oe.data = .fields vs) (hsz : 1 < vs.size) (hen : hs.get? e = none) (hod : s.heap.get? dx = some od) (hw : WhyObj od x) (hdn : hs.get? dx = none) (hlive : ∀ b o, hs.get? b = some o → ∃ o', s.heap.get? b = some o')
    (h : ∀ h' Xs, Ex (frs (env :: outer)) Xs hs s.heap h' → ExcAt CM hs h' e x (rawInt L) → Q () { s with heap := h' }) :
    wpAny (model prog w) A (do let a ← frameOf env; let pl ← entryPlaceOf L hadNext; let b ← EntryCells.newEntry head a .none (rawInt L) .none pl; setField (.ref e) 1 b) Q E s := by
  have eF : e ∉ frs (env :: outer) := fun m => hF e m hen
  have dF : dx ∉ frs (env :: outer) := fun m => hF dx m hdn
  refine wpAny_bind (wpAny_frameOf_fun hfr hl hf fun h₁ hs₁ => wpAny_bind (wpAny_entryPlaceOf fun pl hpl => ?_))
  unfold EntryCells.newEntry newFields
  refine wpAny_bind (wpAny_newObj_type ?_ (hpl.sizeOk5 _ _ _ _ _))
  have he₁ : h₁.get? e = some oe := (hs₁.2.1 e eF).trans he
  generalize hob : ({ cls := .type "traceback", dict := none, data := .fields ([head, .ref L, .none, rawInt L, .none] ++ (if pl.isEmpty then List.replicate 6 Value.none else pl)).toArray } : Obj) = ob
  have he₂ : (h₁.push ob).get? e = some oe := Heap.get?_push_of_some _ he₁
  have hTe : h₁.objs.size ≠ e := Nat.ne_of_gt (Heap.lt_size he₁)
  have hd₃ := Obj.data_mapFields hd (·.setIfInBounds 1 (Value.ref h₁.objs.size))
  have he₃ := Heap.get?_update_self (Obj.mapFields (·.setIfInBounds 1 (Value.ref h₁.objs.size))) he₂ (Obj.isFreed_of_fields hd₃)
  have hT₃ := (Heap.get?_update_other (h₁.push ob) (Obj.mapFields (·.setIfInBounds 1 (Value.ref h₁.objs.size))) (Ne.symm hTe)).trans (Heap.get?_push_size h₁ (by subst hob; rfl))
  have keep : ∀ b o, b ≠ e → h₁.get? b = some o → ((h₁.push ob).update e (Obj.mapFields (·.setIfInBounds 1 (Value.ref h₁.objs.size)))).get? b = some o := fun b o hbe hb => by
    rw [Heap.get?_update_other _ _ (Ne.symm hbe)]
    exact Heap.get?_push_of_some _ hb
  refine wpAny_setField he₂ hd hsz (h _ [e] ⟨fun b o eb nX nΦ => ?_, fun b o eb nX _ => ?_, fun b m => ?_⟩ ?_)
  · exact keep b o (fun q => nX (by simp [q])) ((hs₁.2.1 b nΦ).trans eb)
  · obtain ⟨sl, q⟩ := hs₁.2.2 b o eb
    exact ⟨sl, keep b _ (fun q => nX (by simp [q])) q⟩
  · rw [List.mem_singleton.mp m]
    exact ⟨⟨oe, vs, he, hd⟩, hen⟩
  · have hde : dx ≠ e := fun q => by subst q; rw [he] at hod; (first | exact no hod | exact no1 hod | exact no2 hod | exact noE hod | exact noE1 hod | obtain rfl := Option.some.inj hod | obtain rfl := Except.ok.inj hod | obtain rfl := hod | cases hod); exact whyNoFields hw vs hd
    have hTn : hs.get? h₁.objs.size = none := by
      cases q : hs.get? h₁.objs.size with
      | none => rfl
      | some o =>
        obtain ⟨o', q'⟩ := hlive _ o q
        obtain ⟨sl, q''⟩ := hs₁.2.2 _ _ q'
        exact absurd (Heap.lt_size q'') (Nat.lt_irrefl _)
    refine ⟨_, _, dx, od, he₃, ?_, ?_, hd₃, hen, keep dx od hde ((hs₁.2.1 dx dF).trans hod), hw, hdn, h₁.objs.size, ob, _, by simp [hsz], hTe, hTn, hT₃, (by subst hob; rfl), by simp⟩
    · rw [Obj.cls_mapFields]; exact hcl
    · (first | exact no oe | exact no1 oe | exact no2 oe | exact noE oe | exact noE1 oe | obtain rfl := Option.some.inj oe | obtain rfl := Except.ok.inj oe | obtain rfl := oe | cases oe)
      simp only at hd hdx ⊢
      subst hd
      exact hdx

theorem wp_note {A : Around} {env : Env} {outer : List Env} {L e : Addr} {E : Value → Shared → Prop} {Q : Unit → Shared → Prop} {hs : Heap} {s : Shared} {x : List Nat}
    (hfr : A.frames = some (env :: outer)) (hl : s.heap.FunFrames B (env :: outer)) (hF : ∀ b ∈ frs (env :: outer), hs.get? b ≠ none) (hf : env.frame = some L) (hlive : ∀ b o, hs.get? b = some o → ∃ o', s.heap.get? b = some o')
    (X : ExcIn CM L hs s.heap e x) (h : ∀ h' Xs, Ex (frs (env :: outer)) Xs hs s.heap h' → ExcAt CM hs h' e x (rawInt L) → Q () { s with heap := h' }) :
    wpAny (model prog w) A (noteFrame (.ref e) env) Q E s := by
  obtain ⟨oe, vs, dx, od, he, hc, hdx, hd, hen, hod, hw, hdn, htb⟩ := X
  unfold noteFrame
  simp only [hf]
  rcases htb with h1 | ⟨T, oT, ts, h1, hTe, hTn, hT, hdT, h3⟩
  · refine wpAny_bind (wpAny_field he hd h1 ?_)
    rw [if_neg (by decide)]
    exact wp_entry hfr hl hF hf he hc hdx hd (Array.getElem?_eq_some_iff.mp h1).1 hen hod hw hdn hlive h
  · refine wpAny_bind (wpAny_field he hd h1 ?_)
    rw [if_pos (show (Value.ref T != Value.none) = true from by simp)]
    rcases h3 with h3 | h3
    · refine wpAny_bind (wpAny_field hT hdT h3 ?_)
      rw [if_neg (show ¬ ((Value.none == rawInt L) = true) from by simp [rawInt])]
      refine wpAny_bind (wpAny_setField hT hdT (Array.getElem?_eq_some_iff.mp h3).1 ?_)
      have other : ∀ b, b ≠ T → (s.heap.update T (Obj.mapFields (·.setIfInBounds 3 Value.none))).get? b = s.heap.get? b := fun b hb => Heap.get?_update_other _ _ (Ne.symm hb)
      have noRecord : ∀ b o, s.heap.get? b = some o → (∀ vs, o.data ≠ .fields vs) → b ≠ T := fun b o hb hnf q => by
        rw [q, hT] at hb; injection hb with hb; subst hb; exact hnf ts hdT
      have liveT : ∃ o', (s.heap.update T (Obj.mapFields (·.setIfInBounds 3 Value.none))).get? T = some o' := ⟨_, Heap.get?_update_self _ hT (Obj.isFreed_of_fields (Obj.data_mapFields hdT _))⟩
      have keepl : ∀ b o, s.heap.get? b = some o → ∃ o', (s.heap.update T (Obj.mapFields (·.setIfInBounds 3 Value.none))).get? b = some o' := fun b o q => by
        by_cases q' : b = T
        · exact q' ▸ liveT
        · exact ⟨o, (other b q').trans q⟩
      refine wp_entry hfr (hl.of_keeps fun b o hb hnf => ⟨o, (other b (noRecord b o hb hnf)).trans hb, rfl⟩) hF hf ((other e (Ne.symm hTe)).trans he) hc hdx hd (Array.getElem?_eq_some_iff.mp h1).1 hen
        ((other dx (noRecord dx od hod (whyNoFields hw))).trans hod) hw hdn (fun b o q => by
          obtain ⟨o', q'⟩ := hlive b o q
          exact keepl b o' q') fun h' Xs hx hX => h h' (T :: Xs) ⟨fun b o eb nX nΦ => ?_, fun b o eb nX nΦ => ?_, fun b m => ?_⟩ hX
      · simp only [List.mem_cons, not_or] at nX
        exact hx.same b o ((other b nX.1).trans eb) nX.2 nΦ
      · simp only [List.mem_cons, not_or] at nX
        exact hx.slots b o ((other b nX.1).trans eb) nX.2 nΦ
      · rcases List.mem_cons.mp m with m | m
        · rw [m]; exact ⟨⟨oT, ts, hT, hdT⟩, hTn⟩
        · obtain ⟨⟨o, us, q1, q2⟩, q3⟩ := hx.rec_ b m
          refine ⟨?_, q3⟩
          by_cases q' : b = T
          · rw [q']; exact ⟨oT, ts, hT, hdT⟩
          · exact ⟨o, us, (other b q').symm.trans q1, q2⟩
    · refine wpAny_bind (wpAny_field hT hdT h3 ?_)
      rw [if_pos (show (rawInt L == rawInt L) = true from by simp)]
      refine wpAny_pure (h s.heap [] ⟨fun _ _ q _ _ => q, fun _ o q _ _ => ⟨o.slots, q⟩, fun b m => by cases m⟩ ?_)
      exact ⟨oe, vs, dx, od, he, hc, hdx, hd, hen, hod, hw, hdn, T, oT, ts, h1, hTe, hTn, hT, hdT, h3⟩

theorem wp_flight {A : Around} {e : Addr} {fl : Value} {o : Option Addr} {E : Value → Shared → Prop} {Q : Unit → Shared → Prop} {hs : Heap} {s : Shared} {x : List Nat} (Φ : List Addr)
    (X : ExcAt CM hs s.heap e x fl) (h : ∀ h' Xs, Ex Φ Xs hs s.heap h' → ExcAt CM hs h' e x (o.elim .none fun f => rawInt f) → Q () { s with heap := h' }) :
    wpAny (model prog w) A (setFlight (.ref e) o) Q E s := by
  obtain ⟨oe, vs, dx, od, he, hc, hdx, hd, hen, hod, hw, hdn, T, oT, ts, h1, hTe, hTn, hT, hdT, h3⟩ := X
  unfold setFlight
  refine wpAny_bind (wpAny_field he hd h1 ?_)
  rw [if_pos (show (Value.ref T != Value.none) = true from by simp)]
  have other : ∀ b, b ≠ T → (s.heap.update T (Obj.mapFields (·.setIfInBounds 3 (o.elim Value.none fun f => rawInt f)))).get? b = s.heap.get? b := fun b hb => Heap.get?_update_other _ _ (Ne.symm hb)
  have self := Heap.get?_update_self (Obj.mapFields (·.setIfInBounds 3 (o.elim Value.none fun f => rawInt f))) hT (Obj.isFreed_of_fields (Obj.data_mapFields hdT _))
  have hsz := (Array.getElem?_eq_some_iff.mp h3).1
  have hdT' : dx ≠ T := fun q => by subst q; rw [hT] at hod; (first | exact no hod | exact no1 hod | exact no2 hod | exact noE hod | exact noE1 hod | obtain rfl := Option.some.inj hod | obtain rfl := Except.ok.inj hod | obtain rfl := hod | cases hod); exact whyNoFields hw ts hdT
  refine wpAny_setField hT hdT hsz (h _ [T] ⟨fun b o' eb nX nΦ => ?_, fun b o' eb nX nΦ => ⟨o'.slots, ?_⟩, fun b m => ?_⟩ ?_)
  · exact (other b fun q => nX (by simp [q])).trans eb
  · exact (other b fun q => nX (by simp [q])).trans eb
  · rw [List.mem_singleton.mp m]; exact ⟨⟨oT, ts, hT, hdT⟩, hTn⟩
  · exact ⟨oe, vs, dx, od, (other e (Ne.symm hTe)).trans he, hc, hdx, hd, hen, (other dx hdT').trans hod, hw, hdn, T, _, _, h1, hTe, hTn, self, Obj.data_mapFields hdT _, by simp [hsz]⟩

theorem frs_liveF {ρ : List Addr} {t : St} {h : Heap} (I : FI prog w B f ρ t h) : ∀ b ∈ frs (f.env :: f.outer), h.get? b ≠ none := fun b m => by
  rcases List.mem_cons.mp (show b ∈ f.L :: frs f.outer from m) with q | q
  · obtain ⟨_, ⟨o, _, _, e, _⟩, _⟩ := I.ns
    rw [q, e]; exact fun q => by (first | exact no q | exact no1 q | exact no2 q | exact noE q | exact noE1 q | obtain rfl := Option.some.inj q | obtain rfl := Except.ok.inj q | obtain rfl := q | cases q)
  · obtain ⟨o, e⟩ := frs_live I.ci.frames q
    rw [e]; exact fun q => by (first | exact no q | exact no1 q | exact no2 q | exact noE q | exact noE1 q | obtain rfl := Option.some.inj q | obtain rfl := Except.ok.inj q | obtain rfl := q | cases q)

/-- as PE, its trace laid here -/
inductive PN {α : Type} (prog : Program) (w : World) (B : Heap) (CM : Addr) (f : Fm) (ρ : List Addr) (r : Except (List Nat) α) (t' : St) (s : Shared) (c : Value) (s' : Shared) : Prop
  | mk (x : List Nat) (e : Addr) (ρ' : List Addr) : c = .ref e → r = .error x → ExcAt CM s.heap s'.heap e x (rawInt f.L) → FI prog w B f ρ' t' s'.heap → Gr (frs f.outer) (f.X ρ) ρ ρ' s s' → PN prog w B CM f ρ r t' s c s'
theorem ExcAt.in {L : Addr} {hs h : Heap} {e : Addr} {x : List Nat} (q : ExcAt CM hs h e x (rawInt L)) : ExcIn CM L hs h e x := by
  obtain ⟨oe, vs, dx, od, h1, h2, h3, h4, h5, h6, h7, h8, T, oT, ts, a, b, c, d, e, g⟩ := q
  exact ⟨oe, vs, dx, od, h1, h2, h3, h4, h5, h6, h7, h8, .inr ⟨T, oT, ts, a, b, c, d, e, .inr g⟩⟩
theorem PN.pe {α : Type} {ρ : List Addr} {r : Except (List Nat) α} {t' : St} {s s' : Shared} {c : Value} (p : PN prog w B CM f ρ r t' s c s') : PE prog w B CM f ρ r t' s c s' := by
  obtain ⟨x, e, ρ', h1, h2, h3, h4, h5⟩ := p
  exact ⟨x, e, ρ', h1, h2, h3.in, h4, h5⟩

theorem noted {α : Type} {ρ : List Addr} {r : Except (List Nat) α} {t t' : St} {s s' : Shared} {c : Value} {R : Value → Shared → Prop} (K : f.Ok n) (I : FI prog w B f ρ t s.heap) (p : PE prog w B CM f ρ r t' s c s')
    (h : ∀ s'', PN prog w B CM f ρ r t' s c s'' → R c s'') : notedBy (model prog w) f.A f.env R c s' := by
  obtain ⟨x, e, ρ', rfl, h2, h3, I', g⟩ := p
  exact wp_note (B := B) (L := f.L) K.fr (I'.down (s := s') K).frames (frs_liveF I) rfl g.ext.live h3 fun h' Xs hx hX => h _ ⟨x, e, ρ', rfl, h2, hX, I'.exc hx I.ci.base, g.exc hx⟩
theorem cameBack {α : Type} {ρ : List Addr} {r : Except (List Nat) α} {t t' : St} {s s' : Shared} {c : Value} {R : Value → Shared → Prop} (I : FI prog w B f ρ t s.heap) (p : PN prog w B CM f ρ r t' s c s')
    (h : ∀ s'', PE prog w B CM f ρ r t' s c s'' → R c s'') : cameBackBy (model prog w) f.A f.env R c s' := by
  obtain ⟨x, e, ρ', rfl, h2, h3, I', g⟩ := p
  have h3' := h3
  obtain ⟨oe, vs, dx, od, he, hc, hdx, hd, hen, hod, hw, hdn, T, oT, ts, h1, hTe, hTn, hT, hdT, h3⟩ := h3
  unfold cameBackBy
  refine wpAny_bind (wpAny_field he hd h1 ?_)
  rw [if_neg (by simp)]
  exact wp_flight (frs (f.env :: f.outer)) h3' fun h' Xs hx hX => h _ ⟨x, e, ρ', rfl, h2, ExcAt.in hX, I'.exc hx I.ci.base, g.exc hx⟩
theorem leaves {α : Type} {ρ : List Addr} {r : Except (List Nat) α} {t t' : St} {s s' : Shared} {c : Value} {E : Value → Shared → Prop} {R : Unit → Shared → Prop} (K : f.Ok n) (I : FI prog w B f ρ t s.heap) (p : PE prog w B CM f ρ r t' s c s')
    (h : ∀ s'' x e ρ', c = .ref e → r = .error x → ExcOut CM s.heap s''.heap e x → FI prog w B f ρ' t' s''.heap → Gr (frs f.outer) (f.X ρ) ρ ρ' s s'' → R () s'') : wpAny (model prog w) f.A (leaving f.env c) R E s' := by
  obtain ⟨x, e, ρ', rfl, h2, h3, I', g⟩ := p
  unfold leaving
  refine wpAny_bind (wp_note (B := B) (L := f.L) K.fr (I'.down (s := s') K).frames (frs_liveF I) rfl g.ext.live h3 fun h' Xs hx hX => ?_)
  have I2 := I'.exc hx I.ci.base
  have g2 := g.exc hx
  exact wp_flight (frs (f.env :: f.outer)) hX fun h'' Xs' hx' hX' => h _ x e ρ' rfl h2 hX' (I2.exc hx' I.ci.base) (g2.exc hx')
end
end Nt
end

section
open PySem PySem.W PyProof.Rows PySem.Calls PySem.SeqAt
set_option genSizeOf false
set_option genInjectivity false
set_option maxRecDepth 100000
set_option autoImplicit false
namespace Nt

noncomputable def chkN (sc : Scope) (nm : List Str) (i : Nat) (x : Str) : Bool := decide (nm[i]? = some x) && decide (sc.names.lookup x = some .local)
noncomputable def chkTs (sc : Scope) (nm : List Str) : List Nat → List Expr → Bool
  | [], l => l.isEmpty
  | i :: is, l => onC l fun e r => onName e fun x => chkN sc nm i x && chkTs sc nm is r
noncomputable def nmsOf (es : List Expr) : List Str := es.filterMap fun e => if tagIs e 1 then some (toH e).x else none
noncomputable def isCall (e : Expr) : Bool := tagIs e 7
noncomputable def isComp (e : Expr) : Bool := tagIs e 0
noncomputable def unOk (elts : List Expr) (v : Expr) : Bool := !tagIs v 9 || ((elts.length != 2 && elts.length != 3) || (toH v).l.all (foldedForSure 8))
noncomputable def swOk (elts : List Expr) (v : Expr) : Bool := onTup v fun vs => (elts.length == 2 || elts.length == 3) && (vs.length == elts.length && (elts.all (fun e => e.pos.line == (elts.head?.map (·.pos.line)).getD 0) && ((nmsOf elts).eraseDups.length == (nmsOf elts).length && (!(vs.all (foldedForSure 8)) && !(vs.all (constantsAlone 8))))))
/-- a statement's head as a record -/
structure Hs where
  tag : Nat
  ts : List Expr
  o : Operator
  a : Expr
  b : Expr
  q1 : Option Expr
  q2 : Option Expr
  x : List Stmt
  y : List Stmt
  p : Pos
noncomputable def hs0 : Hs := ⟨0, [], .Add, .Name "" ⟨0, 0, 0, 0⟩, .Name "" ⟨0, 0, 0, 0⟩, none, none, [], [], ⟨0, 0, 0, 0⟩⟩
noncomputable def toS (s : Stmt) : Hs := match s with
  | .Assign ts a p => { hs0 with tag := 1, ts, a, p }
  | .AugAssign a o b p => { hs0 with tag := 2, a, o, b, p }
  | .Expr a p => { hs0 with tag := 3, a, p }
  | .Return q1 p => { hs0 with tag := 4, q1, p }
  | .Raise q1 q2 p => { hs0 with tag := 5, q1, q2, p }
  | .If a x y p => { hs0 with tag := 6, a, x, y, p }
  | .While a x y p => { hs0 with tag := 7, a, x, y, p }
  | .For a b x y p => { hs0 with tag := 8, a, b, x, y, p }
  | .Continue p => { hs0 with tag := 9, p }
  | _ => hs0
noncomputable def BackS (n : Nat) (w : Hs) (s : Stmt) : Prop := match n with
  | 0 => True
  | 1 => s = .Assign w.ts w.a w.p
  | 2 => s = .AugAssign w.a w.o w.b w.p
  | 3 => s = .Expr w.a w.p
  | 4 => s = .Return w.q1 w.p
  | 5 => s = .Raise w.q1 w.q2 w.p
  | 6 => s = .If w.a w.x w.y w.p
  | 7 => s = .While w.a w.x w.y w.p
  | 8 => s = .For w.a w.b w.x w.y w.p
  | 9 => s = .Continue w.p
  | _ => True
theorem backS (s : Stmt) : BackS (toS s).tag (toS s) s := by
  (first | exact no s | exact no1 s | exact no2 s | exact noE s | exact noE1 s | obtain rfl := Option.some.inj s | obtain rfl := Except.ok.inj s | obtain rfl := s | cases s) <;> first | exact rfl | exact True.intro
noncomputable def stIs (s : Stmt) (n : Nat) : Bool := (toS s).tag == n
theorem backSAt {s : Stmt} {n : Nat} (h : stIs s n = true) : BackS n (toS s) s := eq_of_beq h ▸ backS s
noncomputable def onAsg (s : Stmt) (k : List Expr → Expr → Bool) : Bool := stIs s 1 && k (toS s).ts (toS s).a
theorem onAsg_e {P : Stmt → Prop} {s : Stmt} {k : List Expr → Expr → Bool} (h : onAsg s k = true) (q : ∀ a b p, k a b = true → P (.Assign a b p)) : P s := Eq.subst (motive := P) (Eq.symm (backSAt (an h).1)) (q _ _ _ (an h).2)
noncomputable def onAug (s : Stmt) (k : Expr → Operator → Expr → Bool) : Bool := stIs s 2 && k (toS s).a (toS s).o (toS s).b
theorem onAug_e {P : Stmt → Prop} {s : Stmt} {k : Expr → Operator → Expr → Bool} (h : onAug s k = true) (q : ∀ a o b p, k a o b = true → P (.AugAssign a o b p)) : P s := Eq.subst (motive := P) (Eq.symm (backSAt (an h).1)) (q _ _ _ _ (an h).2)
noncomputable def onExpr (s : Stmt) (k : Expr → Bool) : Bool := stIs s 3 && k (toS s).a
theorem onExpr_e {P : Stmt → Prop} {s : Stmt} {k : Expr → Bool} (h : onExpr s k = true) (q : ∀ a p, k a = true → P (.Expr a p)) : P s := Eq.subst (motive := P) (Eq.symm (backSAt (an h).1)) (q _ _ (an h).2)
noncomputable def onRet (s : Stmt) (k : Option Expr → Bool) : Bool := stIs s 4 && k (toS s).q1
theorem onRet_e {P : Stmt → Prop} {s : Stmt} {k : Option Expr → Bool} (h : onRet s k = true) (q : ∀ a p, k a = true → P (.Return a p)) : P s := Eq.subst (motive := P) (Eq.symm (backSAt (an h).1)) (q _ _ (an h).2)
noncomputable def onRse (s : Stmt) (k : Option Expr → Option Expr → Bool) : Bool := stIs s 5 && k (toS s).q1 (toS s).q2
theorem onRse_e {P : Stmt → Prop} {s : Stmt} {k : Option Expr → Option Expr → Bool} (h : onRse s k = true) (q : ∀ a b p, k a b = true → P (.Raise a b p)) : P s := Eq.subst (motive := P) (Eq.symm (backSAt (an h).1)) (q _ _ _ (an h).2)
noncomputable def onIte (s : Stmt) (k : Expr → List Stmt → List Stmt → Bool) : Bool := stIs s 6 && k (toS s).a (toS s).x (toS s).y
theorem onIte_e {P : Stmt → Prop} {s : Stmt} {k : Expr → List Stmt → List Stmt → Bool} (h : onIte s k = true) (q : ∀ a b c p, k a b c = true → P (.If a b c p)) : P s := Eq.subst (motive := P) (Eq.symm (backSAt (an h).1)) (q _ _ _ _ (an h).2)
noncomputable def onWh (s : Stmt) (k : Expr → List Stmt → List Stmt → Bool) : Bool := stIs s 7 && k (toS s).a (toS s).x (toS s).y
theorem onWh_e {P : Stmt → Prop} {s : Stmt} {k : Expr → List Stmt → List Stmt → Bool} (h : onWh s k = true) (q : ∀ a b c p, k a b c = true → P (.While a b c p)) : P s := Eq.subst (motive := P) (Eq.symm (backSAt (an h).1)) (q _ _ _ _ (an h).2)
noncomputable def onFor (s : Stmt) (k : Expr → Expr → List Stmt → List Stmt → Bool) : Bool := stIs s 8 && k (toS s).a (toS s).b (toS s).x (toS s).y
theorem onFor_e {P : Stmt → Prop} {s : Stmt} {k : Expr → Expr → List Stmt → List Stmt → Bool} (h : onFor s k = true) (q : ∀ a b c d p, k a b c d = true → P (.For a b c d p)) : P s := Eq.subst (motive := P) (Eq.symm (backSAt (an h).1)) (q _ _ _ _ _ (an h).2)
noncomputable def isCont (s : Stmt) : Bool := stIs s 9
theorem isCont_e {P : Stmt → Prop} {s : Stmt} (h : isCont s = true) (q : ∀ p, P (.Continue p)) : P s := Eq.subst (motive := P) (Eq.symm (backSAt h)) (q _)
noncomputable def chkRaise (sc : Scope) (w : List Nat) (e : Expr) : Bool :=
  onFn e fun x as => on1 as fun e => onConst e fun c => onCS c fun y => decide (x = ("Misused" : Str)) && (isG sc x && (decide (y.cps.toList = w) && decide (w.length ≤ lim)))
theorem chkRaise_e {P : Expr → Prop} {sc : Scope} {w : List Nat} {e : Expr} (h : chkRaise sc w e = true) (q : ∀ np k cp cpos, sc.names.lookup ("Misused" : Str) = some .globalImplicit → w.length ≤ lim → P (.Call (.Name "Misused" np) [.Constant (.str (st w)) k cp] [] cpos)) : P e :=
  onFn_e h fun x np as p h => on1_e (P := fun as => P (.Call (.Name x np) as [] p)) h fun e h => onConst_e (P := fun e => P (.Call (.Name x np) [e] [] p)) h fun c n cp h => onCS_e (P := fun c => P (.Call (.Name x np) [.Constant c n cp] [] p)) h fun y h => by
    have h1 := an h
    have h2 := an h1.2
    have h3 := an h2.2
    obtain rfl := dt h1.1
    exact (st_of (dt h3.1)) ▸ q np n cp p (dt h2.1) (dt h3.2)
theorem chkRaise_i {sc : Scope} {w : List Nat} {e : Expr} (h : chkRaise sc w e = true) : ∃ np k cp cpos, e = .Call (.Name "Misused" np) [.Constant (.str (st w)) k cp] [] cpos ∧ sc.names.lookup ("Misused" : Str) = some .globalImplicit ∧ w.length ≤ lim :=
  chkRaise_e (P := fun e => ∃ np k cp cpos, e = .Call (.Name "Misused" np) [.Constant (.str (st w)) k cp] [] cpos ∧ sc.names.lookup ("Misused" : Str) = some .globalImplicit ∧ w.length ≤ lim) h fun np k cp cpos a b => ⟨np, k, cp, cpos, rfl, a, b⟩

noncomputable def chkS (sc : Scope) (nm : List Str) : S → List Stmt → Bool
  | .skip, ss => ss.isEmpty
  | .cont, ss => on1 ss isCont
  | .seq a b, ss => onC ss fun x r => chkS sc nm a [x] && (!r.isEmpty && chkS sc nm b r)
  | .assign i e, ss => on1 ss fun s => onAsg s fun ts v => on1 ts fun t => onName t fun x => chkN sc nm i x && (chkE sc nm e v && !isComp v)
  | .unpack is e, ss => on1 ss fun s => onAsg s fun ts v => on1 ts fun t => onTup t fun elts => chkTs sc nm is elts && (decide is.Nodup && (chkE sc nm e v && (!isComp v && (unOk elts v || swOk elts v))))
  | .aug i e, ss => on1 ss fun s => onAug s fun t o v => onName t fun x => decide (o = .Add) && (chkN sc nm i x && chkE sc nm e v)
  | .setItem o k e, ss => on1 ss fun s => onAsg s fun ts v => on1 ts fun t => onSub t fun ov kv => chkE sc nm o ov && (chkE sc nm k kv && (chkE sc nm e v && !isComp v))
  | .expr e, ss => on1 ss fun s => onExpr s fun v => chkE sc nm e v && isCall v
  | .ret e, ss => on1 ss fun s => onRet s fun v => onO v fun v => chkE sc nm e v
  | .raise w, ss => on1 ss fun s => onRse s fun v c => onO v fun v => c.isNone && chkRaise sc w v
  | .ite c a b, ss => on1 ss fun s => onIte s fun v x y => chkE sc nm c v && (chkS sc nm a x && chkS sc nm b y)
  | .while c b, ss => on1 ss fun s => onWh s fun v x y => y.isEmpty && (chkE sc nm c v && chkS sc nm b x)
  | .forRange i e b, ss => on1 ss fun s => onFor s fun t it body y => y.isEmpty && onName t fun x => onFn it fun g as => on1 as fun v => chkN sc nm i x && (decide (g = ("range" : Str)) && (isG sc g && (chkE sc nm e v && chkS sc nm b body)))
  | .forList i e b, ss => on1 ss fun s => onFor s fun t v body y => y.isEmpty && onName t fun x => chkN sc nm i x && (isN v && (chkE sc nm e v && chkS sc nm b body))

inductive FR (ρ : List Addr) (h : Heap) : Fl → Flow → Prop
  | next : FR ρ h .next .next
  | cont : FR ρ h .cont .cont
  | ret {v : V} {c : Value} : VR ρ h v c → FR ρ h (.ret v) (.ret c)

section
variable {prog : Program} {w : World} {B : Heap} {fn : Nat → Addr} {CM : Addr} {f : Fm} {C : Calls} {n : Nat}

inductive PF (prog : Program) (w : World) (B : Heap) (f : Fm) (ρ : List Addr) (r : Except (List Nat) Fl) (t' : St) (s : Shared) (c : Flow) (s' : Shared) : Prop
  | mk (v : Fl) (ρ' : List Addr) : r = .ok v → FR ρ' s'.heap v c → FI prog w B f ρ' t' s'.heap → Gr (frs f.outer) (f.X ρ) ρ ρ' s s' → PF prog w B f ρ r t' s c s'
noncomputable def S1Ok (prog : Program) (w : World) (B : Heap) (CM : Addr) (f : Fm) (C : Calls) (S : S) (x : Stmt) : Prop :=
  ∀ (t : St) (ρ : List Addr) (s : Shared) (r : Except (List Nat) Fl) (t' : St), exec C S t = some (r, t') → FI prog w B f ρ t s.heap → 1 ≤ s.toks →
    wpAny (model prog w) f.A (PySem.exec x f.env) (PF prog w B f ρ r t' s) (PE prog w B CM f ρ r t' s) s
noncomputable def SOk (prog : Program) (w : World) (B : Heap) (CM : Addr) (f : Fm) (C : Calls) (S : S) (ss : List Stmt) : Prop :=
  ∀ (t : St) (ρ : List Addr) (s : Shared) (r : Except (List Nat) Fl) (t' : St), exec C S t = some (r, t') → FI prog w B f ρ t s.heap → 1 ≤ s.toks →
    wpAny (model prog w) f.A (execs ss f.env) (PF prog w B f ρ r t' s) (PE prog w B CM f ρ r t' s) s
noncomputable def RaiseOk (prog : Program) (w : World) (B : Heap) (CM : Addr) (f : Fm) : Prop :=
  ∀ (wd : List Nat) (v : Expr) (p : Pos) (t : St) (ρ : List Addr) (s : Shared), chkRaise f.scope wd v = true → FI prog w B f ρ t s.heap → 1 ≤ s.toks →
    wpAny (model prog w) f.A (PySem.exec (.Raise (some v) none p) f.env) (fun _ _ => False) (PE prog w B CM f ρ (.error wd : Except (List Nat) Fl) t s) s

theorem PF.back {ρ ρ₁ : List Addr} {r : Except (List Nat) Fl} {t' : St} {s s₁ : Shared} (g : Gr (frs f.outer) (f.X ρ) ρ ρ₁ s s₁) {c : Flow} {s' : Shared} (p : PF prog w B f ρ₁ r t' s₁ c s') : PF prog w B f ρ r t' s c s' := by
  obtain ⟨v, ρ', h1, h2, h3, h4⟩ := p
  exact ⟨v, ρ', h1, h2, h3, g.transF h4⟩
theorem wpBackF {ρ ρ₁ : List Addr} {r : Except (List Nat) Fl} {t' : St} {s s₁ : Shared} {tr : Sem Flow} (g : Gr (frs f.outer) (f.X ρ) ρ ρ₁ s s₁) (h : wpAny (model prog w) f.A tr (PF prog w B f ρ₁ r t' s₁) (PE prog w B CM f ρ₁ r t' s₁) s₁) :
    wpAny (model prog w) f.A tr (PF prog w B f ρ r t' s) (PE prog w B CM f ρ r t' s) s₁ := wpAny_mono h (fun _ _ p => p.back g) fun _ _ p => p.back g
theorem pf_next {ρ ρ' : List Addr} {r : Except (List Nat) Fl} {t t' : St} {s s' : Shared} (e : ok Fl.next t = some (r, t')) (I : FI prog w B f ρ' t s'.heap) (g : Gr (frs f.outer) (f.X ρ) ρ ρ' s s') : PF prog w B f ρ r t' s .next s' := by
  obtain ⟨rfl, rfl⟩ := ok_some e
  exact ⟨_, ρ', rfl, .next, I, g⟩

theorem wp_bdS {α : Type} {ρ : List Addr} {s : Shared} {m : Res Fl} {k : Fl → St → Res α} {r : Except (List Nat) α} {t' : St} {tr : Sem Flow} {P : Flow → Shared → Prop} {R : Value → Shared → Prop}
    (e : bd m k = some (r, t')) (ih : ∀ r₁ t₁, m = some (r₁, t₁) → wpAny (model prog w) f.A tr (PF prog w B f ρ r₁ t₁ s) (PE prog w B CM f ρ r₁ t₁ s) s)
    (hE : ∀ c s', PE prog w B CM f ρ r t' s c s' → R c s') (ht : 1 ≤ s.toks)
    (h : ∀ v t₁ c s₁ ρ₁, 1 ≤ s₁.toks → m = some (.ok v, t₁) → k v t₁ = some (r, t') → FR ρ₁ s₁.heap v c → FI prog w B f ρ₁ t₁ s₁.heap → Gr (frs f.outer) (f.X ρ) ρ ρ₁ s s₁ → P c s₁) :
    wpAny (model prog w) f.A tr P R s := by
  match m, e, ih, h with
  | some (.ok v, t₁), e, ih, h =>
    refine wpAny_mono (wpAny_toks (ih _ _ rfl)) (fun c s₁ p => ?_) fun c s₁ p => ?_ <;> obtain ⟨p, tk⟩ := p
    · obtain ⟨v', ρ', h1, h2, h3, h4⟩ := p
      (first | exact no h1 | exact no1 h1 | exact no2 h1 | exact noE h1 | exact noE1 h1 | obtain rfl := Option.some.inj h1 | obtain rfl := Except.ok.inj h1 | obtain rfl := h1 | cases h1)
      exact h v t₁ c s₁ ρ' (Nat.le_trans ht tk) rfl e h2 h3 h4
    · obtain ⟨x, e, ρ', h1, h2, h3, h4, h5⟩ := p
      (first | exact no h2 | exact no1 h2 | exact no2 h2 | exact noE h2 | exact noE1 h2 | obtain rfl := Option.some.inj h2 | obtain rfl := Except.ok.inj h2 | obtain rfl := h2 | cases h2)
  | some (.error x, t₁), e, ih, h =>
    have e' : (some (.error x, t₁) : Res α) = some (r, t') := e
    (first | exact no e' | exact no1 e' | exact no2 e' | exact noE e' | exact noE1 e' | obtain rfl := Option.some.inj e' | obtain rfl := Except.ok.inj e' | obtain rfl := e' | cases e')
    refine wpAny_mono (ih _ _ rfl) (fun c s₁ p => ?_) fun c s₁ p => ?_
    · obtain ⟨v', ρ', h1, h2, h3, h4⟩ := p
      (first | exact no h1 | exact no1 h1 | exact no2 h1 | exact noE h1 | exact noE1 h1 | obtain rfl := Option.some.inj h1 | obtain rfl := Except.ok.inj h1 | obtain rfl := h1 | cases h1)
    · obtain ⟨x', e, ρ', h1, h2, h3, h4, h5⟩ := p
      (first | exact no h2 | exact no1 h2 | exact no2 h2 | exact noE h2 | exact noE1 h2 | obtain rfl := Option.some.inj h2 | obtain rfl := Except.ok.inj h2 | obtain rfl := h2 | cases h2)
      exact hE c s₁ ⟨x, e, ρ', h1, rfl, h3, h4, h5⟩
  | none, e, _, _ => (first | exact no e | exact no1 e | exact no2 e | exact noE e | exact noE1 e | obtain rfl := Option.some.inj e | obtain rfl := Except.ok.inj e | obtain rfl := e | cases e)

theorem wp_one {x : Stmt} {env : Env} {M : Model} {A : Around} {Q : Flow → Shared → Prop} {E : Value → Shared → Prop} {s : Shared} (h : wpAny M A (PySem.exec x env) Q E s) : wpAny M A (execs [x] env) Q E s :=
  wpAny_execs_cons (wpAny_mono h (fun fl s' p => by
    cases fl with
    | next => exact wpAny_execs_nil p
    | cont => exact p
    | brk => exact p
    | ret v => exact p) fun _ _ p => p)
theorem S1Ok.ok {S : S} {x : Stmt} (h : S1Ok prog w B CM f C S x) : SOk prog w B CM f C S [x] := fun t ρ s r t' e I tk => wp_one (h t ρ s r t' e I tk)

/-- a name is stored -/
theorem p_store {i : Nat} {x : Str} {v : V} {c : Value} {t : St} {ρ : List Addr} {s : Shared} {Q : Unit → Shared → Prop} {EE : Value → Shared → Prop} (K : f.Ok n) (I : FI prog w B f ρ t s.heap) (hx : f.names[i]? = some x) (hl : f.scope.names.lookup x = some .local) (r : VR ρ s.heap v c)
    (h : ∀ s', FI prog w B f ρ (t.put i v) s'.heap → Gr (frs f.outer) (f.X ρ) ρ ρ s s' → s.toks ≤ s'.toks → Q () s') : wpAny (model prog w) f.A (storeName f.env x c) Q EE s := by
  obtain ⟨m, ns, l⟩ := I.ns
  refine wpAny_storeName_local hl ns (fun h' hn hs => ?_) ?_
  · refine h _ (I.put K hx r l hn hs) (Gr.of_heap (.sameBut hs (.head _) ?_)) (Nat.le_succ _)
    obtain ⟨o, _, _, e, _⟩ := hn
    exact ⟨o, e⟩
  · show (f.scope.kind == .class || (f.scope.kind == .module && _)) = false
    rw [K.kind]; rfl

theorem isComp_swaps {v : Expr} (h : isComp v = false) (tg : Option Expr) (l : Nat) (env : Env) : swapsWith v tg l env = pure false := by
  (first | exact no v | exact no1 v | exact no2 v | exact noE v | exact noE1 v | obtain rfl := Option.some.inj v | obtain rfl := Except.ok.inj v | obtain rfl := v | cases v) <;> first | rfl | (first | exact no h | exact no1 h | exact no2 h | exact noE h | exact noE1 h | obtain rfl := Option.some.inj h | obtain rfl := Except.ok.inj h | obtain rfl := h | cases h)

theorem s_skip : SOk prog w B CM f C .skip [] := fun t ρ s r t' e I tk => by
  simp only [eS_skip, eS_cont, eS_seq, eS_assign, eS_unpack, eS_aug, eS_setItem, eS_expr, eS_ret, eS_raise, eS_ite, eS_while, eS_forRange, eS_forList] at e
  exact wpAny_execs_nil (pf_next e I (.refl _ _ _ _))
theorem s_cont {p : Pos} : S1Ok prog w B CM f C .cont (.Continue p) := fun t ρ s r t' e I tk => by
  simp only [eS_skip, eS_cont, eS_seq, eS_assign, eS_unpack, eS_aug, eS_setItem, eS_expr, eS_ret, eS_raise, eS_ite, eS_while, eS_forRange, eS_forList] at e
  obtain ⟨rfl, rfl⟩ := ok_some e
  exact wpAny_Continue ⟨_, ρ, rfl, .cont, I, .refl _ _ _ _⟩
theorem s_seq {a b : S} {x : Stmt} {ss : List Stmt} (iha : S1Ok prog w B CM f C a x) (ihb : SOk prog w B CM f C b ss) : SOk prog w B CM f C (.seq a b) (x :: ss) := fun t ρ s r t' e I tk => by
  simp only [eS_skip, eS_cont, eS_seq, eS_assign, eS_unpack, eS_aug, eS_setItem, eS_expr, eS_ret, eS_raise, eS_ite, eS_while, eS_forRange, eS_forList] at e
  refine wpAny_execs_cons (wp_bdS e (fun r₁ t₁ e => iha t ρ s r₁ t₁ e I tk) (fun _ _ p => p) tk fun v t₁ c s₁ ρ₁ tk1 _ e1 fr I1 g1 => ?_)
  cases fr with
  | next => exact wpBackF g1 (ihb t₁ ρ₁ s₁ r t' e1 I1 tk1)
  | cont =>
    obtain ⟨rfl, rfl⟩ := ok_some e1
    exact ⟨_, ρ₁, rfl, .cont, I1, g1⟩
  | ret rv =>
    obtain ⟨rfl, rfl⟩ := ok_some e1
    exact ⟨_, ρ₁, rfl, .ret rv, I1, g1⟩
theorem s_assign {i : Nat} {e : E} {x : Str} {v : Expr} {p p' : Pos} (K : f.Ok n) (hx : f.names[i]? = some x) (hl : f.scope.names.lookup x = some .local) (hc : isComp v = false) (ih : EvOk prog w B CM f C e v) :
    S1Ok prog w B CM f C (.assign i e) (.Assign [.Name x p] v p') := fun t ρ s r t' ev I tk => by
  simp only [eS_skip, eS_cont, eS_seq, eS_assign, eS_unpack, eS_aug, eS_setItem, eS_expr, eS_ret, eS_raise, eS_ite, eS_while, eS_forRange, eS_forList] at ev
  refine wpAny_Assign_Name (wp_bd ev (fun r₁ t₁ e => ih t ρ s r₁ t₁ e I tk) (fun _ _ p => p) tk fun v t₁ c s₁ ρ₁ tk1 _ e1 rv I1 g1 => ?_) (isComp_swaps hc _ _ _)
  exact p_store K I1 hx hl rv fun s' I2 g2 _ => pf_next e1 I2 (g1.transF g2)
theorem s_aug {i : Nat} {e : E} {x : Str} {v : Expr} {p p' : Pos} (K : f.Ok n) (hx : f.names[i]? = some x) (hl : f.scope.names.lookup x = some .local) (ih : EvOk prog w B CM f C e v) :
    S1Ok prog w B CM f C (.aug i e) (.AugAssign (.Name x p) .Add v p') := fun t ρ s r t' ev I tk => by
  simp only [eS_skip, eS_cont, eS_seq, eS_assign, eS_unpack, eS_aug, eS_setItem, eS_expr, eS_ret, eS_raise, eS_ite, eS_while, eS_forRange, eS_forList] at ev
  split at ev
  · rename_i a ha
    refine wpAny_AugAssign_Name (local_ K I hx ha hl fun c rc => ?_)
    refine wp_bd ev (fun r₁ t₁ e => ih t ρ s r₁ t₁ e I tk) (fun _ _ p => p) tk fun v t₁ c s₁ ρ₁ tk1 _ e1 rv I1 g1 => ?_
    split at e1
    · (first | exact no rc | exact no1 rc | exact no2 rc | exact noE rc | exact noE1 rc | obtain rfl := Option.some.inj rc | obtain rfl := Except.ok.inj rc | obtain rfl := rc | cases rc)
      (first | exact no rv | exact no1 rv | exact no2 rv | exact noE rv | exact noE1 rv | obtain rfl := Option.some.inj rv | obtain rfl := Except.ok.inj rv | obtain rfl := rv | cases rv)
      exact iadd_int (p_store (s := { s₁ with toks := s₁.toks + 1 }) K I1 hx hl (.int _ _) fun s' I2 g2 _ => pf_next e1 I2 (g1.toks.transF g2))
    · (first | exact no e1 | exact no1 e1 | exact no2 e1 | exact noE e1 | exact noE1 e1 | obtain rfl := Option.some.inj e1 | obtain rfl := Except.ok.inj e1 | obtain rfl := e1 | cases e1)
  · (first | exact no ev | exact no1 ev | exact no2 ev | exact noE ev | exact noE1 ev | obtain rfl := Option.some.inj ev | obtain rfl := Except.ok.inj ev | obtain rfl := ev | cases ev)
theorem s_setItem {o k e : E} {ov kv v : Expr} {p p' : Pos} (hc : isComp v = false) (iho : EvOk prog w B CM f C o ov) (ihk : EvOk prog w B CM f C k kv) (ih : EvOk prog w B CM f C e v) :
    S1Ok prog w B CM f C (.setItem o k e) (.Assign [.Subscript ov kv p] v p') := fun t ρ s r t' ev I tk => by
  simp only [eS_skip, eS_cont, eS_seq, eS_assign, eS_unpack, eS_aug, eS_setItem, eS_expr, eS_ret, eS_raise, eS_ite, eS_while, eS_forRange, eS_forList] at ev
  refine wpAny_Assign_Subscript (wp_bd ev (fun r₁ t₁ e => ih t ρ s r₁ t₁ e I tk) (fun _ _ p => p) tk fun v t₁ cv s₁ ρ₁ tk1 _ e1 rv I1 g1 => ?_) (isComp_swaps hc _ _ _)
  refine wp_bd (ρ := ρ₁) e1 (fun r₁ t₂ e => iho t₁ ρ₁ s₁ r₁ t₂ e I1 tk1) (fun _ _ p => p.back g1) tk1 fun x t₂ co s₂ ρ₂ tk2 _ e2 ro I2 g2 => ?_
  refine wp_bd (ρ := ρ₂) e2 (fun r₁ t₃ e => ihk t₂ ρ₂ s₂ r₁ t₃ e I2 tk2) (fun _ _ p => p.back (g1.transF g2)) tk2 fun y t₃ ck s₃ ρ₃ tk3 _ e3 rk I3 g3 => ?_
  split at e3
  · rename_i h hs
    exact p_setItem I3 hs (I2.vr g3 ro) rk (I2.vr g3 (I1.vr g2 rv)) fun s' I4 g4 => pf_next e3 I4 (((g1.transF g2).transF g3).transF g4)
  · (first | exact no e3 | exact no1 e3 | exact no2 e3 | exact noE e3 | exact noE1 e3 | obtain rfl := Option.some.inj e3 | obtain rfl := Except.ok.inj e3 | obtain rfl := e3 | cases e3)
theorem s_expr {e : E} {v : Expr} {p : Pos} (K : f.Ok n) (hc : isCall v = true) (ih : EvOk prog w B CM f C e v) : S1Ok prog w B CM f C (.expr e) (.Expr v p) := fun t ρ s r t' ev I tk => by
  simp only [eS_skip, eS_cont, eS_seq, eS_assign, eS_unpack, eS_aug, eS_setItem, eS_expr, eS_ret, eS_raise, eS_ite, eS_while, eS_forRange, eS_forList] at ev
  refine wpAny_Expr_any (wp_bd ev (fun r₁ t₁ e => ih t ρ s r₁ t₁ e I tk) (fun _ _ p => p) tk fun v t₁ cv s₁ ρ₁ tk1 _ e1 rv I1 g1 => pf_next e1 I1 g1) ?_ ?_
  · show (f.scope.kind == .module && _) = false
    rw [K.kind]; rfl
  · rw [show v = _ from backAt hc]; rfl
theorem s_ret {e : E} {v : Expr} {p : Pos} (ih : EvOk prog w B CM f C e v) : S1Ok prog w B CM f C (.ret e) (.Return (some v) p) := fun t ρ s r t' ev I tk => by
  simp only [eS_skip, eS_cont, eS_seq, eS_assign, eS_unpack, eS_aug, eS_setItem, eS_expr, eS_ret, eS_raise, eS_ite, eS_while, eS_forRange, eS_forList] at ev
  refine wpAny_Return_some (wp_bd ev (fun r₁ t₁ e => ih t ρ s r₁ t₁ e I tk) (fun _ _ p => p) tk fun v t₁ cv s₁ ρ₁ tk1 _ e1 rv I1 g1 => ?_)
  obtain ⟨rfl, rfl⟩ := ok_some e1
  exact ⟨_, ρ₁, rfl, .ret rv, I1, g1⟩
theorem s_raise {wd : List Nat} {v : Expr} {p : Pos} (hR : RaiseOk prog w B CM f) (hc : chkRaise f.scope wd v = true) : S1Ok prog w B CM f C (.raise wd) (.Raise (some v) none p) := fun t ρ s r t' ev I tk => by
  simp only [eS_skip, eS_cont, eS_seq, eS_assign, eS_unpack, eS_aug, eS_setItem, eS_expr, eS_ret, eS_raise, eS_ite, eS_while, eS_forRange, eS_forList] at ev
  (first | exact no ev | exact no1 ev | exact no2 ev | exact noE ev | exact noE1 ev | obtain rfl := Option.some.inj ev | obtain rfl := Except.ok.inj ev | obtain rfl := ev | cases ev)
  exact wpAny_mono (hR wd v p t ρ s hc I tk) (fun _ _ p => p.elim) fun _ _ p => p
theorem s_ite {c : E} {a b : S} {v : Expr} {x y : List Stmt} {p : Pos} (ihc : TsOk prog w B CM f C c v) (iha : SOk prog w B CM f C a x) (ihb : SOk prog w B CM f C b y) : S1Ok prog w B CM f C (.ite c a b) (.If v x y p) := fun t ρ s r t' ev I tk => by
  simp only [eS_skip, eS_cont, eS_seq, eS_assign, eS_unpack, eS_aug, eS_setItem, eS_expr, eS_ret, eS_raise, eS_ite, eS_while, eS_forRange, eS_forList] at ev
  refine wpAny_If (wp_bdT ev (fun v t₁ e => ?_) (fun r₁ t₁ e hb => ihc t ρ s r₁ t₁ e hb I tk) (fun _ _ p => p) tk fun b t₁ s₁ ρ₁ tk1 _ e1 I1 g1 => ?_)
  · exact boolE (P := fun v => ∃ b, v = .bool b) e (fun _ => ⟨_, rfl⟩) fun _ => ⟨_, rfl⟩
  · cases b with
    | true => exact wpBackF g1 (iha t₁ ρ₁ s₁ r t' e1 I1 tk1)
    | false => exact wpBackF g1 (ihb t₁ ρ₁ s₁ r t' e1 I1 tk1)

theorem flown {α : Type} {ρ : List Addr} {r : Except (List Nat) α} {t t' : St} {s s' : Shared} {c : Value} (K : f.Ok n) (I : FI prog w B f ρ t s.heap) (p : PE prog w B CM f ρ r t' s c s') :
    notedBy (model prog w) f.A f.env (fun e s' => cameBackBy (model prog w) f.A f.env (PE prog w B CM f ρ r t' s) e s') c s' :=
  noted K I p fun _ q => cameBack I q fun _ q => q

theorem s_while {c : E} {b : S} {v : Expr} {x : List Stmt} {p : Pos} (K : f.Ok n) (ihc : TsOk prog w B CM f C c v) (ihb : SOk prog w B CM f C b x) : S1Ok prog w B CM f C (.while c b) (.While v x [] p) := fun t ρ s r t' ev I tk => by
  simp only [eS_skip, eS_cont, eS_seq, eS_assign, eS_unpack, eS_aug, eS_setItem, eS_expr, eS_ret, eS_raise, eS_ite, eS_while, eS_forRange, eS_forList] at ev
  refine wpAny_While (codeAny_whileLoop (fun n s' => ∃ t₁ ρ₁, whileL (evalE C c) (exec C b) n t₁ = some (r, t') ∧ FI prog w B f ρ₁ t₁ s'.heap ∧ Gr (frs f.outer) (f.X ρ) ρ ρ₁ s s' ∧ 1 ≤ s'.toks) ?_ fuel ⟨t, ρ, ev, I, .refl _ _ _ _, tk⟩)
  rintro k s₁ ⟨t₁, ρ₁, e1, I1, g1, tk1⟩
  cases k with
  | zero => (first | exact no e1 | exact no1 e1 | exact no2 e1 | exact noE e1 | exact noE1 e1 | obtain rfl := Option.some.inj e1 | obtain rfl := Except.ok.inj e1 | obtain rfl := e1 | cases e1)
  | succ k =>
    simp only [whileL] at e1
    refine wp_bdT (ρ := ρ₁) e1 (fun v t₁ e => ?_) (fun r₁ t₂ e hb => ihc t₁ ρ₁ s₁ r₁ t₂ e hb I1 tk1) (fun c s' p => flown K I (p.back g1)) tk1 fun b t₂ s₂ ρ₂ tk2 _ e2 I2 g2 => ?_
    · exact boolE (P := fun v => ∃ b, v = .bool b) e (fun _ => ⟨_, rfl⟩) fun _ => ⟨_, rfl⟩
    · have g12 := g1.transF g2
      cases b with
      | false => exact wpAny_execs_nil (pf_next e2 I2 g12)
      | true =>
        refine wp_bdS (ρ := ρ₂) e2 (fun r₁ t₃ e => ihb t₂ ρ₂ s₂ r₁ t₃ e I2 tk2) (fun c s' p => flown K I (p.back g12)) tk2 fun v t₃ fl s₃ ρ₃ tk3 _ e3 fr I3 g3 => ?_
        cases fr with
        | next => exact ⟨k, Nat.lt_succ_self _, t₃, ρ₃, e3, I3, g12.transF g3, tk3⟩
        | cont => exact ⟨k, Nat.lt_succ_self _, t₃, ρ₃, e3, I3, g12.transF g3, tk3⟩
        | ret rv =>
          obtain ⟨rfl, rfl⟩ := ok_some e3
          exact ⟨_, ρ₃, rfl, .ret rv, I3, g12.transF g3⟩
end
end Nt
end

section
open PySem PySem.W PyProof.Rows PySem.Calls PySem.SeqAt
set_option genSizeOf false
set_option genInjectivity false
set_option maxRecDepth 100000
set_option autoImplicit false
namespace Nt
section
variable {prog : Program} {w : World} {B : Heap} {fn : Nat → Addr} {CM : Addr} {f : Fm} {C : Calls} {n : Nat}

theorem FI.notIn {ρ : List Addr} {t : St} {h : Heap} (I : FI prog w B f ρ t h) {b : Addr} {o : Obj} {us : Array Value} (e : h.get? b = some o) (d : o.data = .fields us) : b ∉ f.X ρ ∧ b ∉ frs f.outer := by
  refine ⟨fun m => ?_, fun m => ?_⟩
  · rcases List.mem_cons.mp m with m | m
    · obtain ⟨_, ⟨o', _, _, e', d', _⟩, _⟩ := I.ns
      rw [← m, e] at e'; (first | exact no e' | exact no1 e' | exact no2 e' | exact noE e' | exact noE1 e' | obtain rfl := Option.some.inj e' | obtain rfl := Except.ok.inj e' | obtain rfl := e' | cases e')
      rw [d] at d'; (first | exact no d' | exact no1 d' | exact no2 d' | exact noE d' | exact noE1 d' | obtain rfl := Option.some.inj d' | obtain rfl := Except.ok.inj d' | obtain rfl := d' | cases d')
    · obtain ⟨_, _, _, _, y⟩ := I.ci.hr.at m
      exact y.noFields e us d
  · obtain ⟨_, o', e', nf⟩ := I.ci.frames.mem m
    rw [e] at e'; (first | exact no e' | exact no1 e' | exact no2 e' | exact noE e' | exact noE1 e' | obtain rfl := Option.some.inj e' | obtain rfl := Except.ok.inj e' | obtain rfl := e' | cases e')
    exact nf us d

/-- one object of fields, new since hs, is another -/
theorem Ex.but {hs h h' : Heap} {Φ : List Addr} {b : Addr} {o : Obj} {us : Array Value} (e : h.get? b = some o) (d : o.data = .fields us) (n : hs.get? b = none) (k : Heap.ExtBut b h h') : Ex Φ [b] hs h h' :=
  ⟨fun c o' e' nX _ => k c o' (fun q => nX (by simp [q])) e', fun c o' e' nX _ => ⟨o'.slots, k c o' (fun q => nX (by simp [q])) e'⟩, fun c m => by rw [List.mem_singleton.mp m]; exact ⟨⟨o, us, e, d⟩, n⟩⟩
theorem Ex.stay {ρ : List Addr} {hs h h' : Heap} {Φ Xs : List Addr} (x : Ex Φ Xs hs h h') : SeqStay ρ h h' := fun b o e _ d => x.upTo e fun vs q => by obtain ⟨_, _, d⟩ := d; rw [d] at q; (first | exact no q | exact no1 q | exact no2 q | exact noE q | exact noE1 q | obtain rfl := Option.some.inj q | obtain rfl := Except.ok.inj q | obtain rfl := q | cases q)

theorem for_loop {Z : List Addr → Heap → Prop} (zk : ∀ ρ h ρ' h', SeqStay ρ h h' → Grows h ρ ρ' → Z ρ h → Z ρ' h') {vs : List V} {i : Nat} {x : Str} {px : Pos} {b : S} {body : List Stmt} {J : Nat → Heap → Prop} {it : Addr} {t t₀ t' : St} {ρ : List Addr} {s s₀ : Shared} {r : Except (List Nat) Fl} (K : f.Ok n) (hx : f.names[i]? = some x) (hl : f.scope.names.lookup x = some .local) (ihb : SOk prog w B CM f C b body)
    (jo : ∀ k h, J k h → ∃ o us, h.get? it = some o ∧ o.data = .fields us) (jk : ∀ k h h', J k h → h'.get? it = h.get? it → J k h')
    (item : ∀ k v s₁ ρ₁ t₁ (Q : Option Value → Shared → Prop) (EE : Value → Shared → Prop), vs[k]? = some v → J k s₁.heap → Z ρ₁ s₁.heap → FI prog w B f ρ₁ t₁ s₁.heap → Gr (frs f.outer) (f.X ρ) ρ ρ₁ s s₁ →
      (∀ c h' tk, VR ρ₁ s₁.heap v c → Heap.SameBut it s₁.heap h' → J (k + 1) h' → s₁.toks ≤ tk → Q (some c) { s₁ with heap := h', toks := tk }) → wpAny (model prog w) f.A (pyNext (.ref it)) Q EE s₁)
    (done : ∀ s₁ ρ₁ t₁ (Q : Option Value → Shared → Prop) (EE : Value → Shared → Prop), J vs.length s₁.heap → Z ρ₁ s₁.heap → FI prog w B f ρ₁ t₁ s₁.heap → Gr (frs f.outer) (f.X ρ) ρ ρ₁ s s₁ →
      (∀ h', Heap.ExtBut it s₁.heap h' → Q none { s₁ with heap := h' }) → wpAny (model prog w) f.A (pyNext (.ref it)) Q EE s₁)
    (ev : forL i (exec C b) vs t₀ = some (r, t')) (I : FI prog w B f ρ t s.heap) (nit : s.heap.get? it = none) {ρ₀ : List Addr} (I₀ : FI prog w B f ρ₀ t₀ s₀.heap) (g₀ : Gr (frs f.outer) (f.X ρ) ρ ρ₀ s s₀) (j0 : J 0 s₀.heap) (z0 : Z ρ₀ s₀.heap) (tk0 : 1 ≤ s₀.toks) :
    codeAny (model prog w) f.A (.forLoop (.Name x px) (.ref it) body [] f.env) (fun r' s' => match r' with | .ok fl => PF prog w B f ρ r t' s fl s' | .error e => cameBackBy (model prog w) f.A f.env (PE prog w B CM f ρ r t' s) e s') s₀ := by
  refine codeAny_forLoop (fun m s' => ∃ k t₁ ρ₁, k + m = vs.length ∧ forL i (exec C b) (vs.drop k) t₁ = some (r, t') ∧ FI prog w B f ρ₁ t₁ s'.heap ∧ Gr (frs f.outer) (f.X ρ) ρ ρ₁ s s' ∧ J k s'.heap ∧ Z ρ₁ s'.heap ∧ 1 ≤ s'.toks) ?_ vs.length ⟨0, t₀, ρ₀, Nat.zero_add _, ev, I₀, g₀, j0, z0, tk0⟩
  rintro m s₁ ⟨k, t₁, ρ₁, hk, e1, I1, g1, j1, z1, tk1⟩
  obtain ⟨o, us, go, du⟩ := jo k _ j1
  by_cases hlt : k < vs.length
  · have hv : vs[k]? = some vs[k] := List.getElem?_eq_getElem hlt
    rw [List.drop_eq_getElem_cons hlt] at e1
    simp only [forL] at e1
    refine item k _ s₁ ρ₁ t₁ _ _ hv j1 z1 I1 g1 fun c h' tk rc hs j2 ht => ?_
    have ex : Ex (frs (f.env :: f.outer)) [it] s.heap s₁.heap h' := .but go du nit hs.extBut
    have I2 := I1.exc ex I.ci.base
    have g2 : Gr (frs f.outer) (f.X ρ) ρ ρ₁ s { s₁ with heap := h', toks := tk } := (g1.exc ex).toks
    have n2 := (jo _ _ j2)
    obtain ⟨o2, us2, go2, du2⟩ := n2
    refine PyProof.Rows.assign_Name (p_store (s := { s₁ with heap := h', toks := tk }) K I2 hx hl (rc.mono ex.stay (.refl _ _)) fun s₂ I3 g3 ht3 => ?_)
    have g23 := g2.transF g3
    have ni2 := I2.notIn go2 du2
    have j3 := jk _ _ s₂.heap j2 (by rw [go2]; exact g3.ext.same _ _ go2 ni2.1 ni2.2)
    have z3 := zk _ _ _ _ (I2.stay (s := { s₁ with heap := h', toks := tk }) g3) g3.grows (zk _ _ _ _ ex.stay (.refl _ _) z1)
    have tk3 : 1 ≤ s₂.toks := Nat.le_trans tk1 (Nat.le_trans ht ht3)
    refine wp_bdS (ρ := ρ₁) e1 (fun r₁ t₃ e => ihb _ ρ₁ s₂ r₁ t₃ e I3 tk3) (fun c s' p => flown K I (p.back g23)) tk3 fun v t₃ fl s₃ ρ₃ tk3 _ e3 fr I4 g4 => ?_
    obtain ⟨o3, us3, go3, du3⟩ := jo _ _ j3
    have ni3 := I3.notIn go3 du3
    have j4 := jk _ _ s₃.heap j3 (by rw [go3]; exact g4.ext.same _ _ go3 ni3.1 ni3.2)
    have z4 := zk _ _ _ _ (I3.stay g4) g4.grows z3
    cases fr with
    | next => exact ⟨m - 1, by (first | lia | omega), k + 1, t₃, ρ₃, by (first | lia | omega), e3, I4, g23.transF g4, j4, z4, tk3⟩
    | cont => exact ⟨m - 1, by (first | lia | omega), k + 1, t₃, ρ₃, by (first | lia | omega), e3, I4, g23.transF g4, j4, z4, tk3⟩
    | ret rv =>
      obtain ⟨rfl, rfl⟩ := ok_some e3
      exact ⟨_, ρ₃, rfl, .ret rv, I4, g23.transF g4⟩
  · have hk' : k = vs.length := by (first | lia | omega)
    subst hk'
    rw [List.drop_length] at e1
    simp only [forL] at e1
    refine done s₁ ρ₁ t₁ _ _ j1 z1 I1 g1 fun h' he => wpAny_execs_nil ?_
    have ex : Ex (frs (f.env :: f.outer)) [it] s.heap s₁.heap h' := .but go du nit he
    exact pf_next e1 (I1.exc ex I.ci.base) (g1.exc ex)

theorem s_forList {i : Nat} {e : E} {b : S} {x : Str} {px p : Pos} {v : Expr} {body : List Stmt} (K : f.Ok n) (hx : f.names[i]? = some x) (hl : f.scope.names.lookup x = some .local) (hn : isN v = true) (ih : EvOk prog w B CM f C e v) (ihb : SOk prog w B CM f C b body) :
    S1Ok prog w B CM f C (.forList i e b) (.For (.Name x px) v body [] p) := fun t ρ s r t' ev I tk => by
  simp only [eS_skip, eS_cont, eS_seq, eS_assign, eS_unpack, eS_aug, eS_setItem, eS_expr, eS_ret, eS_raise, eS_ite, eS_while, eS_forRange, eS_forList] at ev
  refine wpAny_For (wp_bd ev (fun r₁ t₁ e => ih t ρ s r₁ t₁ e I tk) (fun _ _ p => p) tk fun v t₁ cv s₁ ρ₁ tk1 _ e1 rv I1 g1 => ?_) (fun x => by (first | exact no v | exact no1 v | exact no2 v | exact noE v | exact noE1 v | obtain rfl := Option.some.inj v | obtain rfl := Except.ok.inj v | obtain rfl := v | cases v) <;> first | rfl | (first | exact no hn | exact no1 hn | exact no2 hn | exact noE hn | exact noE1 hn | obtain rfl := Option.some.inj hn | obtain rfl := Except.ok.inj hn | obtain rfl := hn | cases hn))
  split at e1
  · rename_i vs _
    cases rv with
    | lst ha na la ra =>
      rename_i a cvs
      refine wpAny_pyIter_list ha ?_
      have nit : s₁.heap.get? s₁.heap.objs.size = none := none_at _
      have hN : ∀ o', (s₁.heap.push o').get? a = s₁.heap.get? a := fun o' => by
        obtain ⟨o, e, _⟩ := ha
        rw [e]; exact Heap.get?_push_of_some _ e
      have al : a ≠ s₁.heap.objs.size := fun q => by
        obtain ⟨o, e, _⟩ := ha
        rw [q, nit] at e; (first | exact no e | exact no1 e | exact no2 e | exact noE e | exact noE1 e | obtain rfl := Option.some.inj e | obtain rfl := Except.ok.inj e | obtain rfl := e | cases e)
      have nits : s.heap.get? s₁.heap.objs.size = none := by
        cases q : s.heap.get? s₁.heap.objs.size with
        | none => rfl
        | some o => obtain ⟨o', q'⟩ := g1.ext.live _ _ q; rw [nit] at q'; (first | exact no q' | exact no1 q' | exact no2 q' | exact noE q' | exact noE1 q' | obtain rfl := Option.some.inj q' | obtain rfl := Except.ok.inj q' | obtain rfl := q' | cases q')
      have kp : ∀ o' b o, s₁.heap.get? b = some o → (s₁.heap.push o').get? b = some o := fun o' _ _ e => Heap.get?_push_of_some o' e
      have va : ∀ o', VR ρ₁ (s₁.heap.push o') (.lst vs) (.ref a) := fun o' => (VR.lst ha na la ra).mono (fun b o e _ _ => ⟨o.slots, kp o' b o e⟩) (.refl _ _)
      refine for_loop (Z := fun ρ h => VR ρ h (.lst vs) (.ref a)) (fun _ _ _ _ k g z => z.mono k g) (J := fun k h => h.IsListIter s₁.heap.objs.size a k) K hx hl ihb (fun k h ⟨o, e, _, d⟩ => ⟨o, _, e, d⟩) (fun k h h' ⟨o, e, c, d⟩ q => ⟨o, q.trans e, c, d⟩)
        (fun k v s₂ ρ₂ t₂ Q EE hv j z I2 g2 hQ => ?_) (fun s₂ ρ₂ t₂ Q EE j z I2 g2 hQ => ?_) e1 I nits (I1.push _) (g1.transF (Gr.of_heap (tk := s₁.toks) (Ext.push _ _ _ _))) ⟨_, Heap.get?_push_size _ rfl, rfl, rfl⟩ (va _) tk1
      · cases z with
        | lst ha2 na2 la2 ra2 =>
          obtain ⟨c, hc, rc⟩ := ra2.get hv
          exact wpAny_pyNext_list_item j ha2 (x := c) (by simpa using hc) fun h' j' hs => hQ c h' s₂.toks rc hs j' (Nat.le_refl _)
      · cases z with
        | lst ha2 na2 la2 ra2 =>
          refine wpAny_pyNext_list_end K.hd j ha2 ?_ hQ
          have := ra2.length
          simp [this]
  · (first | exact no e1 | exact no1 e1 | exact no2 e1 | exact noE e1 | exact noE1 e1 | obtain rfl := Option.some.inj e1 | obtain rfl := Except.ok.inj e1 | obtain rfl := e1 | cases e1)

theorem s_forRange {i : Nat} {e : E} {b : S} {x : Str} {px np cp p : Pos} {v : Expr} {body : List Stmt} (T0 : Top0 prog w B fn CM) (K : f.Ok n) (hx : f.names[i]? = some x) (hl : f.scope.names.lookup x = some .local) (hr : f.scope.names.lookup ("range" : Str) = some .globalImplicit)
    (hs : starEach [v] f.env = [(false, eval v f.env)]) (ih : EvOk prog w B CM f C e v) (ihb : SOk prog w B CM f C b body) :
    S1Ok prog w B CM f C (.forRange i e b) (.For (.Name x px) (.Call (.Name ("range" : Str) np) [v] [] cp) body [] p) := fun t ρ s r t' ev I tk => by
  simp only [eS_skip, eS_cont, eS_seq, eS_assign, eS_unpack, eS_aug, eS_setItem, eS_expr, eS_ret, eS_raise, eS_ite, eS_while, eS_forRange, eS_forList] at ev
  obtain ⟨mg, mb, hg, hb, _, _, _, ⟨h1, h2⟩, _⟩ := T0.names
  refine wpAny_For (Call_ (builtin_ K I hg h1 hb h2 hr (by decide +kernel) (callWith_type1 (spliced_more ?_ hs) hs))) (fun x => rfl)
  refine wp_bd ev (fun r₁ t₁ e => ih t ρ s r₁ t₁ e I tk) (fun _ _ p => p) tk fun v t₁ cv s₁ ρ₁ tk1 _ e1 rv I1 g1 => spliced_none ?_
  split at e1
  · rename_i nn _
    split at e1
    · rename_i hz
      (first | exact no rv | exact no1 rv | exact no2 rv | exact noE rv | exact noE1 rv | obtain rfl := Option.some.inj rv | obtain rfl := Except.ok.inj rv | obtain rfl := rv | cases rv)
      refine call_range_1 (wpAny_pyIter_range (IsRange.new _ _ _ _ _ _ _) (small_one (by (first | lia | omega)) (by (first | lia | omega)) (by (first | lia | omega)) (by (first | lia | omega))) ?_)
      generalize hu : s₁.heap.push { cls := .type "range", data := .fields #[.int 0 s₁.toks, .int nn _, .int 1 (s₁.toks + 1)] } = u
      have k1 : ∀ b o, s₁.heap.get? b = some o → u.get? b = some o := fun b o q => by subst hu; exact Heap.get?_push_of_some _ q
      have nit : u.get? u.objs.size = none := none_at _
      have nits : s.heap.get? u.objs.size = none := by
        cases q : s.heap.get? u.objs.size with
        | none => rfl
        | some o => obtain ⟨o', q'⟩ := g1.ext.live _ _ q; rw [k1 _ _ q'] at nit; (first | exact no nit | exact no1 nit | exact no2 nit | exact noE nit | exact noE1 nit | obtain rfl := Option.some.inj nit | obtain rfl := Except.ok.inj nit | obtain rfl := nit | cases nit)
      have sz : Builtin.Range.rangeSize 0 nn 1 = (nn.toNat : Int) := by
        rw [rangeSize_one]; split <;> (first | lia | omega)
      refine for_loop (Z := fun _ _ => True) (fun _ _ _ _ _ _ _ => trivial) (J := fun k h => IsRangeIter h u.objs.size (k : Int) ((nn.toNat : Int) - (k : Int)) 1) K hx hl ihb (fun k h e => ⟨_, _, e, rfl⟩) (fun k h h' e q => q.trans e)
        (fun k v s₂ ρ₂ t₂ Q EE hv j z I2 g2 hQ => ?_) (fun s₂ ρ₂ t₂ Q EE j z I2 g2 hQ => ?_) e1 I nits (ρ₀ := ρ₁) ((I1.keeps k1).push _) (g1.transF (Gr.of_heap (s := s₁) (tk := s₁.toks + 1 + 1) (.of_keeps fun b o q => Heap.get?_push_of_some _ (k1 b o q)))) ?_ trivial (Nat.le_trans tk1 (Nat.le_trans (Nat.le_succ _) (Nat.le_succ _)))
      · simp only [List.getElem?_map, Option.map_eq_some_iff] at hv
        obtain ⟨k', hk', rfl⟩ := hv
        obtain ⟨hk1, hk2⟩ := List.getElem?_eq_some_iff.mp hk'
        simp at hk1 hk2
        subst hk2
        refine wpAny_pyNext_range_item j (by (first | lia | omega)) fun h' j' hs' => hQ _ h' (s₂.toks + 1) (.int _ _) hs' ?_ (Nat.le_succ _)
        have q : ((nn.toNat : Int) - (k : Int) - 1) = (nn.toNat : Int) - ((k + 1 : Nat) : Int) := by (first | lia | omega)
        rw [q] at j'
        exact j'
      · refine wpAny_pyNext_range_end K.hd j ?_ hQ
        simp
      · show (u.push _).get? _ = _
        rw [sz, Heap.get?_push_size _ rfl]
        simp
    · (first | exact no e1 | exact no1 e1 | exact no2 e1 | exact noE e1 | exact noE1 e1 | obtain rfl := Option.some.inj e1 | obtain rfl := Except.ok.inj e1 | obtain rfl := e1 | cases e1)
  · (first | exact no e1 | exact no1 e1 | exact no2 e1 | exact noE e1 | exact noE1 e1 | obtain rfl := Option.some.inj e1 | obtain rfl := Except.ok.inj e1 | obtain rfl := e1 | cases e1)

/-- names taken apart -/
theorem putAll_comm (t : St) (i : Nat) (v : V) : ∀ (is : List Nat) (vs : List V), i ∉ is → (t.put i v).putAll is vs = (t.putAll is vs).put i v
  | [], _, _ => by simp [St.putAll]
  | _ :: _, [], _ => by simp [St.putAll]
  | j :: is, u :: vs, h => by
    simp only [List.mem_cons, not_or] at h
    simp only [St.putAll]
    rw [show (t.put i v).put j u = (t.put j u).put i v by simp [St.put, List.set_comm _ _ h.1]]
    exact putAll_comm _ i v is vs h.2
theorem putAll_snoc (i : Nat) (v : V) : ∀ (t : St) (is : List Nat) (vs : List V), is.length = vs.length → t.putAll (is ++ [i]) (vs ++ [v]) = (t.putAll is vs).put i v
  | t, [], [], _ => by simp [St.putAll]
  | t, [], _ :: _, h => by simp at h
  | t, _ :: _, [], h => by simp at h
  | t, j :: is, u :: vs, h => by
    simp only [List.length_cons, Nat.add_right_cancel_iff] at h
    simp only [List.cons_append, St.putAll]
    exact putAll_snoc i v _ is vs h
theorem putAll_reverse : ∀ (t : St) (is : List Nat) (vs : List V), is.Nodup → is.length = vs.length → t.putAll is.reverse vs.reverse = t.putAll is vs
  | t, [], [], _, _ => by simp [St.putAll]
  | t, [], _ :: _, _, h => by simp at h
  | t, _ :: _, [], _, h => by simp at h
  | t, j :: is, u :: vs, nd, h => by
    simp only [List.length_cons, Nat.add_right_cancel_iff] at h
    have nd' := List.nodup_cons.mp nd
    rw [List.reverse_cons, List.reverse_cons, putAll_snoc _ _ _ _ _ (by simpa using h), putAll_reverse t is vs nd'.2 h]
    exact (putAll_comm t j u is vs nd'.1).symm

theorem store_all {Q : Unit → Shared → Prop} {EE : Value → Shared → Prop} (K : f.Ok n) : ∀ (is : List Nat) (xs : List Str) (fs : List (Value → Sem Unit)) (vs : List V) (cvs : List Value) (t : St) (ρ : List Addr) (s : Shared),
    fs.length = xs.length → (∀ (k : Nat) (F : Value → Sem Unit) (x : Str), fs[k]? = some F → xs[k]? = some x → ∀ (c : Value) (Q' : Unit → Shared → Prop) (s' : Shared), wpAny (model prog w) f.A (storeName f.env x c) Q' EE s' → wpAny (model prog w) f.A (F c) Q' EE s') →
    is.length = xs.length → (∀ (k : Nat) (i : Nat) (x : Str), is[k]? = some i → xs[k]? = some x → f.names[i]? = some x ∧ f.scope.names.lookup x = some .local) → vs.length = is.length →
    VRs ρ s.heap vs cvs → FI prog w B f ρ t s.heap → 1 ≤ s.toks → (∀ s', FI prog w B f ρ (t.putAll is vs) s'.heap → Gr (frs f.outer) (f.X ρ) ρ ρ s s' → 1 ≤ s'.toks → Q () s') → wpAny (model prog w) f.A (assignInOrder fs cvs) Q EE s
  | [], xs, fs, vs, cvs, t, ρ, s, h1, h2, h3, h4, h5, rv, I, tk, hQ => by
    cases vs with
    | nil => (first | exact no rv | exact no1 rv | exact no2 rv | exact noE rv | exact noE1 rv | obtain rfl := Option.some.inj rv | obtain rfl := Except.ok.inj rv | obtain rfl := rv | cases rv); cases xs with
      | nil => cases fs with
        | nil => exact assignInOrder_nil (hQ s (by simpa [St.putAll] using I) (.refl _ _ _ _) tk)
        | cons a b => simp at h1
      | cons a b => simp at h3
    | cons a b => simp at h5
  | i :: is, xs, fs, vs, cvs, t, ρ, s, h1, h2, h3, h4, h5, rv, I, tk, hQ => by
    cases xs with
    | nil => simp at h3
    | cons x xs =>
      cases fs with
      | nil => simp at h1
      | cons F fs =>
        cases rv with
        | nil => simp at h5
        | cons r1 rr =>
          simp only [List.length_cons, Nat.add_right_cancel_iff] at h1 h3 h5
          obtain ⟨n1, n2⟩ := h4 0 i x rfl rfl
          refine assignInOrder_cons (h2 0 F x rfl rfl _ _ _ (p_store K I n1 n2 r1 fun s' I' g' tk' => ?_))
          refine store_all K is xs fs _ _ _ ρ s' h1 (fun k => h2 (k + 1)) h3 (fun k => h4 (k + 1)) h5 (I.vrs g' rr) I' (Nat.le_trans tk tk') fun s'' I'' g'' tk'' => hQ s'' I'' (g'.transF g'') tk''
end
end Nt
end

section
open PySem PySem.W PyProof.Rows PySem.Calls PySem.SeqAt
set_option genSizeOf false
set_option genInjectivity false
set_option maxRecDepth 100000
set_option autoImplicit false
namespace Nt
section
variable {prog : Program} {w : World} {B : Heap} {fn : Nat → Addr} {CM : Addr} {f : Fm} {C : Calls} {n : Nat}

structure TsSpec (sc : Scope) (nm : List Str) (is : List Nat) (elts : List Expr) : Prop where
  l1 : is.length = (nmsOf elts).length
  l2 : (nmsOf elts).length = elts.length
  at_ : ∀ (k : Nat) (i : Nat) (x : Str), is[k]? = some i → (nmsOf elts)[k]? = some x → nm[i]? = some x ∧ sc.names.lookup x = some .local
  len : ∀ env : Env, (assignEach elts env).length = elts.length
  star : ∀ env : Env, (assignEach elts env).findIdx? (·.1) = none
  sto : ∀ (env : Env) (k : Nat) (F : Value → Sem Unit) (x : Str), ((assignEach elts env).map (·.2))[k]? = some F → (nmsOf elts)[k]? = some x → ∃ p, F = PySem.assign (.Name x p) env
  nms : ∀ e ∈ elts, ∃ x p, e = .Name x p ∧ sc.names.lookup x = some .local
theorem chkTs_spec {sc : Scope} {nm : List Str} : ∀ (is : List Nat) (elts : List Expr), chkTs sc nm is elts = true → TsSpec sc nm is elts := by
  intro is
  induction is with
  | nil =>
    intro l h
    rw [List.isEmpty_iff.mp h]
    exact ⟨rfl, rfl, fun _ _ _ e => no e, fun _ => rfl, fun _ => rfl, fun _ _ _ _ e => no e, nofun⟩
  | cons i is ih =>
    refine fun l h => onC_e h fun e r h => onName_e (P := fun e => TsSpec sc nm (i :: is) (e :: r)) h fun x p h => ?_
    have h1 := dt (an (an h).1).1
    have h2 := dt (an (an h).1).2
    have S := ih r (an h).2
    refine ⟨congrArg Nat.succ S.l1, congrArg Nat.succ S.l2, fun k j y q1 q2 => ?_, fun env => congrArg Nat.succ (S.len env), fun env => ?_, fun env k F y q1 q2 => ?_, fun y m => ?_⟩
    · cases k with
      | zero => exact Option.some.inj q1 ▸ Option.some.inj q2 ▸ ⟨h1, h2⟩
      | succ k => exact S.at_ k j y q1 q2
    · show ((false, PySem.assign (.Name x p) env) :: assignEach r env).findIdx? (·.1) = none
      rw [List.findIdx?_cons, S.star env]; rfl
    · cases k with
      | zero => exact ⟨p, Option.some.inj q1 ▸ Option.some.inj q2 ▸ rfl⟩
      | succ k => exact S.sto env k F y q1 q2
    · rcases List.mem_cons.mp m with m | m
      · exact ⟨x, p, m, h2⟩
      · exact S.nms y m

noncomputable abbrev isStar (e : Expr) : Bool := match e with
  | .Starred _ _ => true
  | _ => false

theorem ite_same {α : Type} {c : Prop} [Decidable c] {x y : α} (h : ¬ c → y = x) : (if c then x else y) = x := by
  by_cases q : c
  · exact if_pos q
  · rw [if_neg q, h q]
theorem tagTup {vs : List Expr} {a : Nat} {b : Pos} : tagIs (.Tuple vs a b) 9 = true := rfl
theorem swapped_none {elts : List Expr} {k : Nat} {tp : Pos} {v : Expr} {env : Env} (h : unOk elts v = true) : swappedStores [.Tuple elts k tp] v env = pure none := by
  (first | exact no v | exact no1 v | exact no2 v | exact noE v | exact noE1 v | obtain rfl := Option.some.inj v | obtain rfl := Except.ok.inj v | obtain rfl := v | cases v) <;> first | exact rfl | skip
  rename_i vs a b
  replace h : ((elts.length != 2 && elts.length != 3) || vs.all (foldedForSure 8)) = true := h
  refine ite_same fun h1 => ite_same fun h2 => ite_same fun h3 => if_pos ((Bool.or_eq_true_iff.mp h).resolve_left fun h => h1 ?_)
  obtain ⟨e1, e2⟩ := an h
  rw [bne_iff_ne] at e1 e2
  rw [beq_false_of_ne e1, beq_false_of_ne e2]; rfl

theorem swapped_some {elts : List Expr} {k : Nat} {tp : Pos} {v : Expr} {is : List Nat} (K : f.Ok n) (ht : chkTs f.scope f.names is elts = true) (hn : ∀ vs a b, v = .Tuple vs a b → vs.any isStar = false) (h : swOk elts v = true) :
    swappedStores [.Tuple elts k tp] v f.env = pure (some (nmsOf elts)) := by
  obtain ⟨t1, t2, t3, _, _, _, t6⟩ := chkTs_spec _ _ ht
  obtain ⟨vs, a, b, rfl, h⟩ := onTup_i h
  clear ht
  obtain ⟨h1, h⟩ := an h
  obtain ⟨h2, h⟩ := an h
  obtain ⟨h3, h⟩ := an h
  obtain ⟨h4, h⟩ := an h
  obtain ⟨h5, h6⟩ := an h
  replace h1 : elts.length = 2 ∨ elts.length = 3 := (Bool.or_eq_true_iff.mp h1).imp eq_of_beq eq_of_beq
  replace h2 : vs.length = elts.length := eq_of_beq h2
  replace h4 := eq_of_beq h4
  replace h5 : vs.all (foldedForSure 8) = false := (Bool.not_eq_true' _).mp h5
  replace h6 : vs.all (constantsAlone 8) = false := (Bool.not_eq_true' _).mp h6
  have hns := hn _ _ _ rfl
  have bk : f.env.blockKind = .function := by
    show (if f.scope.kind.isAnnotationScope then ScopeKind.function else f.scope.kind) = .function
    rw [K.kind]; rfl
  have nm : ∀ (l : List Expr) (ln : Nat), (∀ e ∈ l, ∃ x p, e = .Name x p ∧ f.scope.names.lookup x = some .local) → (∀ e ∈ l, e.pos.line = ln) → (l.filterMap fun
      | .Name id pos => if f.env.kindOf id == some .local && pos.line == ln then some id else none
      | _ => none) = nmsOf l := by
    intro l ln q1 q2
    induction l with
    | nil => rfl
    | cons e r ih =>
      obtain ⟨x, p, rfl, hl⟩ := q1 e (.head _)
      have hp : p.line = ln := q2 _ (.head _)
      have hk : f.env.kindOf x = some .local := hl
      rw [List.filterMap_cons, show nmsOf (.Name x p :: r) = x :: nmsOf r from rfl]
      simp only [hk, hp]
      rw [ih (fun e m => q1 e (.tail _ m)) fun e m => q2 e (.tail _ m)]
      simp
  have h3' : ∀ e ∈ elts, e.pos.line = (elts.head?.map (·.pos.line)).getD 0 := fun e m => by
    have := List.all_eq_true.mp h3 e m
    simpa using this
  show (if (!(elts.length == 2 || elts.length == 3) || vs.length != elts.length || f.env.blockKind != .function) = true then (pure none : Sem (Option (List Str))) else if vs.any isStar = true then pure none else _) = _
  rw [if_neg (by simp only [bk]; simp; (first | lia | omega))]
  rw [hns, if_neg Bool.false_ne_true]
  dsimp only
  erw [nm elts _ t6 h3']
  rw [if_neg (by simp; exact ⟨by (first | lia | omega), h4⟩), if_neg (by rw [h5]; decide), if_neg (by rw [h6]; decide)]

theorem VRs.reverse {ρ : List Addr} {h : Heap} {v : List V} {c : List Value} (r : VRs ρ h v c) : VRs ρ h v.reverse c.reverse :=
  VRs.ind (P := fun v c => VRs ρ h v.reverse c.reverse) .nil (fun _ _ _ _ a _ k => by
    rw [List.reverse_cons, List.reverse_cons]
    exact k.append (.cons a .nil)) r

theorem s_unpack {is : List Nat} {e : E} {elts : List Expr} {k : Nat} {v : Expr} {p p' : Pos} (K : f.Ok n) (ht : chkTs f.scope f.names is elts = true) (nd : is.Nodup) (hc : isComp v = false) (hs : ∀ vs a b, v = .Tuple vs a b → vs.any isStar = false)
    (hm : unOk elts v = true ∨ swOk elts v = true) (ih : EvOk prog w B CM f C e v) : S1Ok prog w B CM f C (.unpack is e) (.Assign [.Tuple elts k p] v p') := fun t ρ s r t' ev I tk => by
  simp only [eS_skip, eS_cont, eS_seq, eS_assign, eS_unpack, eS_aug, eS_setItem, eS_expr, eS_ret, eS_raise, eS_ite, eS_while, eS_forRange, eS_forList] at ev
  obtain ⟨t1, t2, t3, a1, a2, a3, t6⟩ := chkTs_spec _ _ ht
  replace a1 := a1 f.env
  replace a2 := a2 f.env
  replace a3 := a3 f.env
  by_cases hu : unOk elts v = true
  · refine Assign_Tuple (wp_bd ev (fun r₁ t₁ e => ih t ρ s r₁ t₁ e I tk) (fun _ _ p => p) tk fun v t₁ c s₁ ρ₁ tk1 _ e1 rv I1 g1 => ?_) (by rw [swapsWithSole]; exact isComp_swaps hc _ _ _) (swapped_none hu)
    split at e1
    · split at e1
      · rename_i vs _ hz
        cases rv with
        | tup hx nx lx vx =>
          rename_i a cvs
          have lz := vx.length
          refine assign_Tuple_tuple K.hd hx (by simp; (first | lia | omega)) a2 fun h' he => ?_
          have kp : ∀ b o, s₁.heap.get? b = some o → h'.get? b = some o := fun b o q => he b o (fun q' => by rw [q'] at q; exact absurd (Heap.lt_size q) (Nat.lt_irrefl _)) q
          have g2 : Gr (frs f.outer) (f.X ρ₁) ρ₁ ρ₁ s₁ { s₁ with heap := h' } := Gr.of_heap (tk := s₁.toks) (.of_keeps kp)
          refine store_all (s := { s₁ with heap := h' }) K is (nmsOf elts) _ vs cvs t₁ ρ₁ (by simp; (first | lia | omega)) (fun k F x q1 q2 c Q' s' h => ?_) t1 t3 (by (first | lia | omega)) (I1.vrs g2 vx) (I1.keeps kp) tk1 fun s' I3 g3 _ => pf_next e1 I3 ((g1.transF g2).transF g3)
          obtain ⟨p, rfl⟩ := a3 k F x q1 q2
          exact PyProof.Rows.assign_Name h
      · (first | exact no e1 | exact no1 e1 | exact no2 e1 | exact noE e1 | exact noE1 e1 | obtain rfl := Option.some.inj e1 | obtain rfl := Except.ok.inj e1 | obtain rfl := e1 | cases e1)
    · (first | exact no e1 | exact no1 e1 | exact no2 e1 | exact noE e1 | exact noE1 e1 | obtain rfl := Option.some.inj e1 | obtain rfl := Except.ok.inj e1 | obtain rfl := e1 | cases e1)
  · have hw := hm.resolve_left hu
    refine Assign_Tuple_swapped (wp_bd ev (fun r₁ t₁ e => ih t ρ s r₁ t₁ e I tk) (fun _ _ p => p) tk fun v t₁ c s₁ ρ₁ tk1 _ e1 rv I1 g1 => ?_) (by rw [swapsWithSole]; exact isComp_swaps hc _ _ _) (swapped_some K ht hs hw)
    split at e1
    · split at e1
      · rename_i vs _ hz
        cases rv with
        | tup hx nx lx vx =>
          rename_i a cvs
          have lz := vx.length
          rw [show (nmsOf elts).length = cvs.toArray.size by simp; (first | lia | omega)]
          refine unpackItems_tuple K.hd hx fun h' he => ?_
          have kp : ∀ b o, s₁.heap.get? b = some o → h'.get? b = some o := fun b o q => he b o (fun q' => by rw [q'] at q; exact absurd (Heap.lt_size q) (Nat.lt_irrefl _)) q
          have g2 : Gr (frs f.outer) (f.X ρ₁) ρ₁ ρ₁ s₁ { s₁ with heap := h' } := Gr.of_heap (tk := s₁.toks) (.of_keeps kp)
          refine store_all (s := { s₁ with heap := h' }) K is.reverse (nmsOf elts).reverse _ vs.reverse cvs.reverse t₁ ρ₁ (by simp) (fun k F x q1 q2 c Q' s' h => ?_) (by simpa using t1) (fun k i x q1 q2 => ?_) (by simp; (first | lia | omega)) (I1.vrs g2 vx).reverse (I1.keeps kp) tk1 fun s' I3 g3 _ => ?_
          · rw [List.getElem?_map, q2] at q1
            (first | exact no q1 | exact no1 q1 | exact no2 q1 | exact noE q1 | exact noE1 q1 | obtain rfl := Option.some.inj q1 | obtain rfl := Except.ok.inj q1 | obtain rfl := q1 | cases q1)
            exact bindName_ h
          · have k1 : k < is.length := by simpa using (List.getElem?_eq_some_iff.mp q1).1
            rw [List.getElem?_reverse k1] at q1
            rw [List.getElem?_reverse (by (first | lia | omega)), ← t1] at q2
            exact t3 _ i x q1 q2
          · rw [putAll_reverse _ _ _ nd (by (first | lia | omega))] at I3
            exact pf_next e1 I3 ((g1.transF g2).transF g3)
      · (first | exact no e1 | exact no1 e1 | exact no2 e1 | exact noE e1 | exact noE1 e1 | obtain rfl := Option.some.inj e1 | obtain rfl := Except.ok.inj e1 | obtain rfl := e1 | cases e1)
    · (first | exact no e1 | exact no1 e1 | exact no2 e1 | exact noE e1 | exact noE1 e1 | obtain rfl := Option.some.inj e1 | obtain rfl := Except.ok.inj e1 | obtain rfl := e1 | cases e1)

theorem star_no {sc : Scope} {nm : List Str} {e : E} {pe : Expr} (h : chkE sc nm e pe = true) : isStar pe = false := by
  (first | exact no pe | exact no1 pe | exact no2 pe | exact noE pe | exact noE1 pe | obtain rfl := Option.some.inj pe | obtain rfl := Except.ok.inj pe | obtain rfl := pe | cases pe) <;> first | exact rfl | exact no_t h chk_starred
theorem chks_nostar {sc : Scope} {nm : List Str} {es : E} {pes : List Expr} (h : chkEs sc nm es pes = true) : pes.any isStar = false := by
  induction pes generalizing es with
  | nil => rfl
  | cons e r ih =>
    refine chkEs_e (P := fun es pes => pes = e :: r → (e :: r).any isStar = false) h nofun (fun a b e' r' h1 h2 q => ?_) rfl
    obtain ⟨rfl, rfl⟩ := List.cons.inj q
    rw [List.any_cons, ih h2, star_no h1]; rfl
theorem chk_tup {sc : Scope} {nm : List Str} {e : E} {vs : List Expr} {a : Nat} {b : Pos} (h : chkE sc nm e (.Tuple vs a b) = true) : ∃ es, chkEs sc nm es vs = true := by
  (first | exact no e | exact no1 e | exact no2 e | exact noE e | exact noE1 e | obtain rfl := Option.some.inj e | obtain rfl := Except.ok.inj e | obtain rfl := e | cases e) <;> first | exact ⟨_, (an h).1⟩ | exact no2 h
theorem bn {b : Bool} (h : (!b) = true) : b = false := by (first | exact no b | exact no1 b | exact no2 b | exact noE b | exact noE1 b | obtain rfl := Option.some.inj b | obtain rfl := Except.ok.inj b | obtain rfl := b | cases b) <;> first | rfl | exact no2 h
noncomputable def SS (prog : Program) (w : World) (B : Heap) (CM : Addr) (f : Fm) (C : Calls) (S : S) (ss : List Stmt) : Prop := SOk prog w B CM f C S ss ∧ ∀ x, ss = [x] → S1Ok prog w B CM f C S x
noncomputable def SndS (prog : Program) (w : World) (B : Heap) (CM : Addr) (f : Fm) (C : Calls) (S : S) : Prop := ∀ (ss : List Stmt), chkS f.scope f.names S ss = true → SS prog w B CM f C S ss
theorem one_e {S : S} {ss : List Stmt} {k : Stmt → Bool} (h : on1 ss k = true) (q : ∀ x, k x = true → S1Ok prog w B CM f C S x) : SS prog w B CM f C S ss :=
  on1_e h fun x h => ⟨(q x h).ok, fun y e => (List.cons.inj e).1 ▸ q x h⟩
theorem isEmpty_e {α : Type} {P : List α → Prop} {l : List α} (h : l.isEmpty = true) (q : P []) : P l := (List.isEmpty_iff.mp h) ▸ q
theorem snd_unpack {is : List Nat} {e : E} (K : f.Ok n) (snd : ∀ pe, chkE f.scope f.names e pe = true → EvOk prog w B CM f C e pe) : SndS prog w B CM f C (.unpack is e) := fun ss h => one_e h fun s h => onAsg_e h fun ts v p h => on1_e (P := fun ts => S1Ok prog w B CM f C (.unpack is e) (.Assign ts v p)) h fun t h => onTup_e (P := fun t => S1Ok prog w B CM f C (.unpack is e) (.Assign [t] v p)) h fun elts k p' h => by
  have h1 := an h
  have h2 := an h1.2
  have h3 := an h2.2
  have h4 := an h3.2
  refine s_unpack K h1.1 (dt h2.1) (bn h4.1) (fun vs a b q => ?_) (Bool.or_eq_true_iff.mp h4.2) (snd _ h3.1)
  exact chks_nostar (chk_tup (q ▸ h3.1 : chkE f.scope f.names e (.Tuple vs a b) = true)).choose_spec
theorem snd_forRange {i : Nat} {e : E} {b : S} (T0 : Top0 prog w B fn CM) (K : f.Ok n) (snd : ∀ pe, chkE f.scope f.names e pe = true → EvOk prog w B CM f C e pe) (ihb : SndS prog w B CM f C b) : SndS prog w B CM f C (.forRange i e b) := fun ss h => one_e h fun s h => onFor_e h fun t it body y p h =>
  isEmpty_e (P := fun y => S1Ok prog w B CM f C (.forRange i e b) (.For t it body y p)) (an h).1 (onName_e (P := fun t => S1Ok prog w B CM f C (.forRange i e b) (.For t it body [] p)) (an h).2 fun x p' h => onFn_e (P := fun it => S1Ok prog w B CM f C (.forRange i e b) (.For (.Name x p') it body [] p)) h fun g np as p'' h =>
    on1_e (P := fun as => S1Ok prog w B CM f C (.forRange i e b) (.For (.Name x p') (.Call (.Name g np) as [] p'') body [] p)) h fun v h => by
      have h1 := an h
      have h2 := an h1.2
      have h3 := an h2.2
      have h4 := an h3.2
      have h5 := an h1.1
      obtain rfl := dt h2.1
      exact s_forRange T0 K (dt h5.1) (dt h5.2) (dt h3.1) (chk_star h4.1 _ _) (snd _ h4.1) (ihb _ h4.2).1)
theorem sound_S (T0 : Top0 prog w B fn CM) (HC : CallsOk prog w B fn CM C n) (K : f.Ok n) (hR : RaiseOk prog w B CM f) : ∀ (S : S), SndS prog w B CM f C S := by
  have snd := fun e pe h => ((sound_E T0 HC K e).1 pe h)
  intro S
  induction S with
  | skip => exact fun ss h => isEmpty_e h ⟨s_skip, nofun⟩
  | cont => exact fun ss h => one_e h fun s h => isCont_e h fun p => s_cont
  | seq a b iha ihb => exact fun ss h => onC_e h fun x r h => ⟨s_seq ((iha _ (an h).1).2 _ rfl) (ihb _ (an (an h).2).2).1, fun y q => no2 ((List.cons.inj q).2 ▸ (an (an h).2).1 : (!([] : List Stmt).isEmpty) = true)⟩
  | assign i e => exact fun ss h => one_e h fun s h => onAsg_e h fun ts v p h => on1_e (P := fun ts => S1Ok prog w B CM f C (.assign i e) (.Assign ts v p)) h fun t h => onName_e (P := fun t => S1Ok prog w B CM f C (.assign i e) (.Assign [t] v p)) h fun x p' h => s_assign K (dt (an (an h).1).1) (dt (an (an h).1).2) (bn (an (an h).2).2) (snd _ _ (an (an h).2).1).1
  | unpack is e => exact snd_unpack K fun pe h => (snd e pe h).1
  | aug i e => exact fun ss h => one_e h fun s h => onAug_e h fun t o v p h => onName_e (P := fun t => S1Ok prog w B CM f C (.aug i e) (.AugAssign t o v p)) h fun x p' h => eqD (P := fun o => S1Ok prog w B CM f C (.aug i e) (.AugAssign (.Name x p') o v p)) (an h).1 (s_aug K (dt (an (an (an h).2).1).1) (dt (an (an (an h).2).1).2) (snd _ _ (an (an h).2).2).1)
  | setItem o k e => exact fun ss h => one_e h fun s h => onAsg_e h fun ts v p h => on1_e (P := fun ts => S1Ok prog w B CM f C (.setItem o k e) (.Assign ts v p)) h fun t h => onSub_e (P := fun t => S1Ok prog w B CM f C (.setItem o k e) (.Assign [t] v p)) h fun ov kv p' h => s_setItem (bn (an (an (an h).2).2).2) (snd _ _ (an h).1).1 (snd _ _ (an (an h).2).1).1 (snd _ _ (an (an (an h).2).2).1).1
  | expr e => exact fun ss h => one_e h fun s h => onExpr_e h fun v p h => s_expr K (an h).2 (snd _ _ (an h).1).1
  | ret e => exact fun ss h => one_e h fun s h => onRet_e h fun v p h => onO_e (P := fun v => S1Ok prog w B CM f C (.ret e) (.Return v p)) h fun v h => s_ret (snd _ _ h).1
  | raise wd => exact fun ss h => one_e h fun s h => onRse_e h fun v c p h => onO_e (P := fun v => S1Ok prog w B CM f C (.raise wd) (.Raise v c p)) h fun v h => isNone_e (P := fun c => S1Ok prog w B CM f C (.raise wd) (.Raise (some v) c p)) (an h).1 (s_raise hR (an h).2)
  | ite c a b iha ihb => exact fun ss h => one_e h fun s h => onIte_e h fun v x y p h => s_ite (snd _ _ (an h).1).2 (iha _ (an (an h).2).1).1 (ihb _ (an (an h).2).2).1
  | «while» c b ihb => exact fun ss h => one_e h fun s h => onWh_e h fun v x y p h => isEmpty_e (P := fun y => S1Ok prog w B CM f C (.while c b) (.While v x y p)) (an h).1 (s_while K (snd _ _ (an (an h).2).1).2 (ihb _ (an (an h).2).2).1)
  | forRange i e b ihb => exact snd_forRange T0 K (fun pe h => (snd e pe h).1) ihb
  | forList i e b ihb => exact fun ss h => one_e h fun s h => onFor_e h fun t v body y p h => isEmpty_e (P := fun y => S1Ok prog w B CM f C (.forList i e b) (.For t v body y p)) (an h).1 (onName_e (P := fun t => S1Ok prog w B CM f C (.forList i e b) (.For t v body [] p)) (an h).2 fun x p' h => s_forList K (dt (an (an h).1).1) (dt (an (an h).1).2) (an (an h).2).1 (snd _ _ (an (an (an h).2).2).1).1 (ihb _ (an (an (an h).2).2).2).1)
end
end Nt
end

section
open PySem PySem.W PyProof.Rows PySem.Calls PySem.SeqAt
set_option genSizeOf false
set_option genInjectivity false
set_option maxRecDepth 100000
set_option autoImplicit false
namespace Nt

structure ClsK (K : Frag) (C : Addr) : Prop where
  obj : ∃ od cd sl, K.lookup C = some ⟨.type "type", od, .cls cd, sl⟩ ∧ cd.abstract = false ∧ cd.mro.isEmpty = false ∧ cd.hasDel = false
  made : ∀ S, peek K S (Bind.madeBy (.ref C)) = some (some "Exception.__new__")
  base : ∀ S, peek K S (Bind.staticBase (.ref C)) = some (.ref C)
  self : mroIn K C (.ref C) = some true
  exc : mroIn K C (.type "Exception") = some true
  bexc : mroIn K C (.type "BaseException") = some true
  attr : mroIn K C (.type "AttributeError") = some false
  nam : mroIn K C (.type "NameError") = some false
  typ : instIn K (.ref C) (.type "type") = some true
  call : specialIn K (.ref C) "__call__" = some (some (.builtin "type.__call__"))

noncomputable abbrev newTup (rest : List Value) : Obj := { cls := .type "tuple", data := .seq rest.toArray }
noncomputable abbrev newExcO (C t : Addr) : Obj := { cls := .ref C, data := .fields #[.ref t, .none, .none, .none, .bool false, .none] }

section
variable {prog : Program} {w : World} {A : Around} {K : Frag} {C : Addr} {R : Result → Shared → Prop} {h : Heap} {g : Array GenState} {d : Drawn} {t : Nat} {os : OsState}
theorem exc_new {rest : List Value} (X : K.In h) (Y : ClsK K C) (hrest : rest.length ≤ sizeLine)
    (hq : R (.ok (.ret (.ref (h.objs.size + 1)))) ⟨(h.push (newTup rest)).push (newExcO C h.objs.size), g, d, t, os⟩) :
    codeAny (model prog w) A (.call (.builtin "Exception.__new__") ⟨.ref C :: rest, []⟩) R ⟨h, g, d, t, os⟩ := by
  have F := PySem.F.excBase_Exception
  have made := Looks.of_peek (M := model prog w) X (Y.made _)
  have base := Looks.of_peek (M := model prog w) X (Y.base _)
  have self := looks_mroIn (M := model prog w) X Y.self
  have exc := looks_mroIn (M := model prog w) X Y.exc
  have bexc := looks_mroIn (M := model prog w) X Y.bexc
  have attr := looks_mroIn (M := model prog w) X Y.attr
  have nam := looks_mroIn (M := model prog w) X Y.nam
  obtain ⟨od, cd, sl, hC, e1, e2, e3⟩ := Y.obj
  have hC := X _ _ hC
  refine codeAny_call_builtin_code (Code.quiet_builtin _ F.quiet) ?_
  have hstar := F.noStar
  simp only [checkBuiltinCall, F.newKind, F.newSplit, F.newRow]
  have hcan : Manifest.canonical "Exception.__new__" = Manifest.canonical "BaseException.__new__" := F.canon
  have here : Looks (model prog w) h (Bind.madeHere "Exception.__new__" (.ref C)) () := base.andThen (made.andThen (Looks.of_pure (by simp only [Option.map_some, bne_self_eq_false, Bool.false_eq_true, if_false])))
  have here2 : Looks (model prog w) h (Bind.madeHere "BaseException.__new__" (.ref C)) () := base.andThen (made.andThen (Looks.of_pure (by simp only [Option.map_some, hcan, bne_self_eq_false, Bool.false_eq_true, if_false])))
  repeat (first | simp only [bne_self_eq_false, Bool.false_eq_true, if_false] | lk)
  have hends := F.ends
  refine codeAny_builtinAt F.entry ?_
  unfold Builtin.«BaseException.__new__»
  refine PySem.wpAt_bind ?_
  show PySem.wpAt _ _ _ (stack >>= _) _ _ _
  refine PySem.wpAt_bind (PySem.wpAt_stack fun p below => PySem.wpAt_of_wpAny ?_)
  wp_walk
  refine PySem.wpAt_of_wpAny ?_
  rw [F.owner]
  repeat (first | simp only [bne_self_eq_false, Bool.false_eq_true, if_false] | lk)
  show wpAny _ _ (newTuple rest) _ _ _
  unfold newTuple
  refine wpAny_newObj_type (wpAny_bind ?_) (by show rest.toArray.size ≤ sizeLine; rw [List.size_toArray]; exact hrest)
  unfold newObj
  show wpAny _ _ (newObjAsIs _ _ _) _ _ _
  unfold newObjAsIs classHasDel
  refine wpAny_bind (wpAny_alloc (wpAny_bind (wpAny_bind (wpAny_load (Heap.get?_push_of_some _ (Heap.get?_push_of_some _ hC)) (wpAny_pure ?_)))))
  rw [e3]
  refine wpAny_pure (wpAny_pure ?_)
  show R _ _
  rw [Heap.size_push]
  exact hq

theorem exc_make {rest : List Value} {ia : Addr} (X : K.In h) (Y : ClsK K C) (hi : findIn K (.ref C) "__init__" = some (some (.ref ia))) (hf : typeIn K (.ref ia) = some (.type "function")) (hrest : rest.length ≤ sizeLine)
    (hq : codeAny (model prog w) (A.under (.builtin "type.__call__" ⟨.ref C :: rest, []⟩)) (.call (.ref ia) ⟨.ref (h.objs.size + 1) :: rest, []⟩) (InitBack (h.objs.size + 1) R) ⟨(h.push (newTup rest)).push (newExcO C h.objs.size), g, d, t, os⟩) :
    codeAny (model prog w) A (.call (.ref C) ⟨rest, []⟩) R ⟨h, g, d, t, os⟩ := by
  have hi := looks_findIn (M := model prog w) X hi
  have hb : ∀ self, Looks (model prog w) h (bindSpecial (.ref ia) self) (.ref ia, [self]) := fun self => bind_fn X self hf
  have made := Looks.of_peek (M := model prog w) X (Y.made _)
  have self := looks_mroIn (M := model prog w) X Y.self
  have typ := looks_instIn (M := model prog w) X Y.typ
  have call := looks_specialIn (M := model prog w) X Y.call
  have Y' := Y
  obtain ⟨od, cd, sl, hC, e1, e4, e3⟩ := Y.obj
  have hC := X _ _ hC
  refine codeAny_of_tree ?_
  show wpAny _ _ (callAny (.ref C) _) _ _ _
  refine nd_load hC ?_
  show wpAny _ _ (callAny.viaDunder (.ref C) _) _ _ _
  unfold callAny.viaDunder
  refine wpAny_bind (call.at ?_)
  dsimp only
  rw [tc_bind]
  refine wpAny_bind (wpAny_pure (wpAny_bind (wpAny_pure ?_)))
  refine wpAny_pure (a := Fin.again (.call (.builtin "type.__call__") ⟨.ref C :: rest, []⟩)) (And.intro rfl ?_)
  refine codeAny_call_builtin_at (Code.quiet_builtin _ (by decide +kernel)) entry_typeCall (check_slot tc_kind tc_split typ (tc_args _ _ _) ?_)
  unfold Builtin.«type.__call__»
  have hm : Looks (model prog w) h (mroOf (.ref C)) cd.mro := ((Looks.ld (part := none) hC).andThen .now).andThen .now
  repeat (first | simp only [e4, Bool.false_eq_true, if_false] | with_reducible refine wpAny_call ?_ | lk)
  refine exc_new X Y' hrest ?_
  have k : ∀ b o, h.get? b = some o → ((h.push (newTup rest)).push (newExcO C h.objs.size)).get? b = some o := fun b o e => Heap.get?_push_of_some _ (Heap.get?_push_of_some _ e)
  have hx : ((h.push (newTup rest)).push (newExcO C h.objs.size)).get? (h.objs.size + 1) = some (newExcO C h.objs.size) := by heap_get
  have t1 : Looks (model prog w) ((h.push (newTup rest)).push (newExcO C h.objs.size)) (typeOf (.ref (h.objs.size + 1))) (.ref C) := (Looks.ld hx).andThen .now
  have s1 := self.keeps k
  have i1 := hi.keeps k
  have b1 := (hb (.ref (h.objs.size + 1))).keeps k
  unfold isInstance callSpecial? specialOf
  repeat (first | with_reducible refine wpAny_call ?_ | lk)
  refine codeAny_mono hq fun r s' z => ?_
  rcases r with e | (v | _ | _ | _) <;> first | exact z | exact z.elim | skip
  obtain ⟨rfl, z⟩ := z
  exact wpAny_pure (wpAny_pure z)
end
end Nt
end

section
open PySem PySem.W PyProof.Rows PySem.Calls PySem.SeqAt Builtin Builtin.ObjectAttr
set_option genSizeOf false
set_option genInjectivity false
set_option maxRecDepth 100000
set_option autoImplicit false
namespace Nt

/-- the class' own __init__ -/
structure InitFn (K : Frag) (C ia : Addr) (fd : FuncData) : Prop where
  init : findIn K (.ref C) "__init__" = some (some (.ref ia))
  kind : typeIn K (.ref ia) = some (.type "function")
  obj : ∃ o, K.lookup ia = some o ∧ o.data = .func fd
  body : ∃ p1 p2 p3 p4 p5 p6 q1 q2 q3 q4, (p2.endLine == p5.line) = true ∧ fd.body = .stmts [.Expr (.Call (.Attribute (.Name ("Exception" : Str) p1) ("__init__" : Str) p2) [.Name ("self" : Str) p3, .Name ("why" : Str) p4] [] p5) p6,
    .Assign [.Attribute (.Name ("self" : Str) q1) ("why" : Str) q2] (.Name ("why" : Str) q3) q4]
  binds : ∀ x y, bindArgs fd ⟨[x, y], []⟩ = pure [(("self" : Str), x), (("why" : Str), y)]
  cells : ∀ x ∈ fd.scope.names, x.2 ≠ .cell
  self : fd.scope.names.lookup ("self" : Str) = some .local
  why : fd.scope.names.lookup ("why" : Str) = some .local
  exc : fd.scope.names.lookup ("Exception" : Str) = some .globalImplicit
  co : fd.scope.isCoroutine = false
  gen : fd.scope.isGenerator = false
  fk : fd.scope.kind = .function
  glob : fd.globals = mainGlobals
  blt : fd.builtins = builtinsNs
  code : ∃ c o vs t, fd.code = .ref c ∧ K.lookup c = some o ∧ o.data = .fields vs ∧ vs[1]? = some (.str fd.qualname t)
  store : findIn K (.ref C) "__setattr__" = some (some (.builtin "object.__setattr__"))
  over : findIn K (.type "Exception") "__setattr__" = some (some (.builtin "object.__setattr__"))
  noWhy : findIn K (.ref C) "why" = some none

section
variable {M : Model} {A : Around} {env : Env} {s : Shared} {Q : Value → Shared → Prop} {R : Value → Shared → Prop}
theorem method_g {o : Expr} {name : Str} {ap p : Pos} {args : List Expr} (ho : isNS o = true) (hp : (ap.endLine == p.line) = true) (hf : methodCallForm (args.length + 0) (backTo p (starEach args env)) [] = true)
    (h : ∀ pl, wpAny M A (eval o env) (fun ov s₁ => wpAny M A (getMethod ov name pl) (fun fx s₂ => wpAny M A (callWith p fx.1 fx.2 (backTo p (starEach args env)) []) Q R s₂) R s₁) R s) :
    wpAny M A (eval (.Call (.Attribute o name ap) args [] p) env) Q R s := by
  have e : eval (.Call (.Attribute o name ap) args [] p) env = (do
      let ov ← eval o env
      standAt ap.atName
      methodCall o name ap p env ov (args.length + 0) (backTo p (starEach args env)) []) := by
    rcases isNS_i ho with ⟨_, _, rfl⟩ | ⟨_, _, _, rfl⟩ <;> rfl
  rw [e]
  refine wpAny_bind (wpAny_mono (h (do return (← importBound o env).getD true)) (fun ov s₁ h₁ => wpAny_bind (wpAny_standAt ?_)) fun _ _ x => x)
  unfold methodCall calleeOf methodCallPos
  rw [hf, hp]
  simp only [if_true, Bool.not_true, Bool.false_or]
  refine wpAny_bind (wpAny_holding (wpAny_mono h₁ (fun fx s₂ h₂ => ?_) fun _ _ x => x))
  exact wpAny_bind (wpAny_pure h₂)
end

section
variable {prog : Program} {w : World} {A : Around} {K : Frag} {C e t0 : Addr} {E : Value → Shared → Prop} {s : Shared}

/-- Exception.__init__(self, why) -/
theorem exc_init {rest : List Value} {Q : Value → Shared → Prop} (X : K.In s.heap) (Y : ClsK K C) (he : s.heap.get? e = some (newExcO C t0)) (hrest : rest.length ≤ sizeLine)
    (h : Q .none { s with heap := (s.heap.push (newTup rest)).update e (Obj.mapFields (·.setIfInBounds 0 (.ref s.heap.objs.size))) }) :
    wpAny (model prog w) A (call (.builtin "Exception.__init__") (.ref e :: rest)) Q E s := by
  have F := PySem.F.excBase_Exception
  obtain ⟨hh, g, d, t, os⟩ := s
  have t1 : Looks (model prog w) hh (typeOf (.ref e)) (.ref C) := (Looks.ld he).andThen .now
  have exc := looks_mroIn (M := model prog w) X Y.exc
  refine wpAny_call (codeAny_call_builtin F.init.plain F.initEntry ?_)
  simp only [checkBuiltinCall, F.initKind, F.initSplit, F.initRow]
  obtain ⟨od, cd, sl, hC, e1, e4, e3⟩ := Y.obj
  have hC := X _ _ hC
  dsimp only at he exc X hC
  have inst : Looks (model prog w) hh (isInstance (.ref e) (.type "Exception")) true := t1.andThen exc
  have hns : ("Exception" != "*") = true := F.noStar
  refine wpAny_bind (inst.here ?_)
  simp only [Bool.not_true, Bool.false_eq_true, if_false]
  unfold Bind.checkArgs
  dsimp only
  repeat (first
    | (with_reducible refine wpAny_onRaise ?_
       rw [show ∀ (a b : String) (n : Nat), Bind.check ⟨.positional, "*", "Exception", .self, [⟨"args", .varPos, false⟩]⟩ a b n (List.map (fun x => x.fst) ({ pos := Value.ref e :: rest } : Args).kw) = pure () from fun a b n => check_star_args _ _ _ _ _ _]
       refine wpAny_pure ?_)
    | lk)
  show wpAny _ _ (newTuple rest) _ _ _
  unfold newTuple
  have he₁ := Heap.get?_push_of_some (h := hh) (newTup rest) he
  refine wpAny_newObj_type (wpAny_bind ?_) (by show rest.toArray.size ≤ sizeLine; rw [List.size_toArray]; exact hrest)
  unfold Builtin.BaseException.bexcPut
  refine wpAny_bind (wpAny_field he₁ rfl (i := 0) rfl (wpAny_bind (wpAny_setField he₁ rfl (by simp) ?_)))
  exact wpAny_letGo (wpAny_pure h)

noncomputable abbrev whyExc (C t dx : Addr) : Obj := { cls := .ref C, dict := some dx, data := .fields #[.ref t, .none, .none, .none, .bool false, .none] }

theorem isSub_true {l : List Value} {b : Value} (h : l.contains b = true) : l.contains b = true := h

/-- self.why = why -/
theorem set_why {x : List Nat} {tk : Tok} {t : Addr} {Q : Unit → Shared → Prop} {ia : Addr} {fd : FuncData} {cd : ClassData} (X : K.In s.heap) (Y : ClsK K C) (Z : InitFn K C ia fd) (hcd : clsIn K C = some cd) (hdict : cd.hasDict = true) (hmro : refuseLoop (.ref e) "__setattr__" cd.mro = pure ()) (hobj : mroIn K C (.type "object") = some true)
    (he : s.heap.get? e = some (newExcO C t))
    (h : ∀ h' dx od k, (∀ b o, b ≠ e → s.heap.get? b = some o → h'.get? b = some o) → h'.get? e = some (whyExc C t dx) → h'.get? dx = some od → WhyObj od x → s.heap.get? dx = none → Q () { s with heap := h', toks := k }) :
    wpAny (model prog w) A (setAttr (.ref e) ("why" : Str) (.str (st x) tk)) Q E s := by
  have SF := PySem.F.store_object
  obtain ⟨hh, g, d, tt, os⟩ := s
  dsimp only at X he h
  have t1 : Looks (model prog w) hh (typeOf (.ref e)) (.ref C) := (Looks.ld he).andThen .now
  have l1 := looks_findIn (M := model prog w) X Z.store
  unfold setAttr callSpecial? specialOf
  refine wpAny_bind (wpAny_mkText (wpAny_bind (wpAny_bind (wpAny_bind (t1.at (l1.at (wpAny_holding ?_)))))))
  rw [SF.slot.bind]
  refine wpAny_bind (wpAny_pure (wpAny_bind (wpAny_call ?_)))
  have sub : Looks (model prog w) hh (isInstance (.ref e) (.type "object")) true := t1.andThen (looks_mroIn X hobj)
  refine codeAny_call_builtin SF.slot.plain SF.entry (@check_slot (model prog w) _ _ ⟨hh, g, d, tt + 1, os⟩ "object.__setattr__" "object" "__setattr__" (.ref e) [.str ("why" : Str) tt, .str (st x) tk] [] _ SF.kind SF.split sub (SF.args (.ref e) (.str ("why" : Str) tt) (.str (st x) tk)) ?_)
  have hm : Looks (model prog w) hh (mroOf (.ref C)) cd.mro := (looks_clsIn X hcd).andThen .now
  show wpAny _ _ (Builtin.«object.__setattr__» ⟨[.ref e, .str ("why" : Str) tt, .str (st x) tk], []⟩) _ _ _
  rw [osa_eq, refuse_eq]
  refine wpAny_bind (wpAny_bind (t1.at (wpAny_bind (hm.at ?_))))
  rw [hmro]
  have l2 := looks_findIn (M := model prog w) X Z.noWhy
  have l3 : Looks (model prog w) hh (classData C) cd := looks_clsIn X hcd
  refine wpAny_pure (wpAny_bind (t1.at (wpAny_bind (l2.at (wpAny_bind (wpAny_pure ?_))))))
  show wpAny _ _ (storeInOwnDict (.ref e) (.ref C) (.str ("why" : Str) tt) ("why" : Str) (.str (st x) tk) false) _ _ _
  refine wpAny_bind (wpAny_pure (wpAny_bind (wpAny_bind (wpAny_loadPart he (wpAny_bind (l3.at ?_))))))
  rw [hdict]
  show wpAny _ _ (alloc emptyDict >>= fun d => update e (fun o => { o with dict := some d }) >>= fun _ => dictMade (.ref C) e d) _ _ _
  have hne : hh.objs.size ≠ e := Nat.ne_of_gt (Heap.lt_size he)
  have he₁ := Heap.get?_push_of_some emptyDict he
  have he₂ : ((hh.push emptyDict).update e fun o => { o with dict := some hh.objs.size }).get? e = some (whyExc C t hh.objs.size) := Heap.get?_update_self _ he₁ rfl
  have hd₂ : ((hh.push emptyDict).update e fun o => { o with dict := some hh.objs.size }).get? hh.objs.size = some emptyDict := (Heap.get?_update_other _ _ (Ne.symm hne)).trans (Heap.get?_push_size hh rfl)
  refine wpAny_bind (wpAny_alloc (wpAny_bind (wpAny_update he₁ ?_)))
  unfold dictMade
  refine wpAny_pure (a := some hh.objs.size) ?_
  show wpAny _ _ (storeInDict hh.objs.size (.str ("why" : Str) tt) ("why" : Str) (.str (st x) tk)) _ _ _
  refine wpAny_bind (wpAny_pure (wpAny_bind ?_))
  unfold nsSet
  refine wpAny_bind (wpAny_bind (wpAny_askSetting (wpAny_pure (wpAny_bind (wpAny_mkText (wpAny_bind (wpAny_loadPart hd₂ ?_)))))))
  refine wpAny_updatePart hd₂ ?_
  have hd₃ := fun hs : Int => Heap.get?_update_self (Obj.putName ("why" : Str) hs (.str ("why" : Str) (tt + 1)) (.str (st x) tk)) hd₂ rfl
  refine wpAny_bind (wpAny_lookBehind (hd₃ _) (pastItsLine_dict (by rw [sizeLine_eq]; exact (by decide : (1 : Nat) ≤ 16777216 + 1))) ?_)
  refine wpAny_pure (wpAny_pure (wpAny_pure (h _ hh.objs.size _ _ (fun b o hb q => ?_) ?_ (hd₃ _) ⟨_, _, _, _, rfl⟩ (none_at _))))
  · have hbd : b ≠ hh.objs.size := Nat.ne_of_lt (Heap.lt_size q)
    exact (Heap.get?_update_other _ _ (Ne.symm hbd)).trans ((Heap.get?_update_other _ _ (Ne.symm hb)).trans (Heap.get?_push_of_some _ q))
  · exact (Heap.get?_update_other _ _ hne).trans he₂
end
end Nt
end

section
open PySem PySem.W PyProof.Rows PySem.Calls PySem.SeqAt Builtin Builtin.ObjectAttr
set_option genSizeOf false
set_option genInjectivity false
set_option maxRecDepth 100000
set_option autoImplicit false
namespace Nt

structure ClsD (K : Frag) (C : Addr) (cd : ClassData) : Prop where
  cls : clsIn K C = some cd
  dict : cd.hasDict = true
  mro : ∀ e, refuseLoop (.ref e) "__setattr__" cd.mro = pure ()
  obj : mroIn K C (.type "object") = some true
  excTy : typeOf (.type "Exception") = pure (.type "type")
  excInit : findCls K (.type "Exception") (.type "type") "__init__" = some (.val (.builtin "Exception.__init__"))

structure Glob1 (B : Heap) (x : Str) (v : Value) : Prop where
  names : ∃ mg mb, B.Ns mainGlobals mg ∧ B.Ns builtinsNs mb ∧ mg x = none ∧ mb x = some v
  lim : B.NoLimit

section
variable {prog : Program} {w : World} {A : Around} {K : Frag} {C e t0 : Addr} {E : Value → Shared → Prop} {s : Shared} {B : Heap}

theorem getMethod_exc {pl : Sem Bool} {Q : Value × List Value → Shared → Prop} {cd : ClassData} (X : K.In s.heap) (D : ClsD K C cd) (h : Q (.builtin "Exception.__init__", []) { s with toks := s.toks + 1 }) :
    wpAny (model prog w) A (getMethod (.type "Exception") ("__init__" : Str) pl) Q E s := by
  have hstub : opaqueClassAbove (.type "Exception") = pure none := by
    unfold opaqueClassAbove; dsimp only
    rw [show Manifest.isStub "Exception" = false from by decide +kernel]; rfl
  have L0 : Looks (model prog w) s.heap (typeOf (.type "Exception")) (.type "type") := Looks.of_pure D.excTy
  have hg : findIn K (.type "type") "__getattribute__" = some (some (.builtin "type.__getattribute__")) := type_tga
  unfold getMethod specialOf
  refine wpAny_bind (wpAny_bind (L0.here ((looks_findIn X hg).here ?_)))
  dsimp only
  rw [if_pos canon_tga]
  refine wpAny_bind (wpAny_mono (Q := fun v => Q (v, [])) (E := E) ?_ (fun _ _ z => wpAny_pure z) fun _ _ z => z)
  have LO : Looks (model prog w) s.heap (opaqueClassAbove (.type "Exception")) none := Looks.of_pure hstub
  refine cls_open X LO L0 hg (looks_hook X (r := none) (by rfl)) (by show subIn K _ _ = _; rfl) D.excInit
    (wpAny_pure (by show wpAny _ _ (handedOut _) _ _ _; rw [handedOut_of (by decide +kernel)]; exact wpAny_pure h))

theorem init_call {ia : Addr} {fd : FuncData} {cd : ClassData} {x : List Nat} {tk : Tok} {R : Result → Shared → Prop} (X : K.In B) (hB : B.StaysIn s.heap) (Y : ClsK K C) (Z : InitFn K C ia fd) (D : ClsD K C cd) (G : Glob1 B ("Exception" : Str) (.type "Exception"))
    (hroom : A.depth < recursionLimit) (he : s.heap.get? e = some (newExcO C t0)) (hBe : B.get? e = none)
    (h : ∀ h' t dx od k, (∀ b o, b ≠ e → s.heap.get? b = some o → h'.get? b = some o) → h'.get? e = some (whyExc C t dx) → h'.get? dx = some od → WhyObj od x → s.heap.get? dx = none → R (.ok (.ret .none)) { s with heap := h', toks := k }) :
    codeAny (model prog w) A (.call (.ref ia) ⟨[.ref e, .str (st x) tk], []⟩) R s := by
  obtain ⟨o, ho, hd⟩ := Z.obj
  obtain ⟨p1, p2, p3, p4, p5, p6, q1, q2, q3, q4, hp, hbody⟩ := Z.body
  obtain ⟨mg, mb, hg, hb, hm, hv⟩ := G.names
  obtain ⟨cc, oc, vc, tc, hc1, hc2, hc3, hc4⟩ := Z.code
  have XB := X.keeps hB
  refine codeAny_call_def hroom (XB _ _ ho) hd (G.lim.keeps hB) ⟨cc, oc, vc, tc, hc1, XB _ _ hc2, hc3, hc4⟩ hbody (.of_eq (Z.binds _ _)) Z.cells ?_ (fun h₀ hns hk => ?_) Z.co Z.gen Z.fk
  · intro y hy
    simp only [List.mem_cons, List.not_mem_nil, or_false] at hy
    rcases hy with rfl | rfl
    · exact Z.self
    · exact Z.why
  have B0 : B.StaysIn h₀ := fun b o q => hk _ _ (hB _ _ q)
  have X0 : K.In h₀ := X.keeps B0
  have he0 := hk _ _ he
  generalize henv : callEnv fd s.heap.objs.size ia = env
  have henvk : env.scope.kind = .function := by subst henv; exact Z.fk
  have hsc : env.scope = fd.scope := by subst henv; rfl
  have hglob : env.globals = mainGlobals := by subst henv; exact Z.glob
  have hbl : env.builtins = builtinsNs := by subst henv; exact Z.blt
  have hloc : env.locals = s.heap.objs.size := by subst henv; rfl
  have kself : env.kindOf ("self" : Str) = some .local := by subst henv; exact Z.self
  have kwhy : env.kindOf ("why" : Str) = some .local := by subst henv; exact Z.why
  have kexc : env.kindOf ("Exception" : Str) = some .globalImplicit := by subst henv; exact Z.exc
  have hfr : env.frame = some s.heap.objs.size := by subst henv; rfl
  have hself : (fun y => ([(("self" : Str), Value.ref e), (("why" : Str), Value.str (st x) tk)] : List (Str × Value)).reverse.lookup y) ("self" : Str) = some (.ref e) := by rfl
  have hwhy : (fun y => ([(("self" : Str), Value.ref e), (("why" : Str), Value.str (st x) tk)] : List (Str × Value)).reverse.lookup y) ("why" : Str) = some (.str (st x) tk) := by rfl
  rw [← hloc] at hns
  refine wpAny_execs_cons (wpAny_Expr_any ?_ ?_ rfl)
  · refine method_g rfl hp (by rfl) fun pl => ?_
    refine Name_function_global henvk kexc (loadGlobal_builtin (mg := mg) (mb := mb) (by rw [hglob]; exact hg.keeps B0) hm (by rw [hbl]; exact hb.keeps B0) hv ?_) (by decide)
    refine getMethod_exc X0 D ?_
    refine callWith_of (P := fun _ => True) (by rfl) (fun h st => ⟨.machine, .inr (.inl rfl), Looks.of_pure rfl⟩) (evalArgs_plain (spliced_cons ?_))
    refine wpAny_Name (wpAny_loadName_local henvk kself hns hself (spliced_cons ?_))
    refine wpAny_Name (wpAny_loadName_local henvk kwhy hns hwhy (spliced_nil ⟨trivial, ?_⟩))
    refine exc_init (rest := [.str (st x) tk]) X0 Y he0 (by simp [sizeLine_eq]) ?_
    have Xe : Heap.get? ((h₀.push (newTup [.str (st x) tk])).update e (Obj.mapFields (·.setIfInBounds 0 (.ref h₀.objs.size)))) e = some (newExcO C h₀.objs.size) := Heap.get?_update_self _ (Heap.get?_push_of_some _ he0) rfl
    have Xk : ∀ b o, b ≠ e → h₀.get? b = some o → Heap.get? ((h₀.push (newTup [.str (st x) tk])).update e (Obj.mapFields (·.setIfInBounds 0 (.ref h₀.objs.size)))) b = some o := fun b o hb q =>
      (Heap.get?_update_other _ _ (Ne.symm hb)).trans (Heap.get?_push_of_some _ q)
    have eL : env.locals ≠ e := by rw [hloc]; exact Nat.ne_of_gt (Heap.lt_size he)
    obtain ⟨lo, les, lep, l1, l2, l3, l4⟩ := hns
    generalize hh1 : (h₀.push (newTup [.str (st x) tk])).update e (Obj.mapFields (·.setIfInBounds 0 (.ref h₀.objs.size))) = h1 at Xe Xk
    have X1 : K.In h1 := X.keeps fun b o q => Xk b o (fun q' => by rw [q', hBe] at q; (first | exact no q | exact no1 q | exact no2 q | exact noE q | exact noE1 q | obtain rfl := Option.some.inj q | obtain rfl := Except.ok.inj q | obtain rfl := q | cases q)) (B0 b o q)
    have hns1 : h1.Ns env.locals _ := ⟨lo, les, lep, Xk _ _ eL l1, l2, l3, l4⟩
    refine wpAny_execs_cons (plainObj_wpAny_Assign_Attribute ?_ rfl)
    refine wpAny_Name (wpAny_loadName_local henvk kwhy hns1 hwhy (wpAny_Name (wpAny_loadName_local henvk kself hns1 hself ?_)))
    refine set_why (t := h₀.objs.size) (by exact X1) Y Z D.cls D.dict (D.mro e) D.obj (by exact Xe) fun h' dx od k k1 k2 k3 k4 k5 => ?_
    refine wpAny_execs_nil (h h' _ dx od k (fun b o hb q => k1 b o hb (Xk b o hb (hk b o q))) k2 k3 k4 ?_)
    cases q : s.heap.get? dx with
    | none => rfl
    | some o =>
      have de : dx ≠ e := fun q' => by
        have k5 : h1.get? dx = none := k5
        rw [q', Xe] at k5; (first | exact no k5 | exact no1 k5 | exact no2 k5 | exact noE k5 | exact noE1 k5 | obtain rfl := Option.some.inj k5 | obtain rfl := Except.ok.inj k5 | obtain rfl := k5 | cases k5)
      have := Xk dx o de (hk _ _ q)
      have k5 : h1.get? dx = none := k5
      rw [k5] at this; (first | exact no this | exact no1 this | exact no2 this | exact noE this | exact noE1 this | obtain rfl := Option.some.inj this | obtain rfl := Except.ok.inj this | obtain rfl := this | cases this)
  · show (env.scope.kind == .module && _) = false
    rw [henvk]; rfl
end
end Nt
end

section
open PySem PySem.W PyProof.Rows PySem.Calls PySem.SeqAt Builtin Builtin.ObjectAttr
set_option genSizeOf false
set_option genInjectivity false
set_option maxRecDepth 100000
set_option autoImplicit false
namespace Nt

section
variable {prog : Program} {w : World} {A : Around} {K : Frag} {C : Addr} {E : Value → Shared → Prop} {s : Shared} {B : Heap}

theorem raise_open {env : Env} {x : Sem Value} {Q : Flow → Shared → Prop} (X : K.In B) (Y : ClsK K C) (hh : A.handled = none)
    (h : wpAny (model prog w) A x (fun v s₁ => ∃ e t dx, v = .ref e ∧ B.StaysIn s₁.heap ∧ s₁.heap.get? e = some (whyExc C t dx) ∧ E (.ref e) s₁) E s) :
    wpAny (model prog w) A (raiseStmt env (some x) none) Q E s := by
  unfold raiseStmt
  refine wpAny_bind (wpAny_mono h (fun v s₁ h₁ => ?_) fun _ _ x => x)
  obtain ⟨e, t, dx, rfl, hB, he, hE⟩ := h₁
  have X1 := X.keeps hB
  obtain ⟨od, cd, sl, hC, e1, e4, e3⟩ := Y.obj
  have hC := X1 _ _ hC
  have bexc := looks_mroIn (M := model prog w) X1 Y.bexc
  obtain ⟨hp, g, d, tk, os⟩ := s₁
  dsimp only at he X1 hC bexc
  have t1 : Looks (model prog w) hp (typeOf (.ref e)) (.ref C) := (Looks.ld he).andThen .now
  have t2 : Looks (model prog w) hp (typeOf (.ref C)) (.type "type") := (Looks.ld hC).andThen .now
  have i1 : Looks (model prog w) hp (isInstance (.ref e) (.type "BaseException")) true := t1.andThen bexc
  have ty : Looks (model prog w) hp (isType (.ref e)) false := (Looks.ld he).andThen .now
  have hE' : wpAny (model prog w) A (raiseNew (.ref e) : Sem Flow) Q E ⟨hp, g, d, tk, os⟩ := wpAny_raiseNew_none hh hE
  have fl : Looks (model prog w) hp (setFlight (.ref e) none) () := by
    intro A Q E s k q
    unfold setFlight
    refine wpAny_bind (wpAny_field (k _ _ he) rfl (i := 1) (show (#[Value.ref t, .none, .none, .none, .bool false, .none] : Array Value)[1]? = some Value.none from rfl) ?_)
    rw [if_neg (show ¬ ((Value.none != Value.none) = true) from by decide)]
    exact wpAny_pure q
  repeat (first | with_reducible exact hE' | simp only [Bool.false_eq_true, if_false, beq_self_eq_true, if_true] | lk)

theorem raise_ok {f : Fm} {n : Nat} {ia : Addr} {fd : FuncData} {cd : ClassData} {fn : Nat → Addr} (T0 : Top0 prog w B fn C) (X : K.In B) (Y : ClsK K C) (Z : InitFn K C ia fd) (D : ClsD K C cd) (G : Glob1 B ("Exception" : Str) (.type "Exception")) (Kf : f.Ok n) (hn : 2 ≤ n) :
    RaiseOk prog w B C f := by
  intro wd v p t ρ s hc I tk
  replace hc := chkRaise_i hc
  obtain ⟨np, k, cp, cpos, rfl, hl, hz⟩ := hc
  · obtain ⟨mg, mb, hg, hb, hfn, _, _, _, hm⟩ := T0.names
    rw [arm_exec_Raise]
    simp only [evalOpt, Option.map]
    refine wpAny_bind (wpAny_standAt (raise_open X Y Kf.hd (wpAny_bind (wpAny_mono (Q := fun v s₁ => ∃ e t' dx, v = .ref e ∧ B.StaysIn s₁.heap ∧ s₁.heap.get? e = some (whyExc C t' dx) ∧ PE prog w B C f ρ (.error wd : Except (List Nat) Fl) t s (.ref e) s₁) (E := PE prog w B C f ρ (.error wd : Except (List Nat) Fl) t s) ?_ (fun v s₃ h₃ => wpAny_bind (wpAny_standAt (wpAny_pure h₃))) fun _ _ x => x))))
    refine Call_ (global_ Kf I hg hm hl (by decide) ?_)
    refine callWith_of (P := fun h => B.StaysIn h) (by rfl) (fun h st => ⟨.machine, .inr (.inl rfl), ?_⟩) (evalArgs_plain (spliced_cons (wpAny_Constant_str (k := k) (pos := cp) (spliced_nil ⟨I.ci.base, ?_⟩))))
    · obtain ⟨od, cd', sl, hC, _⟩ := Y.obj
      have X1 := X.keeps st
      exact (Looks.ld (part := none) (X1 _ _ hC)).andThen ((looks_specialIn X1 Y.call).andThen (by show Looks _ _ (pure (if (some (Value.builtin "type.__call__") == some (Value.builtin "type.__call__")) = true then Keeper.machine else Keeper.caller)) _; rw [if_pos (by simp)]; exact .now))
    · refine wpAny_call ?_
      have nothere : ∀ (a : Addr), s.heap.objs.size ≤ a → s.heap.get? a = none := fun a h => Heap.get?_none_of_le h
      have hk : ∀ b o, s.heap.get? b = some o → ((s.heap.push (newTup [.str (st wd) s.toks])).push (newExcO C s.heap.objs.size)).get? b = some o := fun b o q => Heap.get?_push_of_some _ (Heap.get?_push_of_some _ q)
      have he : ((s.heap.push (newTup [.str (st wd) s.toks])).push (newExcO C s.heap.objs.size)).get? (s.heap.objs.size + 1) = some (newExcO C s.heap.objs.size) := by heap_get
      obtain ⟨hp, g, d, tk', os⟩ := s
      dsimp only at I hk he tk
      have X1 := X.keeps I.ci.base
      have hnew : hp.get? (hp.objs.size + 1) = none := Heap.get?_none_of_le (Nat.le_succ _)
      refine exc_make (rest := [.str (st wd) tk']) X1 Y Z.init Z.kind (by simp [sizeLine_eq]) ?_
      refine codeAny_mono (init_call (R := fun r s' => r = .ok (.ret .none) ∧ ∃ h' t' dx od k, (∀ b o, b ≠ hp.objs.size + 1 → hp.get? b = some o → h'.get? b = some o) ∧ h'.get? (hp.objs.size + 1) = some (whyExc C t' dx) ∧ h'.get? dx = some od ∧ WhyObj od wd ∧ hp.get? dx = none ∧ s' = ⟨h', g, d, k, os⟩) (x := wd) (tk := tk') X (fun b o q => hk _ _ (I.ci.base b o q)) Y Z D G ?_ (by exact he) ?_ (fun h' t' dx od k k1 k2 k3 k4 k5 => ⟨rfl, h', t', dx, od, k, fun b o hb q => k1 b o hb (hk b o q), k2, k3, k4, ?_, rfl⟩)) ?_
      · have := Kf.room
        have hw : (Code.builtin "type.__call__" ⟨.ref C :: [.str (st wd) tk'], []⟩).weight = 1 := by kernel_rfl
        show f.A.in1.depth + (Code.builtin "type.__call__" ⟨.ref C :: [.str (st wd) tk'], []⟩).weight < _
        rw [hw]
        show f.A.depth + 1 < _
        (first | lia | omega)
      · cases q : B.get? (hp.objs.size + 1) with
        | none => rfl
        | some o => have := I.ci.base _ _ q; rw [hnew] at this; (first | exact no this | exact no1 this | exact no2 this | exact noE this | exact noE1 this | obtain rfl := Option.some.inj this | obtain rfl := Except.ok.inj this | obtain rfl := this | cases this)
      · cases q : hp.get? dx with
        | none => rfl
        | some o =>
          have k5 : ((hp.push (newTup [.str (st wd) tk'])).push (newExcO C hp.objs.size)).get? dx = none := k5
          rw [hk _ _ q] at k5; (first | exact no k5 | exact no1 k5 | exact no2 k5 | exact noE k5 | exact noE1 k5 | obtain rfl := Option.some.inj k5 | obtain rfl := Except.ok.inj k5 | obtain rfl := k5 | cases k5)
      · rintro r s' ⟨rfl, h', t', dx, od, k, k1, k2, k3, k4, k5, rfl⟩
        have keep : ∀ b o, hp.get? b = some o → h'.get? b = some o := fun b o q => k1 b o (fun q' => by rw [q', hnew] at q; (first | exact no q | exact no1 q | exact no2 q | exact noE q | exact noE1 q | obtain rfl := Option.some.inj q | obtain rfl := Except.ok.inj q | obtain rfl := q | cases q)) q
        refine ⟨rfl, _, t', dx, rfl, fun b o q => keep _ _ (I.ci.base b o q), k2, wd, _, ρ, rfl, rfl, ⟨_, _, dx, od, k2, rfl, rfl, rfl, hnew, k3, k4, k5, .inl rfl⟩, I.keeps keep, .of_keeps keep, .refl _ _, rfl, rfl⟩
end
end Nt
end

section
open PySem PySem.W PyProof.Rows PySem.Calls PySem.SeqAt Builtin Builtin.ObjectAttr
set_option genSizeOf false
set_option genInjectivity false
set_option maxRecDepth 100000
set_option autoImplicit false
namespace Nt

/-- a function of the text's, as its top has laid it -/
structure FnK (K : Frag) (a : Addr) (params names : List Str) (body : List Stmt) (scope : Scope) (name : Str) (cd : Value) : Prop where
  obj : ∃ ps pm, K.lookup a = some { cls := .type "function", data := .func (plainDef name ps body scope pm cd) } ∧
    ∀ cargs : List Value, cargs.length = params.length → bindArgs (plainDef name ps body scope pm cd) ⟨cargs, []⟩ = pure (params.zip cargs)
  code : codeIn K cd name = true
  cells : ∀ x ∈ scope.names, x.2 ≠ .cell
  loc : ∀ x ∈ params, scope.names.lookup x = some .local
  pre : ∃ rest, names = params ++ rest
  nd : names.Nodup
  co : scope.isCoroutine = false
  gen : scope.isGenerator = false
  kind : scope.kind = .function

section
variable {prog : Program} {w : World} {B : Heap} {CM : Addr} {K : Frag}

inductive BPost (prog : Program) (w : World) (B : Heap) (f : Fm) (ρ : List Addr) (r : Except (List Nat) V) (σ' : List O) (s : Shared) (fl : Flow) (s' : Shared) : Prop
  | mk (v : V) (c : Value) (ρ' : List Addr) (loc' : List (Option V)) : fl = .ret c → r = .ok v → VR ρ' s'.heap v c → FI prog w B f ρ' ⟨loc', σ'⟩ s'.heap → Gr (frs f.outer) (f.X ρ) ρ ρ' s s' → BPost prog w B f ρ r σ' s fl s'
inductive BExc (prog : Program) (w : World) (B : Heap) (CM : Addr) (f : Fm) (ρ : List Addr) (r : Except (List Nat) V) (σ' : List O) (s : Shared) (c : Value) (s' : Shared) : Prop
  | mk (loc' : List (Option V)) : PE prog w B CM f ρ r ⟨loc', σ'⟩ s c s' → BExc prog w B CM f ρ r σ' s c s'

theorem ExcOut.since {hs hs' h : Heap} {e : Addr} {x : List Nat} (q : ExcOut CM hs' h e x) (live : ∀ b o, hs.get? b = some o → ∃ o', hs'.get? b = some o') : ExcOut CM hs h e x := by
  have fr : ∀ b, hs'.get? b = none → hs.get? b = none := fun b k => by
    cases p : hs.get? b with
    | none => rfl
    | some o => obtain ⟨o', k'⟩ := live b o p; rw [k] at k'; (first | exact no k' | exact no1 k' | exact no2 k' | exact noE k' | exact noE1 k' | obtain rfl := Option.some.inj k' | obtain rfl := Except.ok.inj k' | obtain rfl := k' | cases k')
  obtain ⟨oe, vs, dx, od, h1, h2, h3, h4, h5, h6, h7, h8, T, oT, ts, a, b, c, d, e', g⟩ := q
  exact ⟨oe, vs, dx, od, h1, h2, h3, h4, fr _ h5, h6, h7, fr _ h8, T, oT, ts, a, b, fr _ c, d, e', g⟩

theorem zip_lookup {params : List Str} {cargs : List Value} {i : Nat} {x : Str} {c : Value} (nd : params.Nodup) (hx : params[i]? = some x) (hc : cargs[i]? = some c) : (params.zip cargs).reverse.lookup x = some c := by
  have key : ∀ (l : List (Str × Value)), (l.map (·.1)).Nodup → ∀ i : Nat, l[i]? = some (x, c) → l.lookup x = some c := by
    intro l
    induction l with
    | nil => intro _ i h; simp at h
    | cons p r ih =>
      intro nd i h
      obtain ⟨y, d⟩ := p
      simp only [List.map_cons, List.nodup_cons] at nd
      cases i with
      | zero =>
        simp at h
        obtain ⟨rfl, rfl⟩ := h
        simp [List.lookup]
      | succ i =>
        simp only [List.getElem?_cons_succ] at h
        have ne : x ≠ y := fun q => nd.1 (List.mem_map.mpr ⟨(x, c), List.mem_of_getElem? h, q⟩)
        have := ih nd.2 i h
        simp only [List.lookup, beq_eq_false_iff_ne.mpr ne]
        exact this
  have hz : (params.zip cargs)[i]? = some (x, c) := by
    rw [List.getElem?_zip_eq_some]; exact ⟨hx, hc⟩
  have hi : i < (params.zip cargs).length := (List.getElem?_eq_some_iff.mp hz).1
  refine key _ ?_ ((params.zip cargs).length - 1 - i) ?_
  · rw [List.map_reverse]
    refine List.pairwise_reverse.mpr (List.Pairwise.imp (fun h => Ne.symm h) (R := (· ≠ ·)) ?_)
    have sub : ∀ (l : List Str) (m : List Value), ((l.zip m).map (·.1)).Sublist l := by
      intro l
      induction l with
      | nil => intro m; simp
      | cons a r ih =>
        intro m
        cases m with
        | nil => simp
        | cons b q => simpa using ih q
    exact List.Pairwise.sublist (sub params cargs) nd
  · rw [List.getElem?_reverse (by (first | lia | omega))]
    rw [show (params.zip cargs).length - 1 - ((params.zip cargs).length - 1 - i) = i from by (first | lia | omega)]
    exact hz

theorem call_fn {A : Around} {a : Addr} {params names : List Str} {body : List Stmt} {scope : Scope} {name : Str} {cd : Value} {n : Nat} {outer : List Env} {ρ : List Addr} {σ σ' : List O} {s : Shared} {args : List V} {cargs : List Value} {r : Except (List Nat) V} {R : Result → Shared → Prop}
    (X : K.In B) (hlim : B.NoLimit) (F : FnK K a params names body scope name cd) (hl : args.length = params.length)
    (hfr : A.frames = some outer) (hh : A.handled = none) (hroom : A.depth + (n + 1) < recursionLimit) (hun : A.units + 3 * (n + 1) + 100 < cLine) (tk : 1 ≤ s.toks) (I : CI prog w B outer ρ σ s.heap) (hv : VRs ρ s.heap args cargs)
    (hbody : ∀ (f : Fm) (s' : Shared), f.scope = scope → f.names = names → f.Ok n → 1 ≤ s'.toks → FI prog w B f ρ ⟨args.map some ++ List.replicate (names.length - args.length) none, σ⟩ s'.heap →
      wpAny (model prog w) f.A (execs body f.env) (BPost prog w B f ρ r σ' s') (BExc prog w B CM f ρ r σ' s') s')
    (hok : ∀ v c s' ρ', r = .ok v → VR ρ' s'.heap v c → CI prog w B outer ρ' σ' s'.heap → Gr (frs outer) ρ ρ ρ' s s' → R (.ok (.ret c)) s')
    (her : ∀ x e s' ρ', r = .error x → ExcOut CM s.heap s'.heap e x → CI prog w B outer ρ' σ' s'.heap → Gr (frs outer) ρ ρ ρ' s s' → R (.error (.ref e)) s') :
    codeAny (model prog w) A (.call (.ref a) ⟨cargs, []⟩) R s := by
  obtain ⟨ps, pm, ho, hb⟩ := F.obj
  have XB := X.keeps I.base
  have hcl : cargs.length = params.length := by rw [hv.length, hl]
  obtain ⟨rest, hn⟩ := F.pre
  have ndp : params.Nodup := by have := F.nd; rw [hn] at this; exact (List.nodup_append.mp this).1
  refine codeAny_call_def (fd := plainDef name ps body scope pm cd) (body := body) (by (first | lia | omega)) (XB _ _ ho) rfl (hlim.keeps I.base) (codeRec_of XB F.code) rfl (.of_eq (hb cargs hcl)) F.cells (fun y hy => ?_) (fun h₀ hns hk => ?_) F.co F.gen F.kind
  · exact F.loc _ (List.of_mem_zip hy).1
  · have hsz : (s.heap.get? s.heap.objs.size) = none := none_at _
    have hL : ∀ b o, s.heap.get? b = some o → b ≠ s.heap.objs.size := fun b o q => Nat.ne_of_lt (Heap.lt_size q)
    let f : Fm := ⟨A.deeper (envOf name scope s.heap.objs.size a cd), name, scope, s.heap.objs.size, a, cd, outer, names⟩
    have Kf : f.Ok n := ⟨Around.frames_deeper hfr, hh, F.kind, F.nd, by show A.depth + 1 + n < _; (first | lia | omega), by show A.units + 3 + 3 * n + 100 < _; (first | lia | omega)⟩
    have gr0 : Gr (frs outer) ρ ρ ρ s { s with heap := h₀, toks := s.toks + (params.zip cargs).length } := ⟨.of_keeps hk, .refl _ _, rfl, rfl⟩
    have lr : LR ρ h₀ names (args.map some ++ List.replicate (names.length - args.length) none) (fun x => (params.zip cargs).reverse.lookup x) := by
      intro i x v hi hx
      rcases Nat.lt_or_ge i args.length with hlt | hge
      · rw [List.getElem?_append_left (by simpa using hlt)] at hx
        rw [List.getElem?_map] at hx
        obtain ⟨v', hv', e⟩ := Option.map_eq_some_iff.mp hx
        cases (e)
        obtain ⟨c, hc, rc⟩ : ∃ c, cargs[i]? = some c ∧ VR ρ s.heap v c := by
          have hi' : i < cargs.length := by (first | lia | omega)
          obtain ⟨z, hz, rz⟩ := hv.sub i cargs[i] (List.getElem?_eq_getElem hi')
          rw [hv'] at hz; (first | exact no hz | exact no1 hz | exact no2 hz | exact noE hz | exact noE1 hz | obtain rfl := Option.some.inj hz | obtain rfl := Except.ok.inj hz | obtain rfl := hz | cases hz)
          exact ⟨_, List.getElem?_eq_getElem hi', rz⟩
        have hp : params[i]? = some x := by
          rw [hn, List.getElem?_append_left (by (first | lia | omega))] at hi; exact hi
        exact ⟨c, zip_lookup ndp hp hc, rc.mono (fun b o e _ _ => ⟨o.slots, hk _ _ e⟩) (.refl _ _)⟩
      · rw [List.getElem?_append_right (by simpa using hge)] at hx
        simp only [List.getElem?_replicate] at hx
        split at hx <;> (first | exact no hx | exact no1 hx | exact no2 hx | exact noE hx | exact noE1 hx | obtain rfl := Option.some.inj hx | obtain rfl := Except.ok.inj hx | obtain rfl := hx | cases hx)
    have I0 : FI prog w B f ρ ⟨args.map some ++ List.replicate (names.length - args.length) none, σ⟩ h₀ := by
      refine ⟨I.keeps hk, ⟨_, hns, lr⟩, ?_, ?_, fun q => ?_, I.hr.notNew⟩
      · show (args.map some ++ List.replicate (names.length - args.length) none).length = names.length
        rw [List.length_append, List.length_map, List.length_replicate]
        have : args.length ≤ names.length := by rw [hn, List.length_append]; (first | lia | omega)
        (first | lia | omega)
      · cases q : B.get? f.L with
        | none => rfl
        | some o => have := I.base _ _ q; rw [show f.L = s.heap.objs.size from rfl, hsz] at this; (first | exact no this | exact no1 this | exact no2 this | exact noE this | exact noE1 this | obtain rfl := Option.some.inj this | obtain rfl := Except.ok.inj this | obtain rfl := this | cases this)
      · obtain ⟨o, e⟩ := frs_live I.frames q
        rw [show f.L = s.heap.objs.size from rfl, hsz] at e; (first | exact no e | exact no1 e | exact no2 e | exact noE e | exact noE1 e | obtain rfl := Option.some.inj e | obtain rfl := Except.ok.inj e | obtain rfl := e | cases e)
    have back : ∀ {ρ' : List Addr} {s' : Shared}, Gr (frs outer) (f.X ρ) ρ ρ' { s with heap := h₀, toks := s.toks + (params.zip cargs).length } s' → Gr (frs outer) ρ ρ ρ' s s' := fun g => gr0.trans g fun b o e m => by
      rcases List.mem_cons.mp (show b ∈ s.heap.objs.size :: ρ from m) with q | q
      · exact absurd q (hL b o e)
      · exact q
    refine wpAny_mono (hbody f _ rfl rfl Kf (Nat.le_trans tk (Nat.le_add_right _ _)) I0) (fun fl s' p => ?_) fun c s' p => ?_
    · obtain ⟨v, c, ρ', loc', rfl, rfl, rv, I1, g1⟩ := p
      exact hok v c s' ρ' rfl rv I1.ci (back g1)
    · obtain ⟨loc', p⟩ := p
      refine leaves Kf (s := { s with heap := h₀, toks := s.toks + (params.zip cargs).length }) I0 p fun s'' x e ρ' hc hr ex I1 g1 => ?_
      subst hc
      exact her x e s'' ρ' hr (ex.since fun b o q => ⟨o, hk _ _ q⟩) I1.ci (back g1)
end
end Nt
end

section
open PySem PySem.W PyProof.Rows PySem.Calls PySem.SeqAt Builtin Builtin.ObjectAttr
set_option genSizeOf false
set_option genInjectivity false
set_option maxRecDepth 100000
set_option autoImplicit false
namespace Nt

section
variable {prog : Program} {w : World} {B : Heap} {C : Addr} {K : Frag} {A : Around} {s : Shared}

/-- the frame's names are laid anew -/
theorem FI.relaid {f : Fm} {ρ : List Addr} {t : St} {h h' : Heap} (I : FI prog w B f ρ t h) {m' : Str → Option Value} (hm : LR ρ h f.names t.loc m')
    (hn : h'.Ns f.L m') (k : Heap.SameBut f.L h h') : FI prog w B f ρ t h' := by
  obtain ⟨m, ns, _⟩ := I.ns
  obtain ⟨oL, es, ep, hL, hd, _⟩ := ns
  have ss : SeqStay ρ h h' := fun b o p _ d => ⟨o.slots, (k.2 b (fun q => by
    subst q; rw [hL] at p; (first | exact no p | exact no1 p | exact no2 p | exact noE p | exact noE1 p | obtain rfl := Option.some.inj p | obtain rfl := Except.ok.inj p | obtain rfl := p | cases p); obtain ⟨_, _, d⟩ := d; rw [hd] at d; (first | exact no d | exact no1 d | exact no2 d | exact noE d | exact noE1 d | obtain rfl := Option.some.inj d | obtain rfl := Except.ok.inj d | obtain rfl := d | cases d))).trans p⟩
  refine ⟨⟨fun b o p => (k.2 b fun q => ?_).trans (I.ci.base b o p), ?_, I.ci.apart, I.ci.hr.stay (fun a ma ob g => (k.2 a fun q => I.off (q ▸ ma)).trans g) ss⟩, ⟨_, hn, hm.stay ss (.refl _ _)⟩, I.len, I.new, I.out, I.off⟩
  · rw [q, I.new] at p; (first | exact no p | exact no1 p | exact no2 p | exact noE p | exact noE1 p | obtain rfl := Option.some.inj p | obtain rfl := Except.ok.inj p | obtain rfl := p | cases p)
  · have fr := I.ci.frames
    have ap := I.out
    generalize f.outer = l at fr ap
    induction l with
    | nil => trivial
    | cons env r ih =>
      obtain ⟨q1, ⟨L, o, q2, q3, q4, q5⟩, q6⟩ := fr
      simp only [frs, List.filterMap_cons, q2, List.mem_cons, not_or] at ap
      exact ⟨q1, ⟨L, o, q2, q3, (k.2 L fun q => ap.1 q.symm).trans q4, q5⟩, ih q6 ap.2⟩
theorem FI.blank {f : Fm} {ρ : List Addr} {t : St} {h : Heap} (I : FI prog w B f ρ t h) : FI prog w B f ρ ⟨List.replicate f.names.length none, t.heap⟩ h :=
  let ⟨m, ns, _⟩ := I.ns
  ⟨I.ci, ⟨m, ns, fun i x v _ h => by
    have h : (List.replicate f.names.length (none : Option V))[i]? = some (some v) := h
    rw [List.getElem?_replicate] at h
    split at h <;> cases h⟩, by simp, I.new, I.out, I.off⟩

/-- what the handler reads of the exception -/
structure Exc1 (C : Addr) (h : Heap) (e : Addr) (x : List Nat) : Prop where
  at_ : ∃ oe dx od, h.get? e = some oe ∧ oe.cls = .ref C ∧ notCls oe = true ∧ oe.dict = some dx ∧ h.get? dx = some od ∧ WhyObj od x

theorem exc_why {x : List Nat} {e : Addr} {E : Value → Shared → Prop} {Q : Value → Shared → Prop} {expr : Bool} (X : K.In s.heap) (H : Exc1 C s.heap e x)
    (hga : findIn K (.ref C) "__getattribute__" = some (some (.builtin "BaseException.__getattribute__"))) (hgt : findIn K (.ref C) "__getattr__" = some none) (hbe : mroIn K C (.type "BaseException") = some true)
    (hf : ∀ od, WhyObj od x → ∃ t, findObj K C (some od) ("why" : Str) = some (.value (.str (st x) t)))
    (h : ∀ t k, Q (.str (st x) t) { s with toks := k }) : wpAny (model prog w) A (getAttr (.ref e) ("why" : Str) expr) Q E s := by
  obtain ⟨oe, dx, od, h1, h2, h3, h4, h5, h6⟩ := H.at_
  obtain ⟨t, hfo⟩ := hf od h6
  have I : InstAt s.heap e oe C (some od) := ⟨h1, h2, h3, by rw [h4]; exact h5⟩
  obtain ⟨hh, g, d, tt, os⟩ := s
  have L0 := I.type (M := model prog w)
  have L1 := looks_findIn (M := model prog w) X hga
  have L2 := looks_find (M := model prog w) X I hfo
  have L3 := looks_findIn (M := model prog w) X hgt
  have GS := PySem.F.attr_Exception.ga
  dsimp only at L2
  unfold getAttr getAttrBy
  refine wpAny_bind (wpAny_mkText (wpAny_holding (wpAny_bind (L0.at (wpAny_bind (L1.at ?_))))))
  dsimp only
  rw [show (onTheHeap (Value.ref C) && Value.builtin "BaseException.__getattribute__" == Value.builtin "object.__getattribute__") = false from by rw [show (Value.builtin "BaseException.__getattribute__" == Value.builtin "object.__getattribute__") = false from by decide +kernel, Bool.and_false], if_neg (by decide)]
  have hb : Looks (model prog w) hh (hookBefore (.ref C)) none := L3
  refine wpAny_bind (hb.at (wpAny_bind (wpAny_attempt (wpAny_holding ?_))))
  unfold callGetattribute
  rw [show (expr && onTheHeap (Value.builtin "BaseException.__getattribute__")) = false from Bool.and_false _, if_neg (by decide)]
  unfold boundAndCalled
  rw [GS.bind]
  refine wpAny_bind (wpAny_pure ?_)
  show wpAny _ _ (call (.builtin "BaseException.__getattribute__") [.ref e, .str ("why" : Str) tt]) _ _ _
  refine wpAny_call ?_
  refine codeAny_call_builtin GS.plain PySem.F.entry_bexc_ga ?_
  refine @check_slot (model prog w) _ _ ⟨hh, g, d, tt + 1, os⟩ "BaseException.__getattribute__" "BaseException" "__getattribute__" (.ref e) [.str ("why" : Str) tt] [] _ (by decide +kernel) (by decide +kernel) (L0.andThen (looks_mroIn X hbe)) (PySem.F.args_bexc_ga _ _) ?_
  refine wpAny_bind (wpAny_pure (wpAny_bind (wpAny_pure (wpAny_bind (L0.at (wpAny_bind (L2.at ?_)))))))
  refine wpAny_pure ?_
  exact wpAny_pure (h _ _)

theorem exc_matches {M : Model} {e : Addr} {oe : Obj} {E : Value → Shared → Prop} {Q : Bool → Shared → Prop} (X : K.In s.heap) (Y : ClsK K C) (he : s.heap.get? e = some oe) (hc : oe.cls = .ref C) (hq : Q true s) : wpAny M A (excMatches (.ref e) (.ref C)) Q E s := by
  obtain ⟨od, cd, sl, hC, _⟩ := Y.obj
  obtain ⟨hh, g, d, tt, os⟩ := s
  dsimp only at X he
  have hC := X _ _ hC
  have t1 : Looks M hh (typeOf (.ref e)) (.ref C) := hc ▸ (Looks.ld he).andThen .now
  have t2 : Looks M hh (typeOf (.ref C)) (.type "type") := (Looks.ld hC).andThen .now
  have t3 : Looks M hh (isInstance (.ref C) (.type "tuple")) false := t2.andThen (Looks.of_pure tc_notTuple)
  have t4 : Looks M hh (isType (.ref C)) true := (Looks.ld (part := some headPart) hC).andThen .now
  have t5 := looks_mroIn (M := M) X Y.bexc
  have t6 : Looks M hh (isExcClass (.ref C)) true := t4.andThen t5
  have t7 := looks_mroIn (M := M) X Y.self
  unfold excMatches
  refine wpAny_bind (t3.at ?_)
  rw [if_neg (by decide)]
  refine wpAny_bind (wpAny_pure ?_)
  dsimp only
  rw [List.forIn_cons]
  refine wpAny_bind (wpAny_bind (wpAny_bind (t6.at ?_)))
  rw [if_neg (by decide)]
  refine wpAny_pure ?_
  dsimp only
  rw [List.forIn_nil]
  refine wpAny_pure (wpAny_bind (t1.at ?_))
  rw [List.forIn_cons]
  refine wpAny_bind (wpAny_bind (wpAny_bind (t7.at ?_)))
  rw [if_pos rfl]
  exact wpAny_pure (wpAny_pure (wpAny_pure hq))

structure ToldK (K : Frag) (C : Addr) : Prop where
  ga : findIn K (.ref C) "__getattribute__" = some (some (.builtin "BaseException.__getattribute__"))
  gt : findIn K (.ref C) "__getattr__" = some none
  why : ∀ (x : List Nat) (od : Obj), WhyObj od x → ∃ t, findObj K C (some od) ("why" : Str) = some (.value (.str (st x) t))

theorem told_body {f : Fm} {n : Nat} {fn : Nat → Addr} {Cl : Calls} {ρ : List Addr} {ce : Expr} {p1 p2 p3 p4 p5 hp tp : Pos} {v : V} {σ σ' : List O} {r0 r : Except (List Nat) V} (T0 : Top0 prog w B fn C) (HC : CallsOk prog w B fn C Cl n) (Kf : f.Ok n) (X : K.In B) (Y : ClsK K C) (TK : ToldK K C)
    (hn : f.names = [("text" : Str), ("fault" : Str)]) (hce : chkE f.scope f.names (.call 10 (.cons (.loc 0) .nil)) ce = true) (hfault : f.scope.names.lookup ("fault" : Str) = some .local) (hM : f.scope.names.lookup ("Misused" : Str) = some .globalImplicit)
    (ev : Cl 10 [v] σ = some (r0, σ')) (hr : (∃ u, r0 = .ok u ∧ r = .ok u) ∨ ∃ x, r0 = .error x ∧ x.length ≤ lim ∧ r = .ok (.str x)) (I : FI prog w B f ρ ⟨[some v, none], σ⟩ s.heap) (tk : 1 ≤ s.toks) :
    wpAny (model prog w) f.A (execs [.Try [.Return (some ce) p1] [.ExceptHandler (some (.Name ("Misused" : Str) p2)) (some ("fault" : Str)) [.Return (some (.Attribute (.Name ("fault" : Str) p3) ("why" : Str) p4)) p5] hp] [] [] tp] f.env)
      (BPost prog w B f ρ r σ' s) (BExc prog w B C f ρ r σ' s) s := by
  refine wpAny_execs_cons (wpAny_Try_except ?_)
  have hS : SOk prog w B C f Cl (.ret (.call 10 (.cons (.loc 0) .nil))) [.Return (some ce) p1] := (s_ret ((sound_E T0 HC Kf _).1 ce hce).1).ok
  have ex : exec Cl (.ret (.call 10 (.cons (.loc 0) .nil))) ⟨[some v, none], σ⟩ = some ((match r0 with | .ok u => .ok (.ret u) | .error x => .error x), ⟨[some v, none], σ'⟩) := by
    (first | exact no r0 | exact no1 r0 | exact no2 r0 | exact noE r0 | exact noE1 r0 | obtain rfl := Option.some.inj r0 | obtain rfl := Except.ok.inj r0 | obtain rfl := r0 | cases r0) <;> simp [eS_skip, eS_cont, eS_seq, eS_assign, eS_unpack, eS_aug, eS_setItem, eS_expr, eS_ret, eS_raise, eS_ite, eS_while, eS_forRange, eS_forList, eE_loc, eE_none, eE_bool, eE_int, eE_neg, eE_str, eE_op, eE_cmp, eE_between, eE_and, eE_or, eE_ifx, eE_nil, eE_cons, eE_tup, eE_list, eE_flist, eE_dict, eE_call, eE_len, eE_ord, eE_idx, eE_slice, eE_sliceFrom, eE_sliceTo, eE_append, eE_pop, eE_endswith, eE_replace, ev, bd, ok]
  obtain ⟨mg, mb, hg, hb, _, _, _, _, hm⟩ := T0.names
  refine wpAny_mono (hS _ ρ s _ _ ex I tk) (fun fl s1 p => ?_) (fun c s1 p => ?_)
  · obtain ⟨v', ρ', h1, fr, I1, g1⟩ := p
    rcases hr with ⟨u, rfl, rfl⟩ | ⟨x, rfl, _⟩
    · (first | exact no h1 | exact no1 h1 | exact no2 h1 | exact noE h1 | exact noE1 h1 | obtain rfl := Option.some.inj h1 | obtain rfl := Except.ok.inj h1 | obtain rfl := h1 | cases h1)
      cases fr with
      | ret rv => exact ⟨u, _, ρ', _, rfl, rfl, rv, I1, g1⟩
    · (first | exact no h1 | exact no1 h1 | exact no2 h1 | exact noE h1 | exact noE1 h1 | obtain rfl := Option.some.inj h1 | obtain rfl := Except.ok.inj h1 | obtain rfl := h1 | cases h1)
  · obtain ⟨x, e, ρ', rfl, h2, hx, I1, g1⟩ := p
    rcases hr with ⟨u, rfl, rfl⟩ | ⟨x', rfl, hlen, rfl⟩
    · (first | exact no h2 | exact no1 h2 | exact no2 h2 | exact noE h2 | exact noE1 h2 | obtain rfl := Option.some.inj h2 | obtain rfl := Except.ok.inj h2 | obtain rfl := h2 | cases h2)
    (first | exact no h2 | exact no1 h2 | exact no2 h2 | exact noE h2 | exact noE1 h2 | obtain rfl := Option.some.inj h2 | obtain rfl := Except.ok.inj h2 | obtain rfl := h2 | cases h2)
    refine wp_note (B := B) (L := f.L) Kf.fr (I1.down (s := s1) Kf).frames (frs_liveF I) rfl g1.ext.live hx fun h' Xs hX hAt => ?_
    have I2 := I1.exc hX I.ci.base
    have g2 := g1.exc hX
    refine wp_flight (s := { s1 with heap := h' }) (frs (f.env :: f.outer)) hAt fun h'' Xs' hX' hAt' => ?_
    have I3 := I2.exc hX' I.ci.base
    have g3 := g2.exc hX'
    obtain ⟨oe, vs, dx, od, e1, e2, erest⟩ := id hAt'
    refine wpAny_handleBy_cons (codeAny_handlers_test ?_) (by intro q; (first | exact no q | exact no1 q | exact no2 q | exact noE q | exact noE1 q | obtain rfl := Option.some.inj q | obtain rfl := Except.ok.inj q | obtain rfl := q | cases q))
    refine Name_function_global Kf.kind hM (loadGlobal_global (env := f.env) (hg.keeps I3.ci.base) hm ?_) (by decide)
    refine exc_matches (X.keeps I3.ci.base) Y e1 e2 ?_
    show codeAny _ _ _ _ _
    refine codeAny_handlers_suite_as ?_
    refine wp_flight (s := { s1 with heap := h'' }) (frs (f.env :: f.outer)) hAt' fun h3 Xs3 hX3 hAt3 => ?_
    have I4 := (I3.exc hX3 I.ci.base).blank
    have g4 := g3.exc hX3
    obtain ⟨m4, ns4, _⟩ := I4.ns
    have hcl : (f.env.scope.kind == .class || (f.env.scope.kind == .module && f.env.locals != f.env.globals)) = false := by
      show (f.scope.kind == .class || (f.scope.kind == .module && _)) = false
      rw [Kf.kind]; rfl
    have bl : ∀ (h : Heap) (m : Str → Option Value), LR ρ' h f.names (⟨List.replicate f.names.length none, σ'⟩ : St).loc m := fun h m i x v _ q => by
      have q : (List.replicate f.names.length (none : Option V))[i]? = some (some v) := q
      rw [List.getElem?_replicate] at q
      split at q <;> (first | exact no q | exact no1 q | exact no2 q | exact noE q | exact noE1 q | obtain rfl := Option.some.inj q | obtain rfl := Except.ok.inj q | obtain rfl := q | cases q)
    refine wpAny_storeName_local (env := f.env) hfault ns4 (fun h5 hn5 hs5 => ?_) hcl
    have I5 := FI.relaid (t := ⟨List.replicate f.names.length none, σ'⟩) I4 (bl _ _) hn5 hs5
    have liveL : ∀ {h : Heap} {m : Str → Option Value}, h.Ns f.L m → ∃ o, h.get? f.L = some o := fun n => let ⟨o, _, _, e, _⟩ := n; ⟨o, e⟩
    have g5 := g4.transF (Gr.of_heap (s := { s1 with heap := h3 }) (tk := s1.toks + 1) (.sameBut hs5 (.head _) (liveL hn5)))
    obtain ⟨oe3, vs3, dx3, od3, f1, f2, f3, f4, f5, f6, f7, f8, _⟩ := hAt3
    obtain ⟨oL, hoL⟩ : ∃ o, s.heap.get? f.L = some o := let ⟨_, ⟨o, _, _, e, _⟩, _⟩ := I.ns; ⟨o, e⟩
    have ne1 : e ≠ f.L := fun q => by rw [q, hoL] at f5; (first | exact no f5 | exact no1 f5 | exact no2 f5 | exact noE f5 | exact noE1 f5 | obtain rfl := Option.some.inj f5 | obtain rfl := Except.ok.inj f5 | obtain rfl := f5 | cases f5)
    have ne2 : dx3 ≠ f.L := fun q => by rw [q, hoL] at f8; (first | exact no f8 | exact no1 f8 | exact no2 f8 | exact noE f8 | exact noE1 f8 | obtain rfl := Option.some.inj f8 | obtain rfl := Except.ok.inj f8 | obtain rfl := f8 | cases f8)
    have H5 : Exc1 C h5 e x := ⟨oe3, dx3, od3, (hs5.2 e ne1).trans f1, f2, by unfold notCls; rw [f4], f3, (hs5.2 dx3 ne2).trans f6, f7⟩
    refine wpAny_execs_cons (wpAny_Return_some (Attribute_name (wpAny_Name (wpAny_loadName_local (env := f.env) Kf.kind hfault hn5 (if_pos rfl) ?_))))
    refine exc_why (s := { s1 with heap := h5, toks := s1.toks + 1 }) (X.keeps I5.ci.base) H5 TK.ga TK.gt Y.bexc (fun od h => TK.why x od h) fun t k => ?_
    show wpAny _ _ _ _ _ _
    refine wpAny_nameGoes (env := f.env) hfault hn5 hcl fun h6 m6 hn6 hs6 => ?_
    have I6 := FI.relaid (t := ⟨List.replicate f.names.length none, σ'⟩) I5 (bl _ _) hn6 hs6
    have g6 := g5.transF (Gr.of_heap (s := { s1 with heap := h5, toks := s1.toks + 1 }) (tk := k + 1) (.sameBut hs6 (.head _) (liveL hn6)))
    exact ⟨.str x, .str (st x) t, ρ', _, rfl, rfl, .str x t hlen, I6, g6⟩
end
end Nt
end

section
open PySem PySem.W PyProof.Rows PySem.Calls PySem.SeqAt Builtin Builtin.ObjectAttr
set_option genSizeOf false
set_option genInjectivity false
set_option maxRecDepth 100000
set_option autoImplicit false
namespace Nt

structure PlainFn (K : Frag) (a : Addr) (np ns : Nat) (b : S) : Prop where
  all : ∃ params names body scope name cd, FnK K a params names body scope name cd ∧ params.length = np ∧ names.length = ns ∧ chkS scope names b body = true
structure ToldFn (K : Frag) (a : Addr) : Prop where
  all : ∃ scope name cd ce p1 p2 p3 p4 p5 hp tp, FnK K a [("text" : Str)] [("text" : Str), ("fault" : Str)]
      [.Try [.Return (some ce) p1] [.ExceptHandler (some (.Name ("Misused" : Str) p2)) (some ("fault" : Str)) [.Return (some (.Attribute (.Name ("fault" : Str) p3) ("why" : Str) p4)) p5] hp] [] [] tp] scope name cd ∧
    chkE scope [("text" : Str), ("fault" : Str)] (.call 10 (.cons (.loc 0) .nil)) ce = true ∧ scope.names.lookup ("fault" : Str) = some .local ∧ scope.names.lookup ("Misused" : Str) = some .globalImplicit
structure FnAll (K : Frag) (fn : Nat → Addr) : Prop where
  plain : ∀ i np ns b, i ≠ 23 → bodyOf i = some (np, ns, b) → PlainFn K (fn i) np ns b
  told : ToldFn K (fn 23)

structure Base (prog : Program) (w : World) (B : Heap) (fn : Nat → Addr) (C : Addr) (K : Frag) (ia : Addr) (fd : FuncData) (cd : ClassData) : Prop where
  top : Top0 prog w B fn C
  frag : K.In B
  cls : ClsK K C
  init : InitFn K C ia fd
  clsd : ClsD K C cd
  exc : Glob1 B ("Exception" : Str) (.type "Exception")
  told : ToldK K C
  fns : FnAll K fn

theorem callN_len {n i : Nat} {args : List V} {σ : List O} {q : Except (List Nat) V × List O} {np ns : Nat} {b : S} (hi : i ≠ 23) (hb : bodyOf i = some (np, ns, b)) (h : callN n i args σ = some q) : args.length = np := by
  cases n with
  | zero => (first | exact no h | exact no1 h | exact no2 h | exact noE h | exact noE1 h | obtain rfl := Option.some.inj h | obtain rfl := Except.ok.inj h | obtain rfl := h | cases h)
  | succ n =>
    simp only [callN, if_neg hi, hb] at h
    split at h
    · assumption
    · (first | exact no h | exact no1 h | exact no2 h | exact noE h | exact noE1 h | obtain rfl := Option.some.inj h | obtain rfl := Except.ok.inj h | obtain rfl := h | cases h)

section
variable {prog : Program} {w : World} {B : Heap} {C : Addr} {K : Frag} {fn : Nat → Addr} {ia : Addr} {fd : FuncData} {cd : ClassData}

theorem calls_ok (T : Base prog w B fn C K ia fd cd) : ∀ n, CallsOk prog w B fn C (callN n) (n + 2)
  | 0 => by intro i args σ r σ' h; (first | exact no h | exact no1 h | exact no2 h | exact noE h | exact noE1 h | obtain rfl := Option.some.inj h | obtain rfl := Except.ok.inj h | obtain rfl := h | cases h)
  | n + 1 => by
    intro i args σ r σ' h A outer ρ s cargs R hfr hh hroom hun tk I hv hok her
    have IH := calls_ok T n
    simp only [callN] at h
    split at h
    · rename_i hi
      subst hi
      obtain ⟨scope, name, cdv, ce, p1, p2, p3, p4, p5, hp, tp, F, hce, hfa, hM⟩ := T.fns.told.all
      have hl : ∀ {q}, callN n 10 args σ = some q → args.length = 1 := fun h => callN_len (by decide) (show bodyOf 10 = some (1, _, _) from rfl) h
      have hr : ∃ r0, callN n 10 args σ = some (r0, σ') ∧ ((∃ u, r0 = .ok u ∧ r = .ok u) ∨ ∃ x, r0 = .error x ∧ x.length ≤ lim ∧ r = .ok (.str x)) := by
        split at h
        · rename_i wd h' e
          split at h
          · rename_i hz
            (first | exact no h | exact no1 h | exact no2 h | exact noE h | exact noE1 h | obtain rfl := Option.some.inj h | obtain rfl := Except.ok.inj h | obtain rfl := h | cases h)
            exact ⟨_, e, .inr ⟨wd, rfl, hz, rfl⟩⟩
          · (first | exact no h | exact no1 h | exact no2 h | exact noE h | exact noE1 h | obtain rfl := Option.some.inj h | obtain rfl := Except.ok.inj h | obtain rfl := h | cases h)
        · rename_i ne
          cases r with
          | ok u => exact ⟨_, h, .inl ⟨u, rfl, rfl⟩⟩
          | error x => exact absurd h (ne x σ')
      obtain ⟨r0, e, hr⟩ := hr
      have hl1 := hl e
      match args, hl1 with
      | [v], _ =>
        refine call_fn (n := n + 2) T.frag T.exc.lim F rfl hfr hh (by (first | lia | omega)) (by (first | lia | omega)) tk I hv (fun f s' hsc hnm Kf tk' I' => ?_) hok her
        subst hsc
        exact told_body T.top IH Kf T.frag T.cls T.told hnm (by rw [hnm]; exact hce) hfa hM e hr I' tk'
    · rename_i hi
      split at h
      · rename_i np ns b hb
        obtain ⟨params, names, body, scope, name, cdv, F, hp, hns, hc⟩ := (T.fns.plain i np ns b hi hb).all
        split at h
        · rename_i hl
          unfold runBody at h
          refine call_fn (n := n + 2) T.frag T.exc.lim F (by (first | lia | omega)) hfr hh (by (first | lia | omega)) (by (first | lia | omega)) tk I hv (fun f s' hsc hnm Kf tk' I' => ?_) hok her
          subst hsc hnm
          have sS := (sound_S T.top IH Kf (raise_ok T.top T.frag T.cls T.init T.clsd T.exc Kf (by (first | lia | omega))) b body hc).1
          rw [hns] at I'
          split at h
          · rename_i v st' ex
            (first | exact no h | exact no1 h | exact no2 h | exact noE h | exact noE1 h | obtain rfl := Option.some.inj h | obtain rfl := Except.ok.inj h | obtain rfl := h | cases h)
            refine wpAny_mono (sS _ ρ s' _ _ ex I' tk') (fun fl s1 p => ?_) (fun c s1 p => ?_)
            · obtain ⟨v', ρ', h1, fr, I1, g1⟩ := p
              (first | exact no h1 | exact no1 h1 | exact no2 h1 | exact noE h1 | exact noE1 h1 | obtain rfl := Option.some.inj h1 | obtain rfl := Except.ok.inj h1 | obtain rfl := h1 | cases h1)
              cases fr with
              | ret rv => exact ⟨_, _, ρ', st'.loc, rfl, rfl, rv, I1, g1⟩
            · obtain ⟨x, e, ρ', _, h2, _⟩ := p
              (first | exact no h2 | exact no1 h2 | exact no2 h2 | exact noE h2 | exact noE1 h2 | obtain rfl := Option.some.inj h2 | obtain rfl := Except.ok.inj h2 | obtain rfl := h2 | cases h2)
          · rename_i wd st' ex
            (first | exact no h | exact no1 h | exact no2 h | exact noE h | exact noE1 h | obtain rfl := Option.some.inj h | obtain rfl := Except.ok.inj h | obtain rfl := h | cases h)
            refine wpAny_mono (sS _ ρ s' _ _ ex I' tk') (fun fl s1 p => ?_) (fun c s1 p => ?_)
            · obtain ⟨v', ρ', h1, _⟩ := p
              (first | exact no h1 | exact no1 h1 | exact no2 h1 | exact noE h1 | exact noE1 h1 | obtain rfl := Option.some.inj h1 | obtain rfl := Except.ok.inj h1 | obtain rfl := h1 | cases h1)
            · obtain ⟨x, e, ρ', rfl, h2, h3, h4, h5⟩ := p
              (first | exact no h2 | exact no1 h2 | exact no2 h2 | exact noE h2 | exact noE1 h2 | obtain rfl := Option.some.inj h2 | obtain rfl := Except.ok.inj h2 | obtain rfl := h2 | cases h2)
              exact ⟨st'.loc, wd, e, ρ', rfl, rfl, h3, h4, h5⟩
          · (first | exact no h | exact no1 h | exact no2 h | exact noE h | exact noE1 h | obtain rfl := Option.some.inj h | obtain rfl := Except.ok.inj h | obtain rfl := h | cases h)
        · (first | exact no h | exact no1 h | exact no2 h | exact noE h | exact noE1 h | obtain rfl := Option.some.inj h | obtain rfl := Except.ok.inj h | obtain rfl := h | cases h)
      · (first | exact no h | exact no1 h | exact no2 h | exact noE h | exact noE1 h | obtain rfl := Option.some.inj h | obtain rfl := Except.ok.inj h | obtain rfl := h | cases h)
end
end Nt
end

section
open PySem PySem.W PyProof.Rows PySem.Calls PyProof
set_option genSizeOf false
set_option genInjectivity false
set_option maxRecDepth 100000
set_option maxHeartbeats 8000000
set_option autoImplicit false
namespace NT
open PySem.Challenge in
noncomputable def qq : Program := view pw_nt0591_01 [1, 2, 4, 5, 6, 8, 9, 10, 11, 12, 13, 14, 15, 17, 18, 19, 20, 21, 22, 23, 24, 25, 26, 27, 28, 29, 30]
noncomputable def dfs (i : Nat) : Option (Arguments × List Stmt × Scope) := match (PySem.Challenge.pw_nt0591_01.main.body : List Stmt)[(([4, 5, 6, 8, 9, 10, 11, 12, 13, 14, 15, 17, 18, 19, 20, 21, 22, 23, 24, 25, 26, 27, 28, 29, 30] : List Nat).getD i 0)]? with | some (PySem.Stmt.FunctionDef _ a b _ _ _ s _ _ _) => some (a, b, s) | _ => none
noncomputable def prm (i : Nat) : Arguments := match dfs i with | some (a, _, _) => a | none => ⟨[], [], none, [], [], none, []⟩
noncomputable def bdy (i : Nat) : List Stmt := match dfs i with | some (_, b, _) => b | none => []
noncomputable def scp (i : Nat) : Scope := match dfs i with | some (_, _, s) => s | none => default
noncomputable def fdI (i : Nat) : FuncData := plainDef (Nt.fname i) (prm i) (bdy i) (scp i) (if i < 3 then .str (Str.ofString "htmltree.signs") 234 else if i < 11 then .str (Str.ofString "htmltree.query") 257 else .str (Str.ofString "law_nt0591_01") 343) (.ref (52 + 7 * i))
noncomputable def foI (i : Nat) : Obj := { cls := .type "function", data := .func (fdI i) }
noncomputable def KK (p : Params) : Frag :=
  [(3, ({ cls := Value.type "dict", data := Data.dict #[{ hash := PyData.keyHash p (Str.ofString "__name__"), key := Value.str (Str.ofString "__name__") 165, val := Value.str (Str.ofString "law_nt0591_01") 343 }, { hash := PyData.keyHash p (Str.ofString "__doc__"), key := Value.str (Str.ofString "__doc__") 166, val := Value.none }, { hash := PyData.keyHash p (Str.ofString "__package__"), key := Value.str (Str.ofString "__package__") 167, val := Value.none }, { hash := PyData.keyHash p (Str.ofString "__loader__"), key := Value.str (Str.ofString "__loader__") 168, val := Value.builtin "__main__.__loader__#opaque" }, { hash := PyData.keyHash p (Str.ofString "__spec__"), key := Value.str (Str.ofString "__spec__") 169, val := Value.none }, { hash := PyData.keyHash p (Str.ofString "__annotations__"), key := Value.str (Str.ofString "__annotations__") 170, val := Value.ref 6 }, { hash := PyData.keyHash p (Str.ofString "__builtins__"), key := Value.str (Str.ofString "__builtins__") 171, val := Value.ref 4 }, { hash := PyData.keyHash p (Str.ofString "__file__"), key := Value.str (Str.ofString "__file__") 173, val := Value.str (Str.ofString "/claim/cut.py") 172 }, { hash := PyData.keyHash p (Str.ofString "__cached__"), key := Value.str (Str.ofString "__cached__") 174, val := Value.none }, { hash := PyData.keyHash p (Str.ofString "HtmlFault"), key := Value.str (Str.ofString "HtmlFault") 217, val := Value.ref 31 }, { hash := PyData.keyHash p (Str.ofString "Misused"), key := Value.str (Str.ofString "Misused") 233, val := Value.ref 44 }, { hash := PyData.keyHash p (Str.ofString "is_space"), key := Value.str (Str.ofString "is_space") 242, val := Value.ref 53 }, { hash := PyData.keyHash p (Str.ofString "is_digit"), key := Value.str (Str.ofString "is_digit") 249, val := Value.ref 60 }, { hash := PyData.keyHash p (Str.ofString "is_alnum"), key := Value.str (Str.ofString "is_alnum") 256, val := Value.ref 67 }, { hash := PyData.keyHash p (Str.ofString "past_spaces"), key := Value.str (Str.ofString "past_spaces") 266, val := Value.ref 74 }, { hash := PyData.keyHash p (Str.ofString "is_word_sign"), key := Value.str (Str.ofString "is_word_sign") 273, val := Value.ref 81 }, { hash := PyData.keyHash p (Str.ofString "read_word"), key := Value.str (Str.ofString "read_word") 285, val := Value.ref 88 }, { hash := PyData.keyHash p (Str.ofString "read_value"), key := Value.str (Str.ofString "read_value") 295, val := Value.ref 95 }, { hash := PyData.keyHash p (Str.ofString "read_attr"), key := Value.str (Str.ofString "read_attr") 305, val := Value.ref 102 }, { hash := PyData.keyHash p (Str.ofString "read_simple"), key := Value.str (Str.ofString "read_simple") 320, val := Value.ref 109 }, { hash := PyData.keyHash p (Str.ofString "read_chain"), key := Value.str (Str.ofString "read_chain") 332, val := Value.ref 116 }, { hash := PyData.keyHash p (Str.ofString "read_selector"), key := Value.str (Str.ofString "read_selector") 342, val := Value.ref 123 }, { hash := PyData.keyHash p (Str.ofString "_law_draw"), key := Value.str (Str.ofString "_law_draw") 354, val := Value.ref 130 }, { hash := PyData.keyHash p (Str.ofString "_law_word"), key := Value.str (Str.ofString "_law_word") 361, val := Value.ref 137 }, { hash := PyData.keyHash p (Str.ofString "_law_gap"), key := Value.str (Str.ofString "_law_gap") 368, val := Value.ref 144 }, { hash := PyData.keyHash p (Str.ofString "_law_bracket"), key := Value.str (Str.ofString "_law_bracket") 380, val := Value.ref 151 }, { hash := PyData.keyHash p (Str.ofString "_law_part"), key := Value.str (Str.ofString "_law_part") 395, val := Value.ref 158 }, { hash := PyData.keyHash p (Str.ofString "_law_written"), key := Value.str (Str.ofString "_law_written") 409, val := Value.ref 165 }, { hash := PyData.keyHash p (Str.ofString "_law_spoiled"), key := Value.str (Str.ofString "_law_spoiled") 420, val := Value.ref 172 }, { hash := PyData.keyHash p (Str.ofString "_law_valued"), key := Value.str (Str.ofString "_law_valued") 430, val := Value.ref 179 }, { hash := PyData.keyHash p (Str.ofString "_law_loose"), key := Value.str (Str.ofString "_law_loose") 440, val := Value.ref 186 }, { hash := PyData.keyHash p (Str.ofString "_law_kind"), key := Value.str (Str.ofString "_law_kind") 447, val := Value.ref 193 }, { hash := PyData.keyHash p (Str.ofString "_law_take"), key := Value.str (Str.ofString "_law_take") 456, val := Value.ref 200 }, { hash := PyData.keyHash p (Str.ofString "_law_read"), key := Value.str (Str.ofString "_law_read") 472, val := Value.ref 207 }, { hash := PyData.keyHash p (Str.ofString "_law_told"), key := Value.str (Str.ofString "_law_told") 480, val := Value.ref 214 }, { hash := PyData.keyHash p (Str.ofString "law"), key := Value.str (Str.ofString "law") 492, val := Value.ref 221 }] 36 } : Obj)),
   (15, ({ cls := Value.type "tuple", data := Data.seq #[Value.type "Exception"] } : Obj)),
   (27, ({ cls := Value.type "code", data := Data.fields #[Value.str (Str.ofString "__init__") 201, Value.str (Str.ofString "HtmlFault.__init__") 202, Value.str (Str.ofString "/claim/cut.py") 203, Value.int 4 0, Value.int 2 0, Value.int 0 0, Value.int 0 0, Value.int 3 0, Value.ref 22, Value.bool true, Value.int 181 0, Value.ref 23, Value.none, Value.ref 24, Value.ref 25, Value.ref 26, Value.int 206 0, Value.int 4 0, Value.str (Str.ofString "/claim/cut.py") 207] } : Obj)),
   (28, ({ cls := Value.type "function", data := Data.func { name := Str.ofString "__init__", qualname := Str.ofString "HtmlFault.__init__", params := { posonlyargs := [], args := [{ arg := Str.ofString "self", annotation := none, pos := { line := 4, col := 17, endLine := 4, endCol := 21 } }, { arg := Str.ofString "why", annotation := none, pos := { line := 4, col := 23, endLine := 4, endCol := 26 } }], vararg := none, kwonlyargs := [], kw_defaults := [], kwarg := none, defaults := [] }, body := FuncBody.stmts [Stmt.Expr (((Expr.Name (Str.ofString "Exception") { line := 5, col := 8, endLine := 5, endCol := 17 }).Attribute (Str.ofString "__init__") { line := 5, col := 8, endLine := 5, endCol := 26 }).Call [Expr.Name (Str.ofString "self") { line := 5, col := 27, endLine := 5, endCol := 31 }, Expr.Name (Str.ofString "why") { line := 5, col := 33, endLine := 5, endCol := 36 }] [] { line := 5, col := 8, endLine := 5, endCol := 37 }) { line := 5, col := 8, endLine := 5, endCol := 37 }, Stmt.Assign [(Expr.Name (Str.ofString "self") { line := 6, col := 8, endLine := 6, endCol := 12 }).Attribute (Str.ofString "why") { line := 6, col := 8, endLine := 6, endCol := 16 }] (Expr.Name (Str.ofString "why") { line := 6, col := 19, endLine := 6, endCol := 22 }) { line := 6, col := 8, endLine := 6, endCol := 22 }], scope := { kind := ScopeKind.function, names := [(Str.ofString "self", NameKind.local), (Str.ofString "why", NameKind.local), (Str.ofString "Exception", NameKind.globalImplicit)], isGenerator := false, isCoroutine := false }, globals := 3, closure := [], defaults := Value.none, kwdefaults := Value.none, pyModule := Value.str (Str.ofString "htmltree.faults") 187, code := Value.ref 27 } } : Obj)),
   (29, ({ cls := Value.type "tuple", data := Data.seq #[Value.str (Str.ofString "why") 209] } : Obj)),
   (30, ({ cls := Value.type "dict", data := Data.dict #[{ hash := PyData.keyHash p (Str.ofString "__module__"), key := Value.str (Str.ofString "__module__") 196, val := Value.str (Str.ofString "htmltree.faults") 187 }, { hash := PyData.keyHash p (Str.ofString "__firstlineno__"), key := Value.str (Str.ofString "__firstlineno__") 200, val := Value.int 2 199 }, { hash := PyData.keyHash p (Str.ofString "__init__"), key := Value.str (Str.ofString "__init__") 208, val := Value.ref 28 }, { hash := PyData.keyHash p (Str.ofString "__static_attributes__"), key := Value.str (Str.ofString "__static_attributes__") 210, val := Value.ref 29 }, { hash := PyData.keyHash p (Str.ofString "__weakref__"), key := Value.str (Str.ofString "__weakref__") 212, val := Value.ref 32 }, { hash := PyData.keyHash p (Str.ofString "__doc__"), key := Value.str (Str.ofString "__doc__") 213, val := Value.none }] 3 } : Obj)),
   (31, ({ cls := Value.type "type", data := Data.cls { name := Str.ofString "HtmlFault", bases := [Value.type "Exception"], mro := [Value.ref 31, Value.type "Exception", Value.type "BaseException", Value.type "object"], ns := 30, qualname := Str.ofString "HtmlFault", subclasses := [Value.ref 44] }, slots := #[some (Value.ref 15), none, some (Value.str (Str.ofString "HtmlFault") 189), some (Value.str (Str.ofString "HtmlFault") 197), some (Value.builtin "Exception.__new__"), some (Value.bool true)] } : Obj)),
   (32, ({ cls := Value.type "getset_descriptor", data := Data.fields #[Value.str (Str.ofString "__weakref__") 211, Value.ref 31, Value.builtin "ExceptionGroup.__weakref__", Value.none] } : Obj)),
   (35, ({ cls := Value.type "tuple", data := Data.seq #[Value.ref 31] } : Obj)),
   (42, ({ cls := Value.type "tuple", data := Data.seq #[] } : Obj)),
   (43, ({ cls := Value.type "dict", data := Data.dict #[{ hash := PyData.keyHash p (Str.ofString "__module__"), key := Value.str (Str.ofString "__module__") 225, val := Value.str (Str.ofString "htmltree.faults") 187 }, { hash := PyData.keyHash p (Str.ofString "__firstlineno__"), key := Value.str (Str.ofString "__firstlineno__") 229, val := Value.int 7 228 }, { hash := PyData.keyHash p (Str.ofString "__static_attributes__"), key := Value.str (Str.ofString "__static_attributes__") 230, val := Value.ref 42 }, { hash := PyData.keyHash p (Str.ofString "__doc__"), key := Value.str (Str.ofString "__doc__") 231, val := Value.none }] 2 } : Obj)),
   (44, ({ cls := Value.type "type", data := Data.cls { name := Str.ofString "Misused", bases := [Value.ref 31], mro := [Value.ref 44, Value.ref 31, Value.type "Exception", Value.type "BaseException", Value.type "object"], ns := 43, qualname := Str.ofString "Misused" }, slots := #[some (Value.ref 35), none, some (Value.str (Str.ofString "Misused") 218), some (Value.str (Str.ofString "Misused") 226), some (Value.builtin "Exception.__new__"), some (Value.bool true)] } : Obj)),
   (52, ({ cls := Value.type "code", data := Data.fields #[Value.str (Str.ofString "is_space") 236, Value.str (Str.ofString "is_space") 237, Value.str (Str.ofString "/claim/cut.py") 238, Value.int 10 0, Value.int 1 0, Value.int 0 0, Value.int 0 0, Value.int 3 0, Value.ref 47, Value.bool true, Value.int 181 0, Value.ref 48, Value.none, Value.ref 49, Value.ref 50, Value.ref 51, Value.int 240 0, Value.int 10 0, Value.str (Str.ofString "/claim/cut.py") 241] } : Obj)),
   (59, ({ cls := Value.type "code", data := Data.fields #[Value.str (Str.ofString "is_digit") 243, Value.str (Str.ofString "is_digit") 244, Value.str (Str.ofString "/claim/cut.py") 245, Value.int 12 0, Value.int 1 0, Value.int 0 0, Value.int 0 0, Value.int 3 0, Value.ref 54, Value.bool true, Value.int 181 0, Value.ref 55, Value.none, Value.ref 56, Value.ref 57, Value.ref 58, Value.int 247 0, Value.int 12 0, Value.str (Str.ofString "/claim/cut.py") 248] } : Obj)),
   (66, ({ cls := Value.type "code", data := Data.fields #[Value.str (Str.ofString "is_alnum") 250, Value.str (Str.ofString "is_alnum") 251, Value.str (Str.ofString "/claim/cut.py") 252, Value.int 14 0, Value.int 1 0, Value.int 0 0, Value.int 0 0, Value.int 3 0, Value.ref 61, Value.bool true, Value.int 181 0, Value.ref 62, Value.none, Value.ref 63, Value.ref 64, Value.ref 65, Value.int 254 0, Value.int 14 0, Value.str (Str.ofString "/claim/cut.py") 255] } : Obj)),
   (73, ({ cls := Value.type "code", data := Data.fields #[Value.str (Str.ofString "past_spaces") 259, Value.str (Str.ofString "past_spaces") 260, Value.str (Str.ofString "/claim/cut.py") 261, Value.int 17 0, Value.int 2 0, Value.int 0 0, Value.int 0 0, Value.int 3 0, Value.ref 68, Value.bool true, Value.int 181 0, Value.ref 69, Value.none, Value.ref 70, Value.ref 71, Value.ref 72, Value.int 264 0, Value.int 17 0, Value.str (Str.ofString "/claim/cut.py") 265] } : Obj)),
   (80, ({ cls := Value.type "code", data := Data.fields #[Value.str (Str.ofString "is_word_sign") 267, Value.str (Str.ofString "is_word_sign") 268, Value.str (Str.ofString "/claim/cut.py") 269, Value.int 21 0, Value.int 1 0, Value.int 0 0, Value.int 0 0, Value.int 3 0, Value.ref 75, Value.bool true, Value.int 181 0, Value.ref 76, Value.none, Value.ref 77, Value.ref 78, Value.ref 79, Value.int 271 0, Value.int 21 0, Value.str (Str.ofString "/claim/cut.py") 272] } : Obj)),
   (87, ({ cls := Value.type "code", data := Data.fields #[Value.str (Str.ofString "read_word") 274, Value.str (Str.ofString "read_word") 275, Value.str (Str.ofString "/claim/cut.py") 276, Value.int 23 0, Value.int 2 0, Value.int 0 0, Value.int 0 0, Value.int 3 0, Value.ref 82, Value.bool true, Value.int 181 0, Value.ref 83, Value.none, Value.ref 84, Value.ref 85, Value.ref 86, Value.int 283 0, Value.int 23 0, Value.str (Str.ofString "/claim/cut.py") 284] } : Obj)),
   (94, ({ cls := Value.type "code", data := Data.fields #[Value.str (Str.ofString "read_value") 286, Value.str (Str.ofString "read_value") 287, Value.str (Str.ofString "/claim/cut.py") 288, Value.int 35 0, Value.int 2 0, Value.int 0 0, Value.int 0 0, Value.int 3 0, Value.ref 89, Value.bool true, Value.int 181 0, Value.ref 90, Value.none, Value.ref 91, Value.ref 92, Value.ref 93, Value.int 293 0, Value.int 35 0, Value.str (Str.ofString "/claim/cut.py") 294] } : Obj)),
   (101, ({ cls := Value.type "code", data := Data.fields #[Value.str (Str.ofString "read_attr") 296, Value.str (Str.ofString "read_attr") 297, Value.str (Str.ofString "/claim/cut.py") 298, Value.int 45 0, Value.int 2 0, Value.int 0 0, Value.int 0 0, Value.int 3 0, Value.ref 96, Value.bool true, Value.int 181 0, Value.ref 97, Value.none, Value.ref 98, Value.ref 99, Value.ref 100, Value.int 303 0, Value.int 45 0, Value.str (Str.ofString "/claim/cut.py") 304] } : Obj)),
   (108, ({ cls := Value.type "code", data := Data.fields #[Value.str (Str.ofString "read_simple") 306, Value.str (Str.ofString "read_simple") 307, Value.str (Str.ofString "/claim/cut.py") 308, Value.int 55 0, Value.int 2 0, Value.int 0 0, Value.int 0 0, Value.int 3 0, Value.ref 103, Value.bool true, Value.int 181 0, Value.ref 104, Value.none, Value.ref 105, Value.ref 106, Value.ref 107, Value.int 318 0, Value.int 55 0, Value.str (Str.ofString "/claim/cut.py") 319] } : Obj)),
   (115, ({ cls := Value.type "code", data := Data.fields #[Value.str (Str.ofString "read_chain") 321, Value.str (Str.ofString "read_chain") 322, Value.str (Str.ofString "/claim/cut.py") 323, Value.int 75 0, Value.int 2 0, Value.int 0 0, Value.int 0 0, Value.int 3 0, Value.ref 110, Value.bool true, Value.int 181 0, Value.ref 111, Value.none, Value.ref 112, Value.ref 113, Value.ref 114, Value.int 330 0, Value.int 75 0, Value.str (Str.ofString "/claim/cut.py") 331] } : Obj)),
   (122, ({ cls := Value.type "code", data := Data.fields #[Value.str (Str.ofString "read_selector") 333, Value.str (Str.ofString "read_selector") 334, Value.str (Str.ofString "/claim/cut.py") 335, Value.int 93 0, Value.int 1 0, Value.int 0 0, Value.int 0 0, Value.int 3 0, Value.ref 117, Value.bool true, Value.int 181 0, Value.ref 118, Value.none, Value.ref 119, Value.ref 120, Value.ref 121, Value.int 340 0, Value.int 93 0, Value.str (Str.ofString "/claim/cut.py") 341] } : Obj)),
   (129, ({ cls := Value.type "code", data := Data.fields #[Value.str (Str.ofString "_law_draw") 345, Value.str (Str.ofString "_law_draw") 346, Value.str (Str.ofString "/claim/cut.py") 347, Value.int 101 0, Value.int 2 0, Value.int 0 0, Value.int 0 0, Value.int 3 0, Value.ref 124, Value.bool true, Value.int 181 0, Value.ref 125, Value.none, Value.ref 126, Value.ref 127, Value.ref 128, Value.int 352 0, Value.int 101 0, Value.str (Str.ofString "/claim/cut.py") 353] } : Obj)),
   (136, ({ cls := Value.type "code", data := Data.fields #[Value.str (Str.ofString "_law_word") 355, Value.str (Str.ofString "_law_word") 356, Value.str (Str.ofString "/claim/cut.py") 357, Value.int 106 0, Value.int 1 0, Value.int 0 0, Value.int 0 0, Value.int 3 0, Value.ref 131, Value.bool true, Value.int 181 0, Value.ref 132, Value.none, Value.ref 133, Value.ref 134, Value.ref 135, Value.int 359 0, Value.int 106 0, Value.str (Str.ofString "/claim/cut.py") 360] } : Obj)),
   (143, ({ cls := Value.type "code", data := Data.fields #[Value.str (Str.ofString "_law_gap") 362, Value.str (Str.ofString "_law_gap") 363, Value.str (Str.ofString "/claim/cut.py") 364, Value.int 108 0, Value.int 1 0, Value.int 0 0, Value.int 0 0, Value.int 3 0, Value.ref 138, Value.bool true, Value.int 181 0, Value.ref 139, Value.none, Value.ref 140, Value.ref 141, Value.ref 142, Value.int 366 0, Value.int 108 0, Value.str (Str.ofString "/claim/cut.py") 367] } : Obj)),
   (150, ({ cls := Value.type "code", data := Data.fields #[Value.str (Str.ofString "_law_bracket") 369, Value.str (Str.ofString "_law_bracket") 370, Value.str (Str.ofString "/claim/cut.py") 371, Value.int 110 0, Value.int 1 0, Value.int 0 0, Value.int 0 0, Value.int 3 0, Value.ref 145, Value.bool true, Value.int 181 0, Value.ref 146, Value.none, Value.ref 147, Value.ref 148, Value.ref 149, Value.int 378 0, Value.int 110 0, Value.str (Str.ofString "/claim/cut.py") 379] } : Obj)),
   (157, ({ cls := Value.type "code", data := Data.fields #[Value.str (Str.ofString "_law_part") 381, Value.str (Str.ofString "_law_part") 382, Value.str (Str.ofString "/claim/cut.py") 383, Value.int 126 0, Value.int 1 0, Value.int 0 0, Value.int 0 0, Value.int 3 0, Value.ref 152, Value.bool true, Value.int 181 0, Value.ref 153, Value.none, Value.ref 154, Value.ref 155, Value.ref 156, Value.int 393 0, Value.int 126 0, Value.str (Str.ofString "/claim/cut.py") 394] } : Obj)),
   (164, ({ cls := Value.type "code", data := Data.fields #[Value.str (Str.ofString "_law_written") 396, Value.str (Str.ofString "_law_written") 397, Value.str (Str.ofString "/claim/cut.py") 398, Value.int 142 0, Value.int 1 0, Value.int 0 0, Value.int 0 0, Value.int 3 0, Value.ref 159, Value.bool true, Value.int 181 0, Value.ref 160, Value.none, Value.ref 161, Value.ref 162, Value.ref 163, Value.int 407 0, Value.int 142 0, Value.str (Str.ofString "/claim/cut.py") 408] } : Obj)),
   (171, ({ cls := Value.type "code", data := Data.fields #[Value.str (Str.ofString "_law_spoiled") 410, Value.str (Str.ofString "_law_spoiled") 411, Value.str (Str.ofString "/claim/cut.py") 412, Value.int 158 0, Value.int 2 0, Value.int 0 0, Value.int 0 0, Value.int 3 0, Value.ref 166, Value.bool true, Value.int 181 0, Value.ref 167, Value.none, Value.ref 168, Value.ref 169, Value.ref 170, Value.int 418 0, Value.int 158 0, Value.str (Str.ofString "/claim/cut.py") 419] } : Obj)),
   (178, ({ cls := Value.type "code", data := Data.fields #[Value.str (Str.ofString "_law_valued") 421, Value.str (Str.ofString "_law_valued") 422, Value.str (Str.ofString "/claim/cut.py") 423, Value.int 167 0, Value.int 1 0, Value.int 0 0, Value.int 0 0, Value.int 3 0, Value.ref 173, Value.bool true, Value.int 181 0, Value.ref 174, Value.none, Value.ref 175, Value.ref 176, Value.ref 177, Value.int 428 0, Value.int 167 0, Value.str (Str.ofString "/claim/cut.py") 429] } : Obj)),
   (185, ({ cls := Value.type "code", data := Data.fields #[Value.str (Str.ofString "_law_loose") 431, Value.str (Str.ofString "_law_loose") 432, Value.str (Str.ofString "/claim/cut.py") 433, Value.int 174 0, Value.int 1 0, Value.int 0 0, Value.int 0 0, Value.int 3 0, Value.ref 180, Value.bool true, Value.int 181 0, Value.ref 181, Value.none, Value.ref 182, Value.ref 183, Value.ref 184, Value.int 438 0, Value.int 174 0, Value.str (Str.ofString "/claim/cut.py") 439] } : Obj)),
   (192, ({ cls := Value.type "code", data := Data.fields #[Value.str (Str.ofString "_law_kind") 441, Value.str (Str.ofString "_law_kind") 442, Value.str (Str.ofString "/claim/cut.py") 443, Value.int 180 0, Value.int 1 0, Value.int 0 0, Value.int 0 0, Value.int 3 0, Value.ref 187, Value.bool true, Value.int 181 0, Value.ref 188, Value.none, Value.ref 189, Value.ref 190, Value.ref 191, Value.int 445 0, Value.int 180 0, Value.str (Str.ofString "/claim/cut.py") 446] } : Obj)),
   (199, ({ cls := Value.type "code", data := Data.fields #[Value.str (Str.ofString "_law_take") 448, Value.str (Str.ofString "_law_take") 449, Value.str (Str.ofString "/claim/cut.py") 450, Value.int 190 0, Value.int 3 0, Value.int 0 0, Value.int 0 0, Value.int 3 0, Value.ref 194, Value.bool true, Value.int 181 0, Value.ref 195, Value.none, Value.ref 196, Value.ref 197, Value.ref 198, Value.int 454 0, Value.int 190 0, Value.str (Str.ofString "/claim/cut.py") 455] } : Obj)),
   (206, ({ cls := Value.type "code", data := Data.fields #[Value.str (Str.ofString "_law_read") 457, Value.str (Str.ofString "_law_read") 458, Value.str (Str.ofString "/claim/cut.py") 459, Value.int 202 0, Value.int 1 0, Value.int 0 0, Value.int 0 0, Value.int 3 0, Value.ref 201, Value.bool true, Value.int 181 0, Value.ref 202, Value.none, Value.ref 203, Value.ref 204, Value.ref 205, Value.int 470 0, Value.int 202 0, Value.str (Str.ofString "/claim/cut.py") 471] } : Obj)),
   (213, ({ cls := Value.type "code", data := Data.fields #[Value.str (Str.ofString "_law_told") 473, Value.str (Str.ofString "_law_told") 474, Value.str (Str.ofString "/claim/cut.py") 475, Value.int 263 0, Value.int 1 0, Value.int 0 0, Value.int 0 0, Value.int 3 0, Value.ref 208, Value.bool true, Value.int 181 0, Value.ref 209, Value.none, Value.ref 210, Value.ref 211, Value.ref 212, Value.int 478 0, Value.int 263 0, Value.str (Str.ofString "/claim/cut.py") 479] } : Obj)),
   (220, ({ cls := Value.type "code", data := Data.fields #[Value.str (Str.ofString "law") 481, Value.str (Str.ofString "law") 482, Value.str (Str.ofString "/claim/cut.py") 483, Value.int 268 0, Value.int 1 0, Value.int 0 0, Value.int 0 0, Value.int 3 0, Value.ref 215, Value.bool true, Value.int 181 0, Value.ref 216, Value.none, Value.ref 217, Value.ref 218, Value.ref 219, Value.int 490 0, Value.int 268 0, Value.str (Str.ofString "/claim/cut.py") 491] } : Obj))] ++ (List.range 25).map fun i => (53 + 7 * i, foI i)
theorem kk_as : ∀ P, [3, 15, 27, 28, 29, 30, 31, 32, 35, 42, 43, 44, 52, 59, 66, 73, 80, 87, 94, 101, 108, 115, 122, 129, 136, 143, 150, 157, 164, 171, 178, 185, 192, 199, 206, 213, 220, 53, 60, 67, 74, 81, 88, 95, 102, 109, 116, 123, 130, 137, 144, 151, 158, 165, 172, 179, 186, 193, 200, 207, 214, 221] = (KK P).map (·.1) := fun P => by kernel_rfl
noncomputable abbrev Hk : Hook := kHook KK _ kk_as
noncomputable abbrev Rw : RowW := PySem.Challenge.rw_nt0591_01.row.toRowW
noncomputable def Xt : Shared → Bool := fun s => xlAt qq [] s && recOk (RowW.records Rw) s
theorem left : LeftO PySem.Challenge.rw_nt0591_01.row.prog qq [] Xt (Hook.obs Hk) (Hook.val Hk) 2686 := fun w => by kernel_rfl
theorem said : PySem.Challenge.rw_nt0591_01.wellSaid = true := by decide +kernel
end NT
end

section
open PySem PySem.W PyProof.Rows PySem.Calls PySem.SeqAt Builtin Builtin.ObjectAttr
set_option genSizeOf false
set_option genInjectivity false
set_option maxRecDepth 100000
set_option maxHeartbeats 8000000
set_option autoImplicit false
namespace Nt
noncomputable abbrev KK (p : Params) : Frag := NT.KK p

noncomputable def nmsI (i : Nat) : List Str := (nmsAll[i]?).getD []
noncomputable def npI (i : Nat) : Nat := match bodyOf i with
  | some (np, _, _) => np
  | none => 1
noncomputable def parI (i : Nat) : List Str := (nmsI i).take (npI i)
noncomputable def fnB (i : Nat) : Bool :=
  (NT.scp i).names.all (fun x => decide (x.2 ≠ .cell)) && ((parI i).all (fun x => decide ((NT.scp i).names.lookup x = some .local)) && (decide (nmsI i).Nodup && (decide ((NT.scp i).isCoroutine = false) && (decide ((NT.scp i).isGenerator = false) && (decide ((NT.scp i).kind = .function) && (decide ((parI i).length = npI i) && decide (npI i ≤ 4)))))))
noncomputable def plB (i : Nat) : Bool := match bodyOf i with
  | some (_, ns, b) => decide ((nmsI i).length = ns) && chkS (NT.scp i) (nmsI i) b (NT.bdy i)
  | none => true
theorem fnB_all : ((List.range 25).all fnB) = true := by decide +kernel
theorem plB_all : ((List.range 25).all plB) = true := by decide +kernel
theorem code_all (p : Params) : ((List.range 25).all fun i => codeIn (KK p) (.ref (52 + 7 * i)) (fname i)) = true := by kernel_rfl
theorem obj_all (p : Params) : ((List.range 25).map fun i => (KK p).lookup (53 + 7 * i)) = (List.range 25).map fun i => some (NT.foI i) := by kernel_rfl
theorem ns_all (p : Params) : ((List.range 25).map fun i => nsIn (KK p) mainGlobals (fname i)) = (List.range 25).map fun i => some (some (.ref (53 + 7 * i))) := by kernel_rfl
theorem bind_all (a b c d : Value) : ((List.range 25).map fun i => bindArgs (NT.fdI i) ⟨[a, b, c, d].take (npI i), []⟩) = (List.range 25).map fun i => pure ((parI i).zip ([a, b, c, d].take (npI i))) := by kernel_rfl
theorem map_at {α : Type} {n i : Nat} {f g : Nat → α} (h : (List.range n).map f = (List.range n).map g) (hi : i < n) : f i = g i := List.map_inj_left.mp h i (List.mem_range.mpr hi)
theorem all_at {n i : Nat} {f : Nat → Bool} (h : (List.range n).all f = true) (hi : i < n) : f i = true := List.all_eq_true.mp h i (List.mem_range.mpr hi)
theorem four (l : List Value) (h : l.length ≤ 4) : ∃ a b c d, l = [a, b, c, d].take l.length := by
  rcases l with _ | ⟨a, _ | ⟨b, _ | ⟨c, _ | ⟨d, _ | ⟨e, r⟩⟩⟩⟩⟩
  · exact ⟨.none, .none, .none, .none, rfl⟩
  · exact ⟨a, .none, .none, .none, rfl⟩
  · exact ⟨a, b, .none, .none, rfl⟩
  · exact ⟨a, b, c, .none, rfl⟩
  · exact ⟨a, b, c, d, rfl⟩
  · exact absurd (Nat.le_of_succ_le_succ (Nat.le_of_succ_le_succ (Nat.le_of_succ_le_succ (Nat.le_of_succ_le_succ h)))) (Nat.not_succ_le_zero _)
theorem fn_k (p : Params) {i : Nat} (hi : i < 25) : FnK (KK p) (53 + 7 * i) (parI i) (nmsI i) (NT.bdy i) (NT.scp i) (fname i) (.ref (52 + 7 * i)) := by
  have h1 := an (all_at fnB_all hi)
  have h2 := an h1.2
  have h3 := an h2.2
  have h4 := an h3.2
  have h5 := an h4.2
  have h6 := an h5.2
  have h7 := an h6.2
  refine ⟨⟨_, _, map_at (obj_all p) hi, fun cargs hl => ?_⟩, all_at (code_all p) hi, fun x m => dt (List.all_eq_true.mp h1.1 x m), fun x m => dt (List.all_eq_true.mp h2.1 x m), ⟨(nmsI i).drop (npI i), (List.take_append_drop _ _).symm⟩, dt h3.1, dt h4.1, dt h5.1, dt h6.1⟩
  have hl' := hl.trans (dt h7.1)
  obtain ⟨a, b, c, d, q⟩ := four cargs (hl' ▸ dt h7.2)
  rw [hl'] at q
  rw [q]
  exact map_at (bind_all a b c d) hi
theorem bodyOf_lt {i : Nat} {x : Nat × Nat × S} (h : bodyOf i = some x) : i < 25 := by
  rcases Nat.lt_or_ge i 25 with q | q
  · exact q
  · obtain ⟨k, rfl⟩ := Nat.le.dest q
    rw [Nat.add_comm] at h
    (first | exact no h | exact no1 h | exact no2 h | exact noE h | exact noE1 h | obtain rfl := Option.some.inj h | obtain rfl := Except.ok.inj h | obtain rfl := h | cases h)
end Nt
end

section
open PySem PySem.W PyProof.Rows PySem.Calls PySem.SeqAt Builtin Builtin.ObjectAttr
set_option genSizeOf false
set_option genInjectivity false
set_option maxRecDepth 100000
set_option maxHeartbeats 8000000
set_option autoImplicit false
namespace Nt

theorem fn_told (p : Params) : ToldFn (KK p) 214 :=
  ⟨⟨_, _, _, _, _, _, _, _, _, _, _, fn_k p (i := 23) (by decide), by decide +kernel, by decide +kernel, by decide +kernel⟩⟩
theorem fns_all (p : Params) : FnAll (KK p) (fun i => 53 + 7 * i) := by
  refine ⟨fun i np ns b hi h => ?_, fn_told p⟩
  have lt := bodyOf_lt h
  have h1 := all_at plB_all lt
  have h2 := (an (an (an (an (an (an (an (all_at fnB_all lt)).2).2).2).2).2).2).1
  have h3 : npI i = np := by unfold npI; rw [h]
  unfold plB at h1
  rw [h] at h1
  exact ⟨⟨_, _, _, _, _, _, fn_k p lt, (dt h2).trans h3, dt (an h1).1, (an h1).2⟩⟩

theorem cls_k (p : Params) : ClsK (KK p) 44 := by
  refine ⟨⟨_, _, _, rfl, rfl, rfl, rfl⟩, fun S => ?_, fun S => ?_, ?_, ?_, ?_, ?_, ?_, ?_, ?_⟩
  · kernel_rfl
  · kernel_rfl
  · kernel_rfl
  · kernel_rfl
  · kernel_rfl
  · kernel_rfl
  · kernel_rfl
  · kernel_rfl
  · kernel_rfl

theorem init_k (p : Params) : ∃ fd, InitFn (KK p) 44 28 fd := by
  refine ⟨_, ⟨?_, ?_, ⟨_, rfl, rfl⟩, ⟨_, _, _, _, _, _, _, _, _, _, rfl, rfl⟩, fun x y => ?_, ?_, ?_, ?_, ?_, ?_, ?_, ?_, ?_, ?_, ⟨_, _, _, _, rfl, rfl, rfl, rfl⟩, ?_, ?_, ?_⟩⟩
  · kernel_rfl
  · kernel_rfl
  · kernel_rfl
  · decide +kernel
  · decide +kernel
  · decide +kernel
  · decide +kernel
  · rfl
  · rfl
  · rfl
  · rfl
  · rfl
  · kernel_rfl
  · kernel_rfl
  · kernel_rfl

theorem clsd_k (p : Params) : ∃ cd, ClsD (KK p) 44 cd := by
  refine ⟨_, ⟨rfl, rfl, fun e => ?_, ?_, ?_, ?_⟩⟩
  · kernel_rfl
  · kernel_rfl
  · kernel_rfl
  · kernel_rfl

theorem told_k (p : Params) : ToldK (KK p) 44 := by
  refine ⟨?_, ?_, fun x od h => ?_⟩
  · kernel_rfl
  · kernel_rfl
  · obtain ⟨hsh, kt, t, n, rfl⟩ := h
    exact ⟨t, by kernel_rfl⟩
end Nt
end

section
open PySem PySem.W PyProof.Rows PySem.Calls PySem.SeqAt Builtin Builtin.ObjectAttr
set_option genSizeOf false
set_option genInjectivity false
set_option maxRecDepth 100000
set_option maxHeartbeats 8000000
set_option autoImplicit false
namespace Nt

theorem ns_in {K : Frag} {h : Heap} {a : Addr} {m : Str → Option Value} {name : Str} {r : Option Value} (X : K.In h) (g : h.Ns a m) (e : nsIn K a name = some r) : m name = r := by
  obtain ⟨o, es, ep, ho, hd, hk, hf⟩ := g
  unfold nsIn at e
  split at e
  · rename_i c d es' n sl hl
    have := X _ _ hl
    rw [ho] at this
    (first | exact no this | exact no1 this | exact no2 this | exact noE this | exact noE1 this | obtain rfl := Option.some.inj this | obtain rfl := Except.ok.inj this | obtain rfl := this | cases this)
    (first | exact no hd | exact no1 hd | exact no2 hd | exact noE hd | exact noE1 hd | obtain rfl := Option.some.inj hd | obtain rfl := Except.ok.inj hd | obtain rfl := hd | cases hd)
    rw [← hf name]
    unfold nsFind findBy
    rw [← Array.find?_toList]
    split at e
    · rename_i en he
      rw [he]
      (first | exact no e | exact no1 e | exact no2 e | exact noE e | exact noE1 e | obtain rfl := Option.some.inj e | obtain rfl := Except.ok.inj e | obtain rfl := e | cases e); rfl
    · rename_i he
      rw [he]
      split at e
      · (first | exact no e | exact no1 e | exact no2 e | exact noE e | exact noE1 e | obtain rfl := Option.some.inj e | obtain rfl := Except.ok.inj e | obtain rfl := e | cases e)
      · (first | exact no e | exact no1 e | exact no2 e | exact noE e | exact noE1 e | obtain rfl := Option.some.inj e | obtain rfl := Except.ok.inj e | obtain rfl := e | cases e); rfl
  · (first | exact no e | exact no1 e | exact no2 e | exact noE e | exact noE1 e | obtain rfl := Option.some.inj e | obtain rfl := Except.ok.inj e | obtain rfl := e | cases e)

theorem base_of {prog : Program} {w : World} {h : Heap} {mg mb : Str → Option Value} (X : (KK w.params).In h) (g : h.Ns mainGlobals mg) (b : h.Ns builtinsNs mb) (hb : ∀ x : Str, x ≠ "__name__" → mb x = bootBuiltins x) (hl : h.NoLimit) :
    ∃ fd cd, Base prog w h (fun i => 53 + 7 * i) 44 (KK w.params) 28 fd cd := by
  obtain ⟨fd, hi⟩ := init_k w.params
  obtain ⟨cd, hc⟩ := clsd_k w.params
  refine ⟨fd, cd, ⟨⟨⟨mg, mb, g, b, fun i hi => ?_, ⟨?_, ?_⟩, ⟨?_, ?_⟩, ⟨?_, ?_⟩, ?_⟩, ?_, fun i hi => ?_⟩, X, cls_k _, hi, hc, ⟨⟨mg, mb, g, b, ?_, ?_⟩, hl⟩, told_k _, fns_all _⟩⟩
  · exact ns_in X g (map_at (ns_all _) hi)
  · exact ns_in X g (by kernel_rfl)
  · rw [hb _ (by decide)]; decide +kernel
  · exact ns_in X g (by kernel_rfl)
  · rw [hb _ (by decide)]; decide +kernel
  · exact ns_in X g (by kernel_rfl)
  · rw [hb _ (by decide)]; decide +kernel
  · exact ns_in X g (by kernel_rfl)
  · obtain ⟨o, _, _, e, _⟩ := g
    exact ⟨mainGlobals, o, e, by decide⟩
  · exact ⟨_, _, X _ _ (map_at (obj_all w.params) hi), rfl⟩
  · exact ns_in X g (by kernel_rfl)
  · rw [hb _ (by decide)]; decide +kernel
end Nt
end

section
open PySem PySem.W PyProof.Rows PySem.Calls PySem.SeqAt Builtin Builtin.ObjectAttr
set_option genSizeOf false
set_option genInjectivity false
set_option maxRecDepth 100000
set_option maxHeartbeats 8000000
set_option autoImplicit false
namespace Nt

theorem ints_vrs {ρ : List Addr} {h : Heap} {vs : List Value} {ns : List Int} (x : IntsAre vs ns) : VRs ρ h (ns.map V.int) vs := by
  induction x with
  | nil => exact .nil
  | cons n t _ ih => exact .cons (.int n t) ih

theorem law_frame {prog : Program} {w : World} {h₀ h₁ : Heap} {fn : Nat → Addr} {CM : Addr} {K : Frag} {ia : Addr} {fd : FuncData} {cd : ClassData} (T : Base prog w h₀ fn CM K ia fd cd) {L a fa : Addr} {vs : List Value} {ns : List Int} {scope : Scope} {name : Str} {cdv : Value} {body : List Stmt} {m : Str → Option Value} {s : Shared}
    (hc : chkS scope names_law body_law body = true) (hk : scope.kind = .function) (F : Fr h₀ L h₁ m) (hm : m ("script" : Str) = some (.ref a)) (hLn : L = h₀.objs.size) (hL : h₀.IsList a vs.toArray) (hI : IntsAre vs ns) (hlen : ns.length ≤ 63)
    (hs : s.heap = h₁) (htk : 1 ≤ s.toks) (hrun : ∃ σ', callN 14 24 [.lst (ns.map .int)] [] = some (.ok (.bool true), σ')) :
    wpAny (model prog w) (callerA.deeper (envOf name scope L fa cdv)) (execs body (envOf name scope L fa cdv))
      (fun fl s' => fl = .ret (.bool true) ∧ (∀ b o, h₀.get? b = some o → s'.heap.get? b = some o) ∧ s'.os = s.os ∧ s'.gens = s.gens) (fun _ _ => False) s := by
  subst hs
  obtain ⟨σ', hrun⟩ := hrun
  let f : Fm := ⟨callerA.deeper (envOf name scope L fa cdv), name, scope, L, fa, cdv, [], names_law⟩
  have Kf : f.Ok 15 := ⟨rfl, rfl, hk, (by decide +kernel : names_law.Nodup), (by decide +kernel : callerA.depth + 1 + 15 < recursionLimit), (by decide +kernel : callerA.units + 3 + 3 * 15 + 100 < cLine)⟩
  have hLB : h₀.get? L = none := hLn ▸ none_at _
  have I : FI prog w h₀ f [] ⟨[some (.lst (ns.map .int)), none, none, none, none, none], []⟩ s.heap := by
    refine ⟨⟨F.keep, trivial, fun b hb => (by (first | exact no hb | exact no1 hb | exact no2 hb | exact noE hb | exact noE1 hb | obtain rfl := Option.some.inj hb | obtain rfl := Except.ok.inj hb | obtain rfl := hb | cases hb)), ⟨rfl, List.nodup_nil, fun a ha => (by (first | exact no ha | exact no1 ha | exact no2 ha | exact noE ha | exact noE1 ha | obtain rfl := Option.some.inj ha | obtain rfl := Except.ok.inj ha | obtain rfl := ha | cases ha)), fun i o a e => by simp at e⟩⟩, ⟨m, F.ns, ?_⟩, rfl, hLB, fun q => (by (first | exact no q | exact no1 q | exact no2 q | exact noE q | exact noE1 q | obtain rfl := Option.some.inj q | obtain rfl := Except.ok.inj q | obtain rfl := q | cases q)), fun q => (by (first | exact no q | exact no1 q | exact no2 q | exact noE q | exact noE1 q | obtain rfl := Option.some.inj q | obtain rfl := Except.ok.inj q | obtain rfl := q | cases q))⟩
    intro i x v hi hx
    match i, hi, hx with
    | 0, hi, hx =>
      (first | exact no hi | exact no1 hi | exact no2 hi | exact noE hi | exact noE1 hi | obtain rfl := Option.some.inj hi | obtain rfl := Except.ok.inj hi | obtain rfl := hi | cases hi); (first | exact no hx | exact no1 hx | exact no2 hx | exact noE hx | exact noE1 hx | obtain rfl := Option.some.inj hx | obtain rfl := Except.ok.inj hx | obtain rfl := hx | cases hx)
      refine ⟨_, hm, .lst (cvs := vs) (let ⟨o, e, c⟩ := hL; ⟨o, F.keep _ _ e, c⟩) (fun q => by (first | exact no q | exact no1 q | exact no2 q | exact noE q | exact noE1 q | obtain rfl := Option.some.inj q | obtain rfl := Except.ok.inj q | obtain rfl := q | cases q)) (by rw [List.length_map]; exact Nat.le_trans hlen (by decide)) (ints_vrs hI)⟩
    | 1, _, hx => (first | exact no hx | exact no1 hx | exact no2 hx | exact noE hx | exact noE1 hx | obtain rfl := Option.some.inj hx | obtain rfl := Except.ok.inj hx | obtain rfl := hx | cases hx)
    | 2, _, hx => (first | exact no hx | exact no1 hx | exact no2 hx | exact noE hx | exact noE1 hx | obtain rfl := Option.some.inj hx | obtain rfl := Except.ok.inj hx | obtain rfl := hx | cases hx)
    | 3, _, hx => (first | exact no hx | exact no1 hx | exact no2 hx | exact noE hx | exact noE1 hx | obtain rfl := Option.some.inj hx | obtain rfl := Except.ok.inj hx | obtain rfl := hx | cases hx)
    | 4, _, hx => (first | exact no hx | exact no1 hx | exact no2 hx | exact noE hx | exact noE1 hx | obtain rfl := Option.some.inj hx | obtain rfl := Except.ok.inj hx | obtain rfl := hx | cases hx)
    | 5, _, hx => (first | exact no hx | exact no1 hx | exact no2 hx | exact noE hx | exact noE1 hx | obtain rfl := Option.some.inj hx | obtain rfl := Except.ok.inj hx | obtain rfl := hx | cases hx)
    | n + 6, _, hx => (first | exact no hx | exact no1 hx | exact no2 hx | exact noE hx | exact noE1 hx | obtain rfl := Option.some.inj hx | obtain rfl := Except.ok.inj hx | obtain rfl := hx | cases hx)
  have IH := calls_ok T 13
  have sS := (sound_S T.top IH Kf (raise_ok T.top T.frag T.cls T.init T.clsd T.exc Kf (by (first | lia | omega))) body_law body hc).1
  have ex : ∃ t', exec (callN 13) body_law ⟨[some (.lst (ns.map .int)), none, none, none, none, none], []⟩ = some (.ok (.ret (.bool true)), t') := by
    have h : runBody (callN 13) 6 body_law [.lst (ns.map .int)] [] = some (.ok (.bool true), σ') := hrun
    unfold runBody at h
    split at h
    · rename_i v st e
      (first | exact no h | exact no1 h | exact no2 h | exact noE h | exact noE1 h | obtain rfl := Option.some.inj h | obtain rfl := Except.ok.inj h | obtain rfl := h | cases h)
      exact ⟨st, e⟩
    · (first | exact no h | exact no1 h | exact no2 h | exact noE h | exact noE1 h | obtain rfl := Option.some.inj h | obtain rfl := Except.ok.inj h | obtain rfl := h | cases h)
    · (first | exact no h | exact no1 h | exact no2 h | exact noE h | exact noE1 h | obtain rfl := Option.some.inj h | obtain rfl := Except.ok.inj h | obtain rfl := h | cases h)
  obtain ⟨t', ex⟩ := ex
  refine wpAny_mono (sS _ [] s _ _ ex I htk) (fun fl s1 p => ?_) (fun c s1 p => ?_)
  · obtain ⟨v', ρ', h1, fr, I1, g1⟩ := p
    (first | exact no h1 | exact no1 h1 | exact no2 h1 | exact noE h1 | exact noE1 h1 | obtain rfl := Option.some.inj h1 | obtain rfl := Except.ok.inj h1 | obtain rfl := h1 | cases h1)
    cases fr with
    | ret rv =>
      (first | exact no rv | exact no1 rv | exact no2 rv | exact noE rv | exact noE1 rv | obtain rfl := Option.some.inj rv | obtain rfl := Except.ok.inj rv | obtain rfl := rv | cases rv)
      exact ⟨rfl, I1.ci.base, g1.os, g1.gens⟩
  · obtain ⟨x, e, ρ', _, h2, _⟩ := p
    (first | exact no h2 | exact no1 h2 | exact no2 h2 | exact noE h2 | exact noE1 h2 | obtain rfl := Option.some.inj h2 | obtain rfl := Except.ok.inj h2 | obtain rfl := h2 | cases h2)
end Nt
end

section
open PySem PySem.W PyProof.Rows PySem.Calls PySem.SeqAt Builtin Builtin.ObjectAttr
set_option genSizeOf false
set_option genInjectivity false
set_option maxRecDepth 100000
set_option maxHeartbeats 8000000
namespace Nt
open NT

theorem done : PySem.Challenge.rw_nt0591_01.Holds := by
  w_on
  refine holds_law said fun said' => ?_
  refine holds_open (q := qq) (loose := []) (Xt := Xt) (XP := XL qq []) (Yf := Hook.obs Hk) (Ya := Hook.val Hk) (YP := Hook.says Hk) (N := 2686) left (Hook.of Hk) (Hook.keeps Hk) (fun s e => xl_of s (Bool.and_eq_true_iff.mp e).1) XL.keeps (by rfl) (by rfl) (by rfl) (fun s e => recFacts_of (Bool.and_eq_true_iff.mp e).2) (by rfl) said' (by decide +kernel) ⟨rfl, rfl, rfl, rfl, rfl, by decide +kernel⟩ ?hw ?hc
  case hw => w_witness2
  w_strict (
    intro w s₀ s₁ mg mb G Y fa o pm cd doc dV kV ho hd hcd hD hmg hg args vals as hpre hlay hrd hwl hlo
    have KX := kIn_of Y
    have X := (Ground.X G).1
    have V := (Ground.X G).2
    refine Ground.open G ?_
    intro T B D TE TW
    try (refine guard_noD D (by decide +kernel) ?_; clear D)
    obtain ⟨_, _, M⟩ := bmod_of_top T
    have TA := at_of_top T
    try (obtain ⟨_, _, he, B0⟩ := based_of_top T rfl hmg ho hd; have he' : cd = _ := he; subst he'; clear he)
    clear hmg
    wrow_args hpre hlay hrd hwl hlo
    all_goals (
      first | refine callC_kw (enter_call ?_) | refine enter_call ?_ | refine callC_kw (enter_callW ?_) | refine enter_callW ?_ | w_how
      w_top on
      try refine codeAny_mono ?_ (fun _ _ g => GoodW.toG g)
      have K0 := below_caller (Top.heap T)
      w_call any ho hd hcd hD T F
      clear hd TA
      k_drop
      skip)
    (all_goals try k_fold)
    rename Top _ _ _ _ _ _ => TT
    rename Frag.In _ _ => KX
    rename Fr _ _ _ _ => FF
    rename Heap.IsList _ _ _ => HL
    rename IntsAre _ _ => HI
    have LEN := ‹¬ (63 : Int) < _›
    have HG := ‹Shared.gens _ = #[]›
    obtain ⟨fd, cd, TB⟩ := base_of (prog := PySem.Challenge.rw_nt0591_01.row.prog) KX TT.g TT.b TT.builtins TT.nolimit
    refine wpAny_mono (law_frame TB (by decide +kernel) rfl FF rfl rfl HL HI (by (first | lia | omega)) rfl (Nat.le_add_left _ _) (D.law_true _ (by (first | lia | omega)))) (fun fl s' p => ?_) (fun _ _ p => p.elim)
    obtain ⟨rfl, hk, hos, hg⟩ := p
    refine ⟨.inl ⟨.bool true, .bool true, [], rfl, fun cls => rfl, ?_, ?_, fun _ => ⟨List.nodup_nil, fun a h => by cases h⟩⟩, hk, hos, hg.trans HG⟩
    · exact .bool true
    · first | rfl | kernel_rfl)
end Nt
end

set_option maxRecDepth 100000 in
set_option maxHeartbeats 8000000 in
theorem PySem.Challenge.cw_nt0591_01_holds : PySem.Challenge.rw_nt0591_01.Holds := by
  exact Nt.done
